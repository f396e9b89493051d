import PyProof.Rows.All
import Wide.All
import OpenK.AllK
import Wide.FinOn
import HandS.ForMost
import HandS.WordsExc
import HandS.IterVal
import KE.KDictKeyed
import HandS.CallSlots
import HandS.Deep
import HandS.Property
import KE.KDictCopyH
import HandS.IsInst
import HandS.SortRule
import HandS.SlotsOwn
import KE.SortData
import HandS.DictComp
import HandS.Defaults
import HandS.OwnIter
import HandS.Walk
import KE.GoesEnum
import HandS.ClsMeth
import HandS.WrittenGet
import KE.KOpsOwn
import PyProof.Rows.TupDisplay
import HandS.ExcIs
import HandS.ExcOwn
import PyProof.TableCode
import PySem.Challenge.RW_unshuffled_k07_rules_numbered
section
set_option Elab.async false
set_option linter.all false
set_option maxRecDepth 100000
/-! C1: the small interpreter: values, cells, syntax, meaning. -/
namespace C
open PySem

/-- values: tuples inline, everything that changes at a place of the store -/
inductive Val where
  | non | bl (b : Bool) | int (i : Int) | str (s : Str) | tup (xs : List Val) | loc (n : Nat)
  /-- a list that is only read (the script) -/
  | ro (xs : List Val)

mutual
def Val.beq : Val → Val → Bool
  | .non, .non => true
  | .bl a, .bl b => a == b
  | .int a, .int b => a == b
  | .str a, .str b => a == b
  | .loc a, .loc b => a == b
  | .tup xs, .tup ys => Val.beqs xs ys
  | .ro xs, .ro ys => Val.beqs xs ys
  | _, _ => false
def Val.beqs : List Val → List Val → Bool
  | [], [] => true
  | x :: xs, y :: ys => Val.beq x y && Val.beqs xs ys
  | _, _ => false
end
mutual
theorem Val.beq_iff : ∀ {a b : Val}, Val.beq a b = true ↔ a = b
  | .non, b => by cases b <;> simp [Val.beq]
  | .bl _, b => by cases b <;> simp [Val.beq]
  | .int _, b => by cases b <;> simp [Val.beq]
  | .str _, b => by cases b <;> simp [Val.beq]
  | .loc _, b => by cases b <;> simp [Val.beq]
  | .tup xs, b => by
    cases b with
    | tup ys => simp only [Val.beq, Val.tup.injEq]; exact Val.beqs_iff
    | _ => simp [Val.beq]
  | .ro xs, b => by
    cases b with
    | ro ys => simp only [Val.beq, Val.ro.injEq]; exact Val.beqs_iff
    | _ => simp [Val.beq]
theorem Val.beqs_iff : ∀ {xs ys : List Val}, Val.beqs xs ys = true ↔ xs = ys
  | [], ys => by cases ys <;> simp [Val.beqs]
  | x :: xs, [] => by simp [Val.beqs]
  | x :: xs, y :: ys => by
    simp only [Val.beqs, Bool.and_eq_true, List.cons.injEq]
    rw [Val.beq_iff, Val.beqs_iff]
end
instance : DecidableEq Val := fun a b => decidable_of_iff _ (Val.beq_iff (a := a) (b := b))

/-- what stands at a place of the store -/
inductive Cell where
  | lst (xs : List Val)
  /-- a dict: how often its keys have changed, its rows -/
  | dct (ep : Nat) (kvs : List (Val × Val))
  /-- an instance: its class, its attributes -/
  | obj (c : Nat) (fs : List (Nat × Val))
  deriving DecidableEq
abbrev Store := List Cell

inductive Res (α : Type) where
  | ok (a : α) (S : Store)
  | exc (c : Nat) (fs : List (Nat × Val)) (S : Store)
  | bad
def Res.bind {α β : Type} (r : Res α) (f : α → Store → Res β) : Res β := match r with
  | .ok a S => f a S
  | .exc c fs S => .exc c fs S
  | .bad => .bad
@[simp] theorem Res.bind_ok {α β : Type} (a : α) (S : Store) (f : α → Store → Res β) : (Res.ok a S).bind f = f a S := rfl
@[simp] theorem Res.bind_exc {α β : Type} (c fs S) (f : α → Store → Res β) : (Res.exc c fs S : Res α).bind f = .exc c fs S := rfl
@[simp] theorem Res.bind_bad {α β : Type} (f : α → Store → Res β) : (Res.bad : Res α).bind f = .bad := rfl
def Res.onB {α : Type} (r : Res Val) (f g : Store → Res α) : Res α := match r with
  | .ok (.bl true) S => f S
  | .ok (.bl false) S => g S
  | .exc c fs S => .exc c fs S
  | _ => .bad
@[simp] theorem Res.onB_true {α : Type} (S : Store) (f g : Store → Res α) : (Res.ok (.bl true) S).onB f g = f S := rfl
@[simp] theorem Res.onB_false {α : Type} (S : Store) (f g : Store → Res α) : (Res.ok (.bl false) S).onB f g = g S := rfl
@[simp] theorem Res.onB_exc {α : Type} (c fs S) (f g : Store → Res α) : (Res.exc c fs S : Res Val).onB f g = .exc c fs S := rfl
@[simp] theorem Res.onB_bad {α : Type} (f g : Store → Res α) : (Res.bad : Res Val).onB f g = .bad := rfl
theorem Res.onB_bl {α : Type} (b : Bool) (S : Store) (f g : Store → Res α) : (Res.ok (.bl b) S).onB f g = if b = true then f S else g S := by cases b <;> rfl
/-- nothing may be raised -/
def Res.calm {α : Type} (r : Res α) : Res α := match r with
  | .exc _ _ _ => .bad
  | r => r
@[simp] theorem Res.calm_ok {α : Type} (a : α) (S : Store) : (Res.ok a S).calm = .ok a S := rfl
@[simp] theorem Res.calm_exc {α : Type} (c fs S) : (Res.exc c fs S : Res α).calm = .bad := rfl
@[simp] theorem Res.calm_bad {α : Type} : (Res.bad : Res α).calm = .bad := rfl
def Res.of {α : Type} (o : Option α) (S : Store) : Res α := match o with
  | some a => .ok a S
  | none => .bad
@[simp] theorem Res.of_some {α : Type} (a : α) (S : Store) : Res.of (some a) S = .ok a S := rfl
@[simp] theorem Res.of_none {α : Type} (S : Store) : (Res.of none S : Res α) = .bad := rfl

inductive Bop where | add | sub | mul | fdiv | mod | pow | bor | band | bxor
  deriving DecidableEq
inductive Cop where | eq | ne | lt | le | gt | ge | isin | notin
  deriving DecidableEq
inductive Ty where | int | bool | str | list | tuple | cls (c : Nat)
  deriving DecidableEq
/-- built-in functions -/
inductive Blt where | len | int | sorted | max2 | min2 | list | ord
  deriving DecidableEq
/-- methods of built-in types -/
inductive Bm where | append | extend | index | insert | pop | setdefault | join
  deriving DecidableEq

inductive E where
  | nop
  | var (i : Nat)
  | cst (v : Val)
  | bin (op : Bop) (a b : E)
  | neg (a : E) | inv (a : E)
  | cmp (op : Cop) (a b : E)
  | isN (a : E) | notN (a : E)
  | chain (o1 o2 : Cop) (a b c : E)
  | and (a b : E) | or (a b : E) | not (a : E)
  | ite (c a b : E)
  | tup (es : List E) | lst (es : List E)
  | dct (ks vs : List E)
  | sub (a i : E)
  | slc (a lo hi : E)
  | attr (a : E) (f : Nat)
  | call (f : Nat) (es : List E)
  | make (c : Nat) (es : List E)
  | meth (a : E) (m : Nat) (es : List E)
  | blt (b : Blt) (es : List E)
  | isi (a : E) (t : Ty)
  /-- a constant dict of the module, at a text -/
  | gsub (kvs : List (Str × Val)) (a : E)
  /-- a property -/
  | prp (a : E) (m : Nat)
  /-- the exception in slot i is asked: n -/
  | exq (i n : Nat)
  /-- a display of a dict of constants -/
  | dcs (kvs : List (Str × Str))
  | bm (m : Bm) (a : E) (es : List E)
  /-- [elt for tg in it if cond]; own: the comprehension's own slots -/
  | lc (own : List Nat) (tg : List Nat) (k : Nat) (src : List E) (cond elt : E)
  | dc (own : List Nat) (tg : List Nat) (k : Nat) (src : List E) (key val : E)

/-- the kinds of things that are walked (the k above): a value, range, enumerate -/
abbrev kVal : Nat := 0
abbrev kRange : Nat := 1
abbrev kEnum : Nat := 2

inductive S where
  | asg (i : Nat) (e : E)
  | asgT (is : List Nat) (e : E)
  | setF (o : E) (f : Nat) (e : E)
  | setI (o i e : E)
  | aug (i : Nat) (op : Bop) (e : E)
  | expr (e : E)
  | ifs (c : E) (a b : List S)
  | for_ (tg : List Nat) (k : Nat) (src : List E) (body : List S)
  | while_ (c : E) (body : List S)
  | ret (e : E) | retN | brk | pass
  /-- what is not reached -/
  | bad
  /-- an own exception without fields is raised -/
  | raise (c : Nat)
  /-- try: body, except .. as slot i: suite; hit: which classes the clause takes; isT: the answers of the questions in the suite -/
  | try_ (i : Nat) (hit : List (Nat × Bool)) (isT : List (Nat × List (Nat × Bool))) (body suite : List S)

abbrev Env := List (Option Val)
inductive Fl where
  | nx (env : Env) (S : Store) | rt (v : Val) (S : Store) | bk (env : Env) (S : Store)
  | exc (c : Nat) (fs : List (Nat × Val)) (env : Env) (S : Store) | bad

/-- a class: its methods (by name's number, the def's number), its __init__, the attribute that its __iter__ walks -/
structure ClsI where
  meths : List (Nat × Nat)
  init : Option Nat
  fields : List Nat
  /-- the attribute whose list __iter__ walks -/
  itf : Option Nat := none
  slots : Bool := false
  /-- the properties: name's number, the getter's -/
  props : List (Nat × Nat) := []
structure Def where
  np : Nat
  nv : Nat
  body : List S
/-- the text: defs, classes; the numbers of the special methods' names are fixed -/
structure Tab where
  defs : Nat → Option Def
  cls : Nat → Option ClsI
abbrev mIter : Nat := 1
abbrev mContains : Nat := 2
abbrev mOr : Nat := 3
abbrev mAnd : Nat := 4
abbrev mLen : Nat := 5
abbrev mGet : Nat := 6
abbrev mSet : Nat := 7
abbrev mInv : Nat := 8
abbrev mXor : Nat := 9
abbrev mAdd : Nat := 10
abbrev mIadd : Nat := 11
abbrev mNext : Nat := 12

/-- what the meaning leans on -/
structure Cx where
  T : Tab
  call : Nat → List Val → Store → Res Val
  fuel : Nat

def lineC : Nat := 16777216

/-! ### reading the store -/
def lstAt (S : Store) (n : Nat) : Option (List Val) := match S[n]? with
  | some (.lst xs) => some xs
  | _ => none
def dctAt (S : Store) (n : Nat) : Option (Nat × List (Val × Val)) := match S[n]? with
  | some (.dct ep kvs) => some (ep, kvs)
  | _ => none
def objAt (S : Store) (n : Nat) : Option (Nat × List (Nat × Val)) := match S[n]? with
  | some (.obj c fs) => some (c, fs)
  | _ => none
def alloc (c : Cell) (S : Store) : Res Val := .ok (.loc S.length) (S ++ [c])
def newL (xs : List Val) (S : Store) : Res Val := if xs.length ≤ lineC then alloc (.lst xs) S else .bad
/-- what the __iter__ of an instance walks: the list in one of its attributes -/
def iterOf (C : Cx) (c : Nat) (fs : List (Nat × Val)) (S : Store) : Option (Nat × List Val) := match (C.T.cls c).bind (·.itf) with
  | some f => match fs.lookup f with
    | some (.loc m) => (lstAt S m).map fun ys => (m, ys)
    | _ => none
  | none => none
def propOf (C : Cx) (c m : Nat) : Option Nat := (C.T.cls c).bind fun k => k.props.lookup m
def methOf (C : Cx) (c m : Nat) : Option Nat := (C.T.cls c).bind fun k => k.meths.lookup m

/-! ### data: no place of the store within -/
mutual
def Val.data : Val → Bool
  | .loc _ => false
  | .ro _ => false
  | .tup xs => Val.datas xs
  | _ => true
def Val.datas : List Val → Bool
  | [] => true
  | x :: xs => Val.data x && Val.datas xs
end
-- data of one shape, at most n tuples deep: == of these is sameness (no bool meets an int)
mutual
def Val.nb : Val → Nat → Bool
  | .bl _, _ => false
  | .tup _, 0 => false
  | .tup xs, n + 1 => Val.nbs xs n
  | .loc _, _ => false
  | .ro _, _ => false
  | .str s, _ => s.cps.all (· < 0x110000)
  | .non, _ => true
  | .int _, _ => true
def Val.nbs : List Val → Nat → Bool
  | [], _ => true
  | x :: xs, n => Val.nb x n && Val.nbs xs n
end
abbrev Val.noBl (v : Val) : Bool := v.nb 8
abbrev Val.noBls (vs : List Val) : Bool := Val.nbs vs 8
/-- scalars that == tells apart at once -/
def scalV : Val → Val → Bool
  | .non, .non => true | .non, .int _ => true | .int _, .non => true | .non, .bl _ => true | .bl _, .non => true | .non, .str _ => true | .str _, .non => true
  | .int _, .int _ => true | .bl _, .bl _ => true | .str _, .str _ => true
  | .int _, .str _ => true | .str _, .int _ => true | .bl _, .str _ => true | .str _, .bl _ => true
  | _, _ => false
/-- == -/
def eqVal (a b : Val) : Option Bool := if scalV a b || (a.noBl && b.noBl) then some (decide (a = b)) else none

/-! ### dict keys: ints and texts, or tuples -/
def isMix : Val → Bool
  | .int _ => true
  | .str _ => true
  | _ => false
def isTupK : Val → Bool
  | .tup xs => Val.nb (.tup xs) 8
  | _ => false
def keyOk (k : Val) (kvs : List (Val × Val)) : Bool := (isMix k && kvs.all fun p => isMix p.1) || (isTupK k && kvs.all fun p => isTupK p.1)
def putK (k v : Val) : List (Val × Val) → List (Val × Val)
  | [] => [(k, v)]
  | (g, x) :: r => if g = k then (g, v) :: r else (g, x) :: putK k v r
def hasK (k : Val) (kvs : List (Val × Val)) : Bool := kvs.any fun p => decide (p.1 = k)
def putD (k v : Val) (ep : Nat) (kvs : List (Val × Val)) : Cell := .dct (if hasK k kvs = true then ep else ep + 1) (putK k v kvs)

def isPair : Val → Option (Int × Int)
  | .tup [.int a, .int b] => some (a, b)
  | _ => none
def pairs (xs : List Val) : Option (List (Int × Int)) := xs.mapM isPair
def ltPair (a b : Int × Int) : Bool := decide (a.1 < b.1) || (a.1 == b.1 && decide (a.2 < b.2))
def lePair (a b : Int × Int) : Bool := decide (a.1 < b.1 ∨ (a.1 = b.1 ∧ a.2 ≤ b.2))
def isInt : Val → Option Int
  | .int i => some i
  | _ => none
def mkPair (p : Int × Int) : Val := .tup [.int p.1, .int p.2]

def ltVal : Val → Val → Option Bool
  | .int a, .int b => some (decide (a < b))
  | .tup [.int a, .int b], .tup [.int c, .int d] => some (ltPair (a, b) (c, d))
  | _, _ => none

/-! ### operators on values -/
def special (C : Cx) (S : Store) (m : Nat) (n : Nat) : Option Nat := (objAt S n).bind fun p => if p.2.lookup m = none then methOf C p.1 m else none
/-- a op b of two instances of one class -/
def ownBin (C : Cx) (m : Nat) (x y : Val) (S : Store) : Res Val := match x, y with
  | .loc a, .loc b => match special C S m a, objAt S a, objAt S b with
    | some f, some (c, _), some (d, _) => if c = d then C.call f [.loc a, .loc b] S else .bad
    | _, _, _ => .bad
  | _, _ => .bad
/-- v in o, o an instance -/
def ownIn (C : Cx) (neg : Bool) (x : Val) (n : Nat) (S : Store) : Res Val := match special C S mContains n with
  | some f => (C.call f [.loc n, x] S).bind fun v S1 => match v with
    | .bl b => .ok (.bl (if neg then !b else b)) S1
    | _ => .bad
  | none => .bad
def isBlV : Val → Bool
  | .bl _ => true
  | _ => false
/-- == of x and each of xs is sameness -/
def inOk (x : Val) (xs : List Val) : Bool := (x.noBl && Val.noBls xs) || (isBlV x && xs.all isBlV)
def inL (neg : Bool) (x : Val) (xs : List Val) (S : Store) : Res Val := if inOk x xs then .ok (.bl (if neg then !xs.contains x else xs.contains x)) S else .bad
def inV (C : Cx) (neg : Bool) (x y : Val) (S : Store) : Res Val := match y with
  | .loc n => match S[n]? with
    | some (.lst xs) => inL neg x xs S
    | some (.obj _ _) => ownIn C neg x n S
    | some (.dct _ kvs) => if keyOk x kvs then .ok (.bl (if neg then !hasK x kvs else hasK x kvs)) S else .bad
    | _ => .bad
  | .tup xs => inL neg x xs S
  | _ => .bad
def binV (C : Cx) (op : Bop) (x y : Val) (S : Store) : Res Val :=
  match op, x, y with
  | .add, .int i, .int j => .ok (.int (i + j)) S
  | .sub, .int i, .int j => .ok (.int (i - j)) S
  | .mul, .int i, .int j => if decide (i.natAbs < 2 ^ 64) || decide (j.natAbs < 2 ^ 64) then .ok (.int (i * j)) S else .bad
  | .fdiv, .int i, .int j => if decide (0 < j) && decide (j < 1073741824) then .ok (.int (i / j)) S else .bad
  | .mod, .int i, .int j => if decide (0 < j) then .ok (.int (i % j)) S else .bad
  | .pow, .int i, .int j => if decide (0 ≤ j) && decide (j ≤ 1000000) && decide (i.natAbs < 2 ^ 64) then .ok (.int (i ^ j.toNat)) S else .bad
  | .add, .str a, .str b => if a.length + b.length ≤ lineC then .ok (.str (a ++ b)) S else .bad
  | .add, .loc a, .loc b => match S[a]?, S[b]? with
    | some (.lst xs), some (.lst ys) => newL (xs ++ ys) S
    | _, _ => .bad
  | .bor, x, y => ownBin C mOr x y S
  | .band, x, y => ownBin C mAnd x y S
  | .bxor, x, y => ownBin C mXor x y S
  | _, _, _ => .bad

def cmpV (C : Cx) (op : Cop) (x y : Val) (S : Store) : Res Val :=
  match op with
  | .eq => match eqVal x y with | some b => .ok (.bl b) S | none => .bad
  | .ne => match eqVal x y with | some b => .ok (.bl (!b)) S | none => .bad
  | .lt => match ltVal x y with | some b => .ok (.bl b) S | none => .bad
  | .gt => match x, y with | .int i, .int j => .ok (.bl (decide (j < i))) S | _, _ => .bad
  | .le => match x, y with | .int i, .int j => .ok (.bl (decide (i ≤ j))) S | _, _ => .bad
  | .ge => match x, y with | .int i, .int j => .ok (.bl (decide (j ≤ i))) S | _, _ => .bad
  | .isin => inV C false x y S
  | .notin => inV C true x y S

def subV (C : Cx) (x y : Val) (S : Store) : Res Val :=
  match x, y with
  | .tup xs, .int i => Res.of (L2.atI xs i) S
  | .ro xs, .int i => Res.of (L2.atI xs i) S
  | .loc n, y => match S[n]? with
    | some (.lst xs) => match y with | .int i => Res.of (L2.atI xs i) S | _ => .bad
    | some (.dct _ kvs) => if keyOk y kvs then Res.of (kvs.lookup y) S else .bad
    | some (.obj c _) => match methOf C c mGet with
      | some f => C.call f [.loc n, y] S
      | none => .bad
    | _ => .bad
  | _, _ => .bad

def cutL {α : Type} (xs : List α) (lo hi : Option Int) : List α := (xs.drop (HT.sIx xs.length 0 lo)).take (HT.sIx xs.length xs.length hi - HT.sIx xs.length 0 lo)
def slcV (x : Val) (lo hi : Option Int) (S : Store) : Res Val :=
  match x with
  | .loc n => match lstAt S n with
    | some xs => newL (cutL xs lo hi) S
    | none => .bad
  | .ro xs => newL (cutL xs lo hi) S
  | _ => .bad

def attrV (x : Val) (f : Nat) (S : Store) : Res Val := match x with
  | .loc n => match objAt S n with
    | some (_, fs) => Res.of (fs.lookup f) S
    | none => .bad
  | _ => .bad
def put (f : Nat) (v : Val) : List (Nat × Val) → List (Nat × Val)
  | [] => [(f, v)]
  | (g, x) :: r => if g = f then (g, v) :: r else (g, x) :: put f v r
def setFV (C : Cx) (x : Val) (f : Nat) (v : Val) (S : Store) : Option Store := match x with
  | .loc n => match objAt S n with
    | some (c, fs) => match C.T.cls c with
      | some ci => if ci.fields.contains f && decide (fs.length < 900) then some (S.set n (.obj c (put f v fs))) else none
      | none => none
    | none => none
  | _ => none
def setIV (C : Cx) (x i v : Val) (S : Store) : Res Unit := match x with
  | .loc n => match S[n]? with
    | some (.lst xs) => match i with
      | .int j => if decide (0 ≤ j) && decide (j < xs.length) then .ok () (S.set n (.lst (xs.set j.toNat v))) else .bad
      | _ => .bad
    | some (.dct ep kvs) => if keyOk i kvs && decide (kvs.length < lineC) then .ok () (S.set n (putD i v ep kvs)) else .bad
    | some (.obj c _) => match methOf C c mSet with
      | some f => (C.call f [.loc n, i, v] S).bind fun _ S1 => .ok () S1
      | none => .bad
    | _ => .bad
  | _ => .bad

def lenV (xs : List Val) (S : Store) : Res Val := match xs with
  | [.str s] => if s.length ≤ lineC then .ok (.int s.length) S else .bad
  | [.tup ys] => .ok (.int ys.length) S
  | [.loc n] => match S[n]? with
    | some (.lst ys) => .ok (.int ys.length) S
    | some (.dct _ kvs) => .ok (.int kvs.length) S
    | _ => .bad
  | [.ro ys] => .ok (.int ys.length) S
  | _ => .bad
def intV (xs : List Val) (S : Store) : Res Val := match xs with
  | [.int i] => .ok (.int i) S
  | [.bl b] => .ok (.int (if b then 1 else 0)) S
  | _ => .bad
def max2V (xs : List Val) (S : Store) : Res Val := match xs with
  | [.int i, .int j] => .ok (.int (if j > i then j else i)) S
  | _ => .bad
def min2V (xs : List Val) (S : Store) : Res Val := match xs with
  | [.int i, .int j] => .ok (.int (if j < i then j else i)) S
  | _ => .bad
def sortedV (xs : List Val) (S : Store) : Res Val := match xs with
  | [.loc n] => match S[n]? with
    | some (.lst ys) => match pairs ys with
      | some ps => newL ((ps.mergeSort lePair).map mkPair) S
      | none => match ys.mapM isInt with
        | some is => newL ((is.mergeSort fun a b => decide (a ≤ b)).map Val.int) S
        | none => .bad
    | _ => .bad
  | _ => .bad
def listV (C : Cx) (xs : List Val) (S : Store) : Res Val := match xs with
  | [.loc n] => match S[n]? with
    | some (.lst ys) => newL ys S
    | some (.obj c fs) => match iterOf C c fs S with
      | some (_, ys) => newL ys S
      | none => .bad
    | _ => .bad
  | [.ro ys] => newL ys S
  | [.tup ys] => newL ys S
  | _ => .bad
def ordV (xs : List Val) (S : Store) : Res Val := match xs with
  | [.str s] => if s.length = 1 then .ok (.int (s.cps.getD 0 0 : Nat)) S else .bad
  | _ => .bad
def bltV (C : Cx) (b : Blt) (xs : List Val) (S : Store) : Res Val :=
  match b with
  | .len => lenV xs S
  | .int => intV xs S
  | .max2 => max2V xs S
  | .min2 => min2V xs S
  | .sorted => sortedV xs S
  | .list => listV C xs S
  | .ord => ordV xs S

/-- the kind of a value -/
inductive Kd where | non | bl | int | str | tup | lst | dct | obj (c : Nat)
  deriving DecidableEq
def kindOf (x : Val) (S : Store) : Option Kd := match x with
  | .non => some .non
  | .bl _ => some .bl
  | .int _ => some .int
  | .str _ => some .str
  | .tup _ => some .tup
  | .ro _ => some .lst
  | .loc n => match S[n]? with
    | some (.lst _) => some .lst
    | some (.dct _ _) => none
    | some (.obj c _) => some (.obj c)
    | none => none
def Kd.is : Kd → Ty → Option Bool
  | .obj c, .cls d => some (c == d)
  | .obj _, _ => none
  | _, .cls _ => none
  | .int, .int => some true
  | .bl, .int => some true
  | .bl, .bool => some true
  | .str, .str => some true
  | .lst, .list => some true
  | .tup, .tuple => some true
  | _, _ => some false
def isiV (x : Val) (t : Ty) (S : Store) : Res Val := match (kindOf x S).bind (·.is t) with
  | some b => .ok (.bl b) S
  | none => .bad

/-- what a method wants of its object, ahead of the arguments -/
def bmTy (m : Bm) (x : Val) (S : Store) : Bool := match m, x with
  | .join, .str _ => true
  | .join, _ => false
  | .setdefault, .loc n => (dctAt S n).isSome
  | .setdefault, _ => false
  | _, .loc n => (lstAt S n).isSome
  | _, _ => false
def appendV (x : Val) (ys : List Val) (S : Store) : Res Val := match x, ys with
  | .loc n, [y] => match S[n]? with
    | some (.lst xs) => if xs.length < lineC then .ok .non (S.set n (.lst (xs ++ [y]))) else .bad
    | _ => .bad
  | _, _ => .bad
def bmV (m : Bm) (x : Val) (ys : List Val) (S : Store) : Res Val :=
  match m with
  | .append => appendV x ys S
  | _ => .bad

/-! ### what is walked -/
/-- what must stand while it is walked -/
inductive Held where
  | non
  | lst (n : Nat) (xs : List Val)
  /-- a dict's keys -/
  | dct (n ep : Nat) (ks : List Val)
structure Src where
  items : List Val
  held : Held
def Held.ok (h : Held) (S : Store) : Bool := match h with
  | .non => true
  | .lst n xs => decide (lstAt S n = some xs)
  | .dct n ep ks => match dctAt S n with
    | some (ep', kvs) => decide (ep' = ep) && decide (kvs.map (·.1) = ks)
    | none => false
abbrev Src.ok (s : Src) (S : Store) : Bool := s.held.ok S
def walkV (C : Cx) (v : Val) (S : Store) : Option Src := match v with
  | .loc n => match S[n]? with
    | some (.lst xs) => some ⟨xs, .lst n xs⟩
    | some (.dct ep kvs) => some ⟨kvs.map (·.1), .dct n ep (kvs.map (·.1))⟩
    | _ => none
  | .tup xs => some ⟨xs, .non⟩
  | .ro xs => some ⟨xs, .non⟩
  | _ => none
/-- what enumerate may walk -/
def walkE (v : Val) (S : Store) : Option Src := match v with
  | .loc n => (lstAt S n).map fun xs => ⟨xs, .lst n xs⟩
  | .tup xs => some ⟨xs, .non⟩
  | .ro xs => some ⟨xs, .non⟩
  | _ => none
def rng1V (vs : List Val) : Option Src := match vs with
  | [.int j] => if decide (-(2 ^ 62) ≤ j) && decide (j < 2 ^ 62) then some ⟨(List.range j.toNat).map fun (i : Nat) => .int (i : Int), .non⟩ else none
  | _ => none
def rng2V (vs : List Val) : Option Src := match vs with
  | [.int i, .int j] => if decide (-(2 ^ 62) ≤ i) && decide (i < 2 ^ 62) && decide (-(2 ^ 62) ≤ j) && decide (j < 2 ^ 62) then some ⟨(List.range (j - i).toNat).map fun (k : Nat) => .int (i + (k : Int)), .non⟩ else none
  | _ => none
def enumV (xs : List Val) : List Val := (xs.zipIdx).map fun p => .tup [.int (p.2 : Int), p.1]
/-- what is walked, by its kind: 0 a value, 1 range(j), 2 range(i, j), 3 enumerate(value) -/
def srcV (C : Cx) (k : Nat) (vs : List Val) (S : Store) : Option Src := match k with
  | 0 => match vs with
    | [v] => walkV C v S
    | _ => none
  | 1 => rng1V vs
  | 2 => rng2V vs
  | 3 => match vs with
    | [v] => (walkE v S).map fun s => ⟨enumV s.items, s.held⟩
    | _ => none
  | _ => none
def setAll : List Nat → List Val → Env → Option Env
  | [], [], env => some env
  | i :: is, x :: xs, env => setAll is xs (env.set i (some x))
  | _, _, _ => none
def setN (is : List Nat) (v : Val) (env : Env) : Option Env := match is with
  | [i] => some (env.set i (some v))
  | is => match v with
    | .tup xs => setAll is xs env
    | _ => none
def wipeE (env : Env) : List Nat → Env
  | [] => env
  | v :: vs => (wipeE env vs).set v none

/-! ### meaning -/
/-- a turn's end in a list comprehension -/
def addL (D : Nat) (y : Val) (S : Store) (k : Store → Res Val) : Res Val := match S[D]? with
  | some (.lst acc) => if acc.length < lineC then k (S.set D (.lst (acc ++ [y]))) else .bad
  | _ => .bad
def addD (D : Nat) (key y : Val) (S : Store) (k : Store → Res Val) : Res Val := match S[D]? with
  | some (.dct ep kvs) => if (keyOk key kvs && decide (kvs.length < lineC)) = true then k (S.set D (putD key y ep kvs)) else .bad
  | _ => .bad
/-- the turns of a comprehension: D the new list -/
def lcGo (cond elt : Env → Store → Res Val) (own tg : List Nat) (s : Src) (D : Nat) (env : Env) : List Val → Store → Res Val
  | [], S => if s.ok S = true then .ok (.loc D) S else .bad
  | x :: xs, S => if s.ok S = true then (Res.of (setN tg x (wipeE env own)) S).bind fun env1 S => (cond env1 S).calm.onB (fun S1 => (elt env1 S1).calm.bind fun y S2 => addL D y S2 fun S3 => lcGo cond elt own tg s D env xs S3) (fun S1 => lcGo cond elt own tg s D env xs S1) else .bad
def dcGo (key val : Env → Store → Res Val) (own tg : List Nat) (s : Src) (D : Nat) (env : Env) : List Val → Store → Res Val
  | [], S => if s.ok S = true then .ok (.loc D) S else .bad
  | x :: xs, S => if s.ok S = true then (Res.of (setN tg x (wipeE env own)) S).bind fun env1 S => (key env1 S).calm.bind fun k S1 => (val env1 S1).calm.bind fun y S2 => addD D k y S2 fun S3 => dcGo key val own tg s D env xs S3 else .bad
def part : Val → Option (Option Int)
  | .non => some none
  | .int i => some (some i)
  | _ => none
def Res.prt (r : Res Val) : Res (Option Int) := r.bind fun v S => match part v with
  | some o => .ok o S
  | none => .bad
mutual
def ev (C : Cx) : E → Env → Store → Res Val
  | .nop, _, S => .ok .non S
  | .var i, env, S => match env[i]? with
    | some (some v) => .ok v S
    | _ => .bad
  | .cst v, _, S => .ok v S
  | .bin op a b, env, S => (ev C a env S).bind fun x S1 => (ev C b env S1).bind fun y S2 => binV C op x y S2
  | .neg a, env, S => (ev C a env S).bind fun x S1 => match x with
    | .int i => .ok (.int (-i)) S1
    | _ => .bad
  | .inv a, env, S => (ev C a env S).bind fun x S1 => match x with
    | .loc n => match special C S1 mInv n with
      | some f => C.call f [.loc n] S1
      | none => .bad
    | _ => .bad
  | .cmp op a b, env, S => (ev C a env S).bind fun x S1 => (ev C b env S1).bind fun y S2 => cmpV C op x y S2
  | .isN a, env, S => (ev C a env S).bind fun x S1 => .ok (.bl (decide (x = .non))) S1
  | .notN a, env, S => (ev C a env S).bind fun x S1 => .ok (.bl (!decide (x = .non))) S1
  | .chain o1 o2 a b c, env, S => (ev C a env S).bind fun x S1 => (ev C b env S1).bind fun y S2 => (cmpV C o1 x y S2).onB (fun S3 => (ev C c env S3).bind fun z S4 => cmpV C o2 y z S4) (fun S3 => .ok (.bl false) S3)
  | .and a b, env, S => (ev C a env S).onB (fun S1 => ev C b env S1) (fun S1 => .ok (.bl false) S1)
  | .or a b, env, S => (ev C a env S).onB (fun S1 => .ok (.bl true) S1) (fun S1 => ev C b env S1)
  | .not a, env, S => (ev C a env S).onB (fun S1 => .ok (.bl false) S1) (fun S1 => .ok (.bl true) S1)
  | .ite c a b, env, S => (ev C c env S).onB (fun S1 => ev C a env S1) (fun S1 => ev C b env S1)
  | .tup es, env, S => (evs C es env S).bind fun xs S1 => if xs.length ≤ lineC then .ok (.tup xs) S1 else .bad
  | .lst es, env, S => (evs C es env S).bind fun xs S1 => newL xs S1
  | .dct ks vs, _, S => match ks, vs with
    | [], [] => alloc (.dct 0 []) S
    | _, _ => .bad
  | .sub a i, env, S => (ev C a env S).bind fun x S1 => (ev C i env S1).bind fun y S2 => subV C x y S2
  | .slc a lo hi, env, S => (ev C a env S).bind fun x S1 => (ev C lo env S1).prt.bind fun l S2 => (ev C hi env S2).prt.bind fun h S3 => slcV x l h S3
  | .attr a f, env, S => (ev C a env S).bind fun x S1 => attrV x f S1
  | .call f es, env, S => (evs C es env S).bind fun xs S1 => C.call f xs S1
  | .make c es, env, S => (evs C es env S).bind fun xs S1 => match (C.T.cls c).bind (·.init) with
    | some f => (C.call f (.loc S1.length :: xs) (S1 ++ [.obj c []])).bind fun v S2 => if v = .non then .ok (.loc S1.length) S2 else .bad
    | none => .bad
  | .meth a m es, env, S => (ev C a env S).bind fun x S1 => match x with
    | .loc n => match special C S1 m n with
      | some f => (evs C es env S1).bind fun xs S2 => C.call f (.loc n :: xs) S2
      | none => .bad
    | _ => .bad
  | .blt b es, env, S => (evs C es env S).bind fun xs S1 => bltV C b xs S1
  | .isi a t, env, S => (ev C a env S).bind fun x S1 => isiV x t S1
  | .gsub kvs a, env, S => (ev C a env S).bind fun x S1 => match x with
    | .str s => Res.of (kvs.lookup s) S1
    | _ => .bad
  | .prp a m, env, S => (ev C a env S).bind fun x S1 => match x with
    | .loc n => match (objAt S1 n).bind fun p => propOf C p.1 m with
      | some f => (C.call f [.loc n] S1).calm
      | none => .bad
    | _ => .bad
  | .exq i n, env, S => match env[i]? with
    | some none => C.call n [] S
    | _ => .bad
  | .dcs kvs, _, S => alloc (.dct kvs.length (kvs.map fun p => (.str p.1, .str p.2))) S
  | .bm m a es, env, S => (ev C a env S).bind fun x S1 => if bmTy m x S1 = true then (evs C es env S1).bind fun xs S2 => bmV m x xs S2 else .bad
  | .lc own tg k src cond elt, env, S => (evs C src env S).bind fun vs S1 => (Res.of (srcV C k vs S1) S1).bind fun s S1 => lcGo (fun e S => ev C cond e S) (fun e S => ev C elt e S) own tg s S1.length env s.items (S1 ++ [.lst []])
  | .dc own tg k src key val, env, S => (evs C src env S).bind fun vs S1 => (Res.of (srcV C k vs S1) S1).bind fun s S1 => dcGo (fun e S => ev C key e S) (fun e S => ev C val e S) own tg s S1.length env s.items (S1 ++ [.dct 0 []])
def evs (C : Cx) : List E → Env → Store → Res (List Val)
  | [], _, S => .ok [] S
  | e :: es, env, S => (ev C e env S).bind fun x S1 => (evs C es env S1).bind fun xs S2 => .ok (x :: xs) S2
end

/-- behind a statement -/
def Fl.seq (r : Fl) (k : Env → Store → Fl) : Fl := match r with
  | .nx env S => k env S
  | r => r
@[simp] theorem Fl.seq_nx (env S) (k : Env → Store → Fl) : (Fl.nx env S).seq k = k env S := rfl
@[simp] theorem Fl.seq_rt (v S) (k : Env → Store → Fl) : (Fl.rt v S).seq k = .rt v S := rfl
@[simp] theorem Fl.seq_bk (env S) (k : Env → Store → Fl) : (Fl.bk env S).seq k = .bk env S := rfl
@[simp] theorem Fl.seq_exc (c fs env S) (k : Env → Store → Fl) : (Fl.exc c fs env S).seq k = .exc c fs env S := rfl
@[simp] theorem Fl.seq_bad (k : Env → Store → Fl) : (Fl.bad).seq k = .bad := rfl
/-- behind a turn of a loop -/
def Fl.turn (r : Fl) (k : Env → Store → Fl) : Fl := match r with
  | .nx env S => k env S
  | .bk env S => .nx env S
  | r => r
@[simp] theorem Fl.turn_nx (env S) (k : Env → Store → Fl) : (Fl.nx env S).turn k = k env S := rfl
@[simp] theorem Fl.turn_rt (v S) (k : Env → Store → Fl) : (Fl.rt v S).turn k = .rt v S := rfl
@[simp] theorem Fl.turn_bk (env S) (k : Env → Store → Fl) : (Fl.bk env S).turn k = .nx env S := rfl
@[simp] theorem Fl.turn_exc (c fs env S) (k : Env → Store → Fl) : (Fl.exc c fs env S).turn k = .exc c fs env S := rfl
@[simp] theorem Fl.turn_bad (k : Env → Store → Fl) : (Fl.bad).turn k = .bad := rfl
/-- behind a test -/
def Res.flB (r : Res Val) (env : Env) (f g : Store → Fl) : Fl := match r with
  | .ok (.bl true) S => f S
  | .ok (.bl false) S => g S
  | .exc c fs S => .exc c fs env S
  | _ => .bad
@[simp] theorem Res.flB_true (S env) (f g : Store → Fl) : (Res.ok (.bl true) S).flB env f g = f S := rfl
@[simp] theorem Res.flB_false (S env) (f g : Store → Fl) : (Res.ok (.bl false) S).flB env f g = g S := rfl
@[simp] theorem Res.flB_exc (c fs S env) (f g : Store → Fl) : (Res.exc c fs S).flB env f g = .exc c fs env S := rfl
@[simp] theorem Res.flB_bad (env) (f g : Store → Fl) : (Res.bad).flB env f g = .bad := rfl
theorem Res.flB_bl (b : Bool) (S env) (f g : Store → Fl) : (Res.ok (.bl b) S).flB env f g = if b = true then f S else g S := by cases b <;> rfl
/-- behind a value -/
def Res.fl {α : Type} (r : Res α) (env : Env) (k : α → Store → Fl) : Fl := match r with
  | .ok v S => k v S
  | .exc c fs S => .exc c fs env S
  | .bad => .bad
@[simp] theorem Res.fl_ok {α : Type} (v : α) (S env) (k : α → Store → Fl) : (Res.ok v S).fl env k = k v S := rfl
@[simp] theorem Res.fl_exc {α : Type} (c fs S env) (k : α → Store → Fl) : (Res.exc c fs S).fl env k = .exc c fs env S := rfl
@[simp] theorem Res.fl_bad {α : Type} (env) (k : α → Store → Fl) : (Res.bad).fl env k = .bad := rfl
/-- the turns of a for: body tells the flow of a turn -/
def forGo (body : Env → Store → Fl) (tg : List Nat) (s : Src) : List Val → Env → Store → Fl
  | [], env, S => if s.ok S = true then .nx env S else .bad
  | x :: xs, env, S => if s.ok S = true then (Res.of (setN tg x env) S).fl env fun env1 S => (body env1 S).turn fun env2 S2 => forGo body tg s xs env2 S2 else .bad
def whileGo (test : Env → Store → Res Val) (body : Env → Store → Fl) : Nat → Env → Store → Fl
  | 0, _, _ => .bad
  | n + 1, env, S => (test env S).flB env (fun S1 => (body env S1).turn fun env2 S2 => whileGo test body n env2 S2) (fun S1 => .nx env S1)
/-- what the suite's questions are answered, the exception of class c without fields -/
def curCall (T : Tab) (c : Nat) (isT : List (Nat × List (Nat × Bool))) : Nat → List Val → Store → Res Val := fun n _ S => match T.defs n with
  | some _ => .bad
  | none => match (isT.lookup c).bind fun l => l.lookup n with
    | some b => .ok (.bl b) S
    | none => .bad
/-- behind the suite: the slot is empty -/
def Fl.left (i : Nat) (r : Fl) : Fl := match r with
  | .nx env S => .nx (env.set i none) S
  | .bk env S => .bk (env.set i none) S
  | .rt v S => .rt v S
  | _ => .bad
@[simp] theorem Fl.left_nx (i env S) : (Fl.nx env S).left i = .nx (env.set i none) S := rfl
@[simp] theorem Fl.left_bk (i env S) : (Fl.bk env S).left i = .bk (env.set i none) S := rfl
@[simp] theorem Fl.left_rt (i v S) : (Fl.rt v S).left i = .rt v S := rfl
/-- behind the body of a try -/
def Fl.tried (r : Fl) (i : Nat) (hit : List (Nat × Bool)) (k : Nat → Env → Store → Fl) : Fl := match r with
  | .exc c fs env S => match hit.lookup c with
    | some true => if fs = [] then (k c (env.set i none) S).left i else .bad
    | some false => .exc c fs env S
    | none => .bad
  | r => r
mutual
def ex (C : Cx) : S → Env → Store → Fl
  | .asg i e, env, S => (ev C e env S).fl env fun v S1 => .nx (env.set i (some v)) S1
  | .asgT is e, env, S => (ev C e env S).fl env fun v S1 => (Res.of (setN is v env) S1).fl env fun env1 S1 => .nx env1 S1
  | .setF o f e, env, S => (ev C e env S).fl env fun v S1 => (ev C o env S1).fl env fun x S2 => (Res.of (setFV C x f v S2) S2).fl env fun S3 _ => .nx env S3
  | .setI o i e, env, S => (ev C e env S).fl env fun v S1 => (ev C o env S1).fl env fun x S2 => (ev C i env S2).fl env fun j S3 => (setIV C x j v S3).fl env fun _ S4 => .nx env S4
  | .aug i op e, env, S => (Res.of (env[i]?.bind id) S).fl env fun x S => (ev C e env S).fl env fun y S1 => (binV C op x y S1).fl env fun z S2 => .nx (env.set i (some z)) S2
  | .expr e, env, S => (ev C e env S).fl env fun _ S1 => .nx env S1
  | .ifs c a b, env, S => (ev C c env S).flB env (fun S1 => exs C a env S1) (fun S1 => exs C b env S1)
  | .for_ tg k src body, env, S => ((evs C src env S).bind fun vs S1 => Res.of (srcV C k vs S1) S1).fl env fun s S1 => forGo (fun e S => exs C body e S) tg s s.items env S1
  | .while_ c body, env, S => whileGo (fun e S => ev C c e S) (fun e S => exs C body e S) C.fuel env S
  | .ret e, env, S => (ev C e env S).fl env fun v S1 => .rt v S1
  | .retN, _, S => .rt .non S
  | .brk, env, S => .bk env S
  | .pass, env, S => .nx env S
  | .bad, _, _ => .bad
  | .raise c, env, S => .exc c [] env S
  | .try_ i hit isT body suite, env, S => (exs C body env S).tried i hit fun c env S => exs ⟨C.T, curCall C.T c isT, C.fuel⟩ suite env S
def exs (C : Cx) : List S → Env → Store → Fl
  | [], env, S => .nx env S
  | s :: ss, env, S => (ex C s env S).seq fun env1 S1 => exs C ss env1 S1
end
/-- what a call gives -/
def Fl.res (r : Fl) : Res Val := match r with
  | .rt v S => .ok v S
  | .nx _ S => .ok .non S
  | .exc c fs _ S => .exc c fs S
  | _ => .bad
/-- a def's call, the calls within one level down -/
def runDef (C : Cx) (d : Def) (vs : List Val) (S : Store) : Res Val :=
  if vs.length = d.np then (exs C d.body (vs.map some ++ List.replicate (d.nv - d.np) none) S).res else .bad
def callM (T : Tab) (fuel : Nat) : Nat → Nat → List Val → Store → Res Val
  | 0, _, _, _ => .bad
  | k + 1, f, vs, S => match T.defs f with
    | some d => runDef ⟨T, callM T fuel k, fuel⟩ d vs S
    | none => .bad
end C
end
section
set_option Elab.async false
set_option linter.all false
set_option maxRecDepth 100000
/-! C2: how values, the store lie in the abstract heap. -/
namespace C
open PySem L2 ItX

/-- a list that nobody writes: known as a frozen one, or an object of the written part -/
def SqR (K : PySem.W.Frag) (H : Hp) (a : Addr) (xs : List V) : Prop :=
  (∃ o, H a = some (.frz o (.lst xs))) ∨
    ∃ (o : Obj) (its : Array Value) (n : Nat), K.lookup a = some o ∧ o.cls = .type "list" ∧ o.dict = none ∧ o.data = .seq its n ∧ its.size ≤ sizeLine ∧ Vals xs its.toList
theorem SqR.sql {K : PySem.W.Frag} {H : Hp} {a : Addr} {xs : List V} (h : SqR K H a xs) : SqL K H a xs := by
  rcases h with h | h
  · exact .inl (.inr h)
  · exact .inr h
theorem SqR.of {K : PySem.W.Frag} {H : Hp} {a : Addr} {xs : List V} (h : SqL K H a xs) (n : H a ≠ some (.lst xs)) : SqR K H a xs := by
  rcases h with (h | h) | h
  · exact absurd h n
  · exact .inl h
  · exact .inr h

mutual
def VR (K : PySem.W.Frag) (ρ : List Addr) (H : Hp) : Val → V → Prop
  | .non, x => x = .non
  | .bl b, x => x = .bl b
  | .int i, x => x = .int i
  | .str s, x => x = .str s
  | .loc n, x => ∃ a, x = .ref a ∧ ρ[n]? = some a
  | .tup vs, x => ∃ a xs, x = .ref a ∧ SqT K H a xs ∧ VRs K ρ H vs xs
  | .ro vs, x => ∃ a xs, x = .ref a ∧ SqR K H a xs ∧ VRs K ρ H vs xs
def VRs (K : PySem.W.Frag) (ρ : List Addr) (H : Hp) : List Val → List V → Prop
  | [], xs => xs = []
  | v :: vs, xs => ∃ y ys, xs = y :: ys ∧ VR K ρ H v y ∧ VRs K ρ H vs ys
end

section
variable {K : PySem.W.Frag} {ρ ρ' : List Addr} {H H' : Hp}

/-- what a value leans on stays -/
structure Keep (H H' : Hp) : Prop where
  tup : ∀ b xs, H b = some (.tup xs) → H' b = some (.tup xs)
  frz : ∀ b o u, H b = some (.frz o u) → H' b = some (.frz o u)
theorem Keep.refl (H : Hp) : Keep H H := ⟨fun _ _ h => h, fun _ _ _ h => h⟩
theorem Keep.trans {H1 : Hp} (a : Keep H H1) (b : Keep H1 H') : Keep H H' := ⟨fun c x h => b.tup c x (a.tup c x h), fun c o u h => b.frz c o u (a.frz c o u h)⟩
theorem Keep.new {p : Addr} {o : HO} (h : H p = none) : Keep H (upd H p o) :=
  ⟨fun b xs e => by rw [upd_ne (ne_of_none e h)]; exact e, fun b _ _ e => by rw [upd_ne (ne_of_none e h)]; exact e⟩
/-- a store at what is neither a tuple nor frozen -/
theorem Keep.mut {a : Addr} {o u : HO} (h : H a = some u) (n1 : ∀ xs, u ≠ .tup xs) (n2 : ∀ o x, u ≠ .frz o x) : Keep H (upd H a o) :=
  ⟨fun b xs e => by rw [upd_ne (ne_of e h (fun z => n1 xs z.symm))]; exact e, fun b ob x e => by rw [upd_ne (ne_of e h (fun z => n2 ob x z.symm))]; exact e⟩
theorem SqT.keep {a : Addr} {xs : List V} (k : Keep H H') (h : SqT K H a xs) : SqT K H' a xs := by
  rcases h with (h | ⟨o, h⟩) | h
  · exact .inl (.inl (k.tup _ _ h))
  · exact .inl (.inr ⟨o, k.frz _ _ _ h⟩)
  · exact .inr h
theorem SqR.keep {a : Addr} {xs : List V} (k : Keep H H') (h : SqR K H a xs) : SqR K H' a xs := by
  rcases h with ⟨o, h⟩ | h
  · exact .inl ⟨o, k.frz _ _ _ h⟩
  · exact .inr h
theorem pre_get (p : ρ <+: ρ') {n : Nat} {a : Addr} (h : ρ[n]? = some a) : ρ'[n]? = some a := by
  obtain ⟨t, rfl⟩ := p
  rw [List.getElem?_append_left (List.getElem?_eq_some_iff.mp h).1]; exact h
mutual
theorem VR.mono (p : ρ <+: ρ') (k : Keep H H') : ∀ {v : Val} {x : V}, VR K ρ H v x → VR K ρ' H' v x
  | .non, _, h => h
  | .bl _, _, h => h
  | .int _, _, h => h
  | .str _, _, h => h
  | .loc n, _, h => by
    obtain ⟨a, e, h⟩ := h
    exact ⟨a, e, pre_get p h⟩
  | .tup vs, _, h => by
    obtain ⟨a, xs, e, hq, hs⟩ := h
    exact ⟨a, xs, e, SqT.keep k hq, VRs.mono p k hs⟩
  | .ro vs, _, h => by
    obtain ⟨a, xs, e, hq, hs⟩ := h
    exact ⟨a, xs, e, SqR.keep k hq, VRs.mono p k hs⟩
theorem VRs.mono (p : ρ <+: ρ') (k : Keep H H') : ∀ {vs : List Val} {xs : List V}, VRs K ρ H vs xs → VRs K ρ' H' vs xs
  | [], _, h => h
  | v :: vs, _, h => by
    obtain ⟨y, ys, e, h1, h2⟩ := h
    exact ⟨y, ys, e, VR.mono p k h1, VRs.mono p k h2⟩
end
@[simp] theorem VR_non {x : V} : VR K ρ H .non x ↔ x = .non := Iff.rfl
@[simp] theorem VR_bl {b : Bool} {x : V} : VR K ρ H (.bl b) x ↔ x = .bl b := Iff.rfl
@[simp] theorem VR_int {i : Int} {x : V} : VR K ρ H (.int i) x ↔ x = .int i := Iff.rfl
@[simp] theorem VR_str {s : Str} {x : V} : VR K ρ H (.str s) x ↔ x = .str s := Iff.rfl
theorem VRs.nil : VRs K ρ H [] [] := rfl
theorem VRs.cons {v : Val} {vs : List Val} {y : V} {ys : List V} (h : VR K ρ H v y) (t : VRs K ρ H vs ys) : VRs K ρ H (v :: vs) (y :: ys) := ⟨y, ys, rfl, h, t⟩
theorem VRs.length : ∀ {vs : List Val} {xs : List V}, VRs K ρ H vs xs → vs.length = xs.length
  | [], _, h => by cases h; rfl
  | v :: vs, _, h => by
    obtain ⟨y, ys, rfl, _, h2⟩ := h
    simp [VRs.length h2]
theorem VRs.get : ∀ {vs : List Val} {xs : List V} {i : Nat} {v : Val}, VRs K ρ H vs xs → vs[i]? = some v → ∃ x, xs[i]? = some x ∧ VR K ρ H v x
  | [], _, _, _, h, e => by simp at e
  | w :: vs, _, 0, v, h, e => by
    obtain ⟨y, ys, rfl, h1, h2⟩ := h
    simp at e; subst e
    exact ⟨y, rfl, h1⟩
  | w :: vs, _, i + 1, v, h, e => by
    obtain ⟨y, ys, rfl, h1, h2⟩ := h
    exact VRs.get (i := i) h2 (by simpa using e)
theorem VRs.get' {vs : List Val} {xs : List V} {i : Nat} {x : V} (h : VRs K ρ H vs xs) (e : xs[i]? = some x) : ∃ v, vs[i]? = some v ∧ VR K ρ H v x := by
  have hi : i < vs.length := by rw [h.length]; exact (List.getElem?_eq_some_iff.mp e).1
  obtain ⟨x', e', r⟩ := h.get (List.getElem?_eq_getElem hi)
  rw [e] at e'; cases e'
  exact ⟨_, List.getElem?_eq_getElem hi, r⟩
theorem VRs.append : ∀ {vs ws : List Val} {xs ys : List V}, VRs K ρ H vs xs → VRs K ρ H ws ys → VRs K ρ H (vs ++ ws) (xs ++ ys)
  | [], _, _, _, h, g => by cases h; exact g
  | v :: vs, _, _, _, h, g => by
    obtain ⟨y, ys, rfl, h1, h2⟩ := h
    exact ⟨y, _, rfl, h1, VRs.append h2 g⟩
theorem VRs.take : ∀ {vs : List Val} {xs : List V} (n : Nat), VRs K ρ H vs xs → VRs K ρ H (vs.take n) (xs.take n)
  | _, _, 0, _ => by simp [VRs]
  | [], _, n + 1, h => by cases h; exact rfl
  | v :: vs, _, n + 1, h => by
    obtain ⟨y, ys, rfl, h1, h2⟩ := h
    exact ⟨y, _, rfl, h1, VRs.take n h2⟩
theorem VRs.drop : ∀ {vs : List Val} {xs : List V} (n : Nat), VRs K ρ H vs xs → VRs K ρ H (vs.drop n) (xs.drop n)
  | _, _, 0, h => by simpa using h
  | [], _, n + 1, h => by cases h; exact rfl
  | v :: vs, _, n + 1, h => by
    obtain ⟨y, ys, rfl, h1, h2⟩ := h
    exact VRs.drop n h2
theorem VRs.set {v : Val} {x : V} (r : VR K ρ H v x) : ∀ {vs : List Val} {xs : List V} (i : Nat), VRs K ρ H vs xs → VRs K ρ H (vs.set i v) (xs.set i x)
  | [], _, _, h => by cases h; exact rfl
  | w :: vs, _, 0, h => by
    obtain ⟨y, ys, rfl, h1, h2⟩ := h
    exact ⟨x, ys, rfl, r, h2⟩
  | w :: vs, _, i + 1, h => by
    obtain ⟨y, ys, rfl, h1, h2⟩ := h
    exact ⟨y, _, rfl, h1, VRs.set r i h2⟩
theorem VRs.map {α : Type} {f : α → Val} {g : α → V} (h : ∀ a, VR K ρ H (f a) (g a)) : ∀ l : List α, VRs K ρ H (l.map f) (l.map g)
  | [] => rfl
  | a :: l => ⟨_, _, rfl, h a, VRs.map h l⟩
end

/-! ### the link: what numbers stand for -/
structure FnL where
  a : Addr
  fd : FuncData
  ps : List Str
structure Lk where
  P : Program
  w : World
  K : PySem.W.Frag
  mg : Str → Option Value
  T : Tab
  /-- the names of attributes and methods -/
  names : List Str
  /-- the classes' places -/
  caddr : Nat → Option Addr
  fn : Nat → FnL
  /-- the exception that an except suite holds: its slot, its place -/
  hx : Option (Nat × Addr)

/-! ### dicts, as raw rows -/
mutual
/-- a key of a dict -/
def nk : Val → NestedKey
  | .int i => .num i
  | .str s => .text s
  | .tup xs => .tup (nks xs)
  | _ => .none
def nks : List Val → List NestedKey
  | [] => []
  | x :: xs => nk x :: nks xs
end
/-- the dict's object, told exactly -/
def DX (a : Addr) (es : Array DictEntry) (ep : Nat) : HO := .ext fun h => ∃ o, h.get? a = some o ∧ o.ExactDict ∧ o.data = .dict es ep
theorem dx_ok {P : Program} {w : World} {H : Hp} {h : Heap} {a : Addr} {es : Array DictEntry} {ep : Nat} {o : Obj} (e : h.get? a = some o) (c : o.ExactDict) (d : o.data = .dict es ep) : ObjOk P w H h a (DX a es ep) :=
  ⟨⟨o, e, c, d⟩, ⟨o, e⟩, fun _ _ ⟨o1, e1, c1, d1⟩ k => ⟨o1, k o1 e1, c1, d1⟩⟩
theorem dx_get {P : Program} {w : World} {H : Hp} {h : Heap} {a : Addr} {es : Array DictEntry} {ep : Nat} (hok : HOk P w H h) (e : H a = some (DX a es ep)) : ∃ o, h.get? a = some o ∧ o.ExactDict ∧ o.data = .dict es ep := (hok a _ e).1
/-- the rows -/
def EnR (K : PySem.W.Frag) (w : World) (ρ : List Addr) (H : Hp) : List (Val × Val) → List DictEntry → Prop
  | [], es => es = []
  | p :: ps, es => ∃ en r, es = en :: r ∧ (∃ x, VR K ρ H p.1 x ∧ RelV x en.key) ∧ (∃ y, VR K ρ H p.2 y ∧ RelV y en.val) ∧ en.hash = (nk p.1).hash w ∧ EnR K w ρ H ps r
def FR (L : Lk) (ρ : List Addr) (H : Hp) : List (Nat × Val) → List (Str × V) → Prop
  | [], ys => ys = []
  | p :: ps, ys => ∃ k y r, ys = (k, y) :: r ∧ L.names[p.1]? = some k ∧ VR L.K ρ H p.2 y ∧ FR L ρ H ps r
theorem FR.length {L : Lk} {ρ : List Addr} {H : Hp} : ∀ {fs : List (Nat × Val)} {gs : List (Str × V)}, FR L ρ H fs gs → fs.length = gs.length
  | [], _, h => by cases h; rfl
  | p :: ps, _, h => by
    obtain ⟨k, y, r, rfl, _, _, h2⟩ := h
    simp [FR.length h2]
theorem nd_names {N : List Str} (nd : N.Nodup) {i j : Nat} {x : Str} (a : N[i]? = some x) (b : N[j]? = some x) : i = j := nodup_ix nd a b
theorem FR.look {L : Lk} {ρ : List Addr} {H : Hp} (nd : L.names.Nodup) {f : Nat} {nm : Str} (hn : L.names[f]? = some nm) : ∀ {fs : List (Nat × Val)} {gs : List (Str × V)}, FR L ρ H fs gs →
    match fs.lookup f with
    | some v => ∃ y, gs.lookup nm = some y ∧ VR L.K ρ H v y
    | none => gs.lookup nm = none
  | [], _, h => by cases h; rfl
  | p :: ps, _, h => by
    obtain ⟨k, y, r, rfl, h0, h1, h2⟩ := h
    by_cases e : f = p.1
    · subst e
      have ek : nm = k := Option.some.inj (hn.symm.trans h0)
      subst ek
      simp only [List.lookup, beq_self_eq_true]
      exact ⟨y, rfl, h1⟩
    · have ek : ¬ nm = k := fun z => e (nd_names nd hn (z ▸ h0))
      have b1 : (f == p.1) = false := beq_eq_false_iff_ne.mpr e
      have b2 : (nm == k) = false := beq_eq_false_iff_ne.mpr ek
      simp only [List.lookup, b1, b2]
      exact FR.look nd hn h2
theorem FR.put {L : Lk} {ρ : List Addr} {H : Hp} (nd : L.names.Nodup) {f : Nat} {nm : Str} (hn : L.names[f]? = some nm) {v : Val} {y : V} (r : VR L.K ρ H v y) : ∀ {fs : List (Nat × Val)} {gs : List (Str × V)}, FR L ρ H fs gs → FR L ρ H (put f v fs) (putF nm y gs)
  | [], _, h => by cases h; exact ⟨nm, y, [], rfl, hn, r, rfl⟩
  | p :: ps, _, h => by
    obtain ⟨k, z, q, rfl, h0, h1, h2⟩ := h
    by_cases e : p.1 = f
    · have ek : k = nm := by rw [e] at h0; exact Option.some.inj (h0.symm.trans hn)
      simp only [C.put, putF, if_pos e, if_pos ek]
      exact ⟨k, y, q, rfl, h0, r, h2⟩
    · have ek : ¬ k = nm := fun z => e (nd_names nd h0 (z ▸ hn))
      simp only [C.put, putF, if_neg e, if_neg ek]
      exact ⟨k, z, _, rfl, h0, h1, FR.put nd hn r h2⟩

/-- a cell at a place -/
def CR (L : Lk) (ρ : List Addr) (H : Hp) (a : Addr) : Cell → Prop
  | .lst xs => ∃ ys, H a = some (.lst ys) ∧ VRs L.K ρ H xs ys
  | .dct ep kvs => ∃ es, H a = some (DX a es ep) ∧ (a == sysModules) = false ∧ kvs.length ≤ sizeLine ∧ (kvs.map (·.1)).Nodup ∧ EnR L.K L.w ρ H kvs es.toList
  | .obj c fs => ∃ C dx gs ci, L.caddr c = some C ∧ H a = some (.ins C dx gs) ∧ FR L ρ H fs gs ∧ L.T.cls c = some ci ∧ ∀ p ∈ fs, p.1 ∈ ci.fields

section
variable {L : Lk} {ρ ρ' : List Addr} {H H' : Hp}
theorem EnR.mono {K : PySem.W.Frag} {w : World} (p : ρ <+: ρ') (k : Keep H H') : ∀ {vs : List (Val × Val)} {es : List DictEntry}, EnR K w ρ H vs es → EnR K w ρ' H' vs es
  | [], _, h => h
  | v :: vs, _, h => by
    obtain ⟨en, r, e, ⟨x, h1, h2⟩, ⟨y, h3, h4⟩, h5, h6⟩ := h
    exact ⟨en, r, e, ⟨x, VR.mono p k h1, h2⟩, ⟨y, VR.mono p k h3, h4⟩, h5, EnR.mono p k h6⟩
theorem FR.mono (p : ρ <+: ρ') (k : Keep H H') : ∀ {vs : List (Nat × Val)} {ys : List (Str × V)}, FR L ρ H vs ys → FR L ρ' H' vs ys
  | [], _, h => h
  | v :: vs, _, h => by
    obtain ⟨y, z, r, e, h0, h1, h2⟩ := h
    exact ⟨y, z, r, e, h0, VR.mono p k h1, FR.mono p k h2⟩
theorem CR.mono {a : Addr} {c : Cell} (p : ρ <+: ρ') (k : Keep H H') (e : H' a = H a) (h : CR L ρ H a c) : CR L ρ' H' a c := by
  cases c with
  | lst xs =>
    obtain ⟨ys, h1, h2⟩ := h
    exact ⟨ys, e.trans h1, h2.mono p k⟩
  | dct ep kvs =>
    obtain ⟨es, h1, h0, h2, h3, h4⟩ := h
    exact ⟨es, e.trans h1, h0, h2, h3, h4.mono p k⟩
  | obj c fs =>
    obtain ⟨C, dx, gs, ci, h0, h1, h2, h3⟩ := h
    exact ⟨C, dx, gs, ci, h0, e.trans h1, h2.mono p k, h3⟩
theorem CR.there {a : Addr} {c : Cell} (h : CR L ρ H a c) : ∃ o, H a = some o ∧ (∀ xs, o ≠ .tup xs) ∧ (∀ ob u, o ≠ .frz ob u) ∧ ∀ x, o ≠ .own x := by
  cases c with
  | lst xs =>
    obtain ⟨ys, h1, h2⟩ := h
    exact ⟨_, h1, (by intro _ z; cases z), (by intro _ _ z; cases z), (by intro _ z; cases z)⟩
  | dct ep kvs =>
    obtain ⟨es, h1, h2⟩ := h
    exact ⟨_, h1, (by intro _ z; cases z), (by intro _ _ z; cases z), (by intro _ z; cases z)⟩
  | obj c fs =>
    obtain ⟨C, dx, gs, ci, h0, h1, h2, h3⟩ := h
    exact ⟨_, h1, (by intro _ z; cases z), (by intro _ _ z; cases z), (by intro _ z; cases z)⟩

/-- the store in the abstract heap -/
structure Rel (L : Lk) (ρ : List Addr) (S : Store) (H : Hp) : Prop where
  len : ρ.length = S.length
  nd : ρ.Nodup
  at_ : ∀ (n : Nat) (c : Cell) (a : Addr), S[n]? = some c → ρ[n]? = some a → CR L ρ H a c
theorem Rel.addr {S : Store} (R : Rel L ρ S H) {n : Nat} {c : Cell} (h : S[n]? = some c) : ∃ a, ρ[n]? = some a ∧ CR L ρ H a c := by
  have hn : n < ρ.length := by rw [R.len]; exact (List.getElem?_eq_some_iff.mp h).1
  exact ⟨ρ[n], List.getElem?_eq_getElem hn, R.at_ n c _ h (List.getElem?_eq_getElem hn)⟩
theorem Rel.tracked {S : Store} (R : Rel L ρ S H) {n : Nat} {a : Addr} (h : ρ[n]? = some a) : ∃ o, H a = some o ∧ (∀ xs, o ≠ .tup xs) ∧ (∀ ob u, o ≠ .frz ob u) ∧ ∀ x, o ≠ .own x := by
  have hn : n < S.length := by rw [← R.len]; exact (List.getElem?_eq_some_iff.mp h).1
  exact (R.at_ n _ a (List.getElem?_eq_getElem hn) h).there
theorem Rel.free {S : Store} (R : Rel L ρ S H) {p : Addr} (h : H p = none) : p ∉ ρ := fun hm => by
  obtain ⟨n, hn⟩ := List.getElem?_of_mem hm
  obtain ⟨o, e, _⟩ := R.tracked hn
  rw [h] at e; cases e
theorem Rel.inj {S : Store} (R : Rel L ρ S H) {n m : Nat} {a : Addr} (h : ρ[n]? = some a) (h' : ρ[m]? = some a) : n = m := by
  obtain ⟨h1, e1⟩ := List.getElem?_eq_some_iff.mp h
  obtain ⟨h2, e2⟩ := List.getElem?_eq_some_iff.mp h'
  exact (List.getElem_inj R.nd).mp (e1.trans e2.symm)
/-- the abstract heap grows beside the store -/
theorem Rel.side {S : Store} (R : Rel L ρ S H) (k : Keep H H') (e : ∀ a o, a ∈ ρ → H a = some o → H' a = some o) : Rel L ρ S H' :=
  ⟨R.len, R.nd, fun n c a h1 h2 => (R.at_ n c a h1 h2).mono (List.prefix_refl _) k (by
    obtain ⟨o, q, _⟩ := (R.at_ n c a h1 h2).there
    rw [e a o (List.mem_of_getElem? h2) q, q])⟩
theorem Rel.new {S : Store} (R : Rel L ρ S H) {p : Addr} {o : HO} (h : H p = none) : Rel L ρ S (upd H p o) :=
  R.side (Keep.new h) fun a u _ e => by rw [upd_ne (ne_of_none e h)]; exact e
/-- a new cell -/
theorem Rel.alloc {S : Store} (R : Rel L ρ S H) {p : Addr} {o : HO} {c : Cell} (h : H p = none) (hc : CR L (ρ ++ [p]) (upd H p o) p c) : Rel L (ρ ++ [p]) (S ++ [c]) (upd H p o) := by
  have hp := R.free h
  refine ⟨by simp [R.len], ?_, fun n d a h1 h2 => ?_⟩
  · rw [List.nodup_append]
    refine ⟨R.nd, by simp, fun x hx y hy => ?_⟩
    simp at hy; subst hy
    exact fun z => hp (z ▸ hx)
  · by_cases hn : n < S.length
    · rw [List.getElem?_append_left hn] at h1
      rw [List.getElem?_append_left (by rw [R.len]; exact hn)] at h2
      have hr := R.at_ n d a h1 h2
      obtain ⟨o', q, _⟩ := hr.there
      exact hr.mono (List.prefix_append _ _) (Keep.new h) (upd_ne (ne_of_none q h))
    · have e1 : n = S.length := by
        have := (List.getElem?_eq_some_iff.mp h1).1
        simp at this; omega
      subst e1
      rw [List.getElem?_append_right (Nat.le_refl _)] at h1
      rw [← R.len, List.getElem?_append_right (Nat.le_refl _)] at h2
      simp at h1 h2
      subst h1; subst h2
      exact hc
/-- a cell rewritten -/
theorem Rel.set {S : Store} (R : Rel L ρ S H) {n : Nat} {a : Addr} {o : HO} {c : Cell} (ha : ρ[n]? = some a) (hc : CR L ρ (upd H a o) a c) : Rel L ρ (S.set n c) (upd H a o) := by
  obtain ⟨u, hu, n1, n2, _⟩ := R.tracked ha
  have k : Keep H (upd H a o) := Keep.mut hu n1 n2
  refine ⟨by simp [R.len], R.nd, fun m d b h1 h2 => ?_⟩
  by_cases hm : n = m
  · subst hm
    have hl : n < S.length := by rw [← R.len]; exact (List.getElem?_eq_some_iff.mp ha).1
    rw [List.getElem?_set_self hl] at h1
    cases h1
    rw [ha] at h2; cases h2
    exact hc
  · rw [List.getElem?_set_ne hm] at h1
    have hb : b ≠ a := fun z => hm (R.inj ha (z ▸ h2))
    exact (R.at_ m d b h1 h2).mono (List.prefix_refl _) k (upd_ne hb)
theorem Rel.keep {S : Store} (R : Rel L ρ S H) {n : Nat} {a : Addr} {o : HO} (ha : ρ[n]? = some a) : Keep H (upd H a o) := by
  obtain ⟨u, hu, n1, n2, _⟩ := R.tracked ha
  exact Keep.mut hu n1 n2
end

/-- the names' values -/
structure ER (L : Lk) (ρ : List Addr) (H : Hp) (env : Env) (σ : St) : Prop where
  len : env.length = σ.length
  val : ∀ (i : Nat) (v : Val), env[i]? = some (some v) → ∃ x, σ[i]? = some (some x) ∧ VR L.K ρ H v x
  hx : ∀ i a, L.hx = some (i, a) → env[i]? = some none → σ[i]? = some (some (.ref a))
theorem ER.mono {L : Lk} {ρ ρ' : List Addr} {H H' : Hp} {env : Env} {σ : St} (p : ρ <+: ρ') (k : Keep H H') (h : ER L ρ H env σ) : ER L ρ' H' env σ := ⟨h.1, fun i v e =>
  let ⟨x, e', r⟩ := h.2 i v e
  ⟨x, e', r.mono p k⟩, h.3⟩
theorem ER.set {L : Lk} {ρ : List Addr} {H : Hp} {env : Env} {σ : St} {i : Nat} {v : Val} {x : V} (h : ER L ρ H env σ) (r : VR L.K ρ H v x) : ER L ρ H (env.set i (some v)) (σ.set i (some x)) := by
  refine ⟨by simp [h.1], fun j w e => ?_, fun j a hj e => ?_⟩
  · by_cases hj : i = j
    · subst hj
      have hl : i < env.length := by
        have := (List.getElem?_eq_some_iff.mp e).1
        simpa using this
      rw [List.getElem?_set_self hl] at e
      cases e
      exact ⟨x, List.getElem?_set_self (by rw [← h.1]; exact hl), r⟩
    · rw [List.getElem?_set_ne hj] at e ⊢
      exact h.2 j w e
  · by_cases hij : i = j
    · subst hij
      have hl : i < env.length := by
        have := (List.getElem?_eq_some_iff.mp e).1
        simpa using this
      rw [List.getElem?_set_self hl] at e
      cases e
    · rw [List.getElem?_set_ne hij] at e ⊢
      exact h.3 j a hj e
theorem ER.unset {L : Lk} {ρ : List Addr} {H : Hp} {env : Env} {σ : St} {i : Nat} (hn : L.hx = none) (h : ER L ρ H env σ) : ER L ρ H (env.set i none) (σ.set i none) := by
  refine ⟨by simp [h.1], fun j w e => ?_, fun j a hj => by rw [hn] at hj; cases hj⟩
  by_cases hj : i = j
  · subst hj
    have hl : i < env.length := by
      have := (List.getElem?_eq_some_iff.mp e).1
      simpa using this
    rw [List.getElem?_set_self hl] at e
    cases e
  · rw [List.getElem?_set_ne hj] at e ⊢
    exact h.2 j w e
theorem ER.wipe {L : Lk} {ρ : List Addr} {H : Hp} {env : Env} {σ : St} (hn : L.hx = none) (h : ER L ρ H env σ) : ∀ vs : List Nat, ER L ρ H (wipeE env vs) (wipe σ vs)
  | [] => h
  | v :: vs => by
    unfold wipeE L2.wipe
    exact ER.unset hn (ER.wipe hn h vs)
theorem ER.start {L : Lk} {ρ : List Addr} {H : Hp} {vs : List Val} {xs : List V} {N : List Str} {m : Nat} (hn : L.hx = none) (h : VRs L.K ρ H vs xs) (hm : m = N.length - vs.length) : ER L ρ H (vs.map some ++ List.replicate m none) (L2.start N xs) := by
  unfold L2.start
  rw [hm, h.length]
  refine ⟨by simp [h.length], fun i v e => ?_, fun j a hj => by rw [hn] at hj; cases hj⟩
  by_cases hi : i < vs.length
  · rw [List.getElem?_append_left (by simpa using hi), List.getElem?_map] at e
    cases q : vs[i]? with
    | none => rw [q] at e; cases e
    | some w =>
      rw [q] at e
      simp at e
      subst e
      obtain ⟨x, ex, r⟩ := h.get q
      refine ⟨x, ?_, r⟩
      rw [List.getElem?_append_left (by rw [List.length_map, ← h.length]; exact hi), List.getElem?_map, ex]
      rfl
  · rw [List.getElem?_append_right (by simpa using hi), List.getElem?_replicate] at e
    split at e <;> cases e
end C
end
section
set_option Elab.async false
set_option linter.all false
set_option maxRecDepth 100000
set_option maxHeartbeats 1000000
/-! C3: judgements over the interpreter; names, operators, calls. -/
namespace C
open PySem PySem.Spec L2 ItX
open PyProof.Rows hiding St

/-- an exception as the heap holds it: class, own dict -/
def ExR (L : Lk) (ρ : List Addr) (H : Hp) (c : Nat) (fs : List (Nat × Val)) (cls : Value) (d : Option Addr) : Prop :=
  ∃ a, L.caddr c = some a ∧ cls = .ref a ∧ ((d = none ∧ fs = []) ∨ ∃ dx gs, fs ≠ [] ∧ d = some dx ∧ H dx = some (.xd gs) ∧ FR L ρ H fs gs)

/-- behind a result: every heap that holds it is as is wished -/
def Aft (L : Lk) (ρ : List Addr) (H : Hp) (σ : St) (W : WX) {α β : Type} (Rv : List Addr → Hp → α → β → Prop) (Q : β → Hp → Prop) : Res α → Prop
  | .ok v S' => ∀ (ρ' : List Addr) (H' : Hp) (x : β), ρ <+: ρ' → Keep H H' → Rel L ρ' S' H' → Rv ρ' H' v x → Q x H'
  | .exc c fs S' => ∀ (ρ' : List Addr) (H' : Hp) (cls : Value) (d : Option Addr), ρ <+: ρ' → Keep H H' → Rel L ρ' S' H' → ExR L ρ' H' c fs cls d → W cls d σ H'
  | .bad => False
abbrev AftV (L : Lk) (ρ : List Addr) (H : Hp) (σ : St) (W : WX) (Q : VK) (r : Res Val) : Prop := Aft L ρ H σ W (VR L.K) Q r
abbrev AftVs (L : Lk) (ρ : List Addr) (H : Hp) (σ : St) (W : WX) (Q : List V → Hp → Prop) (r : Res (List Val)) : Prop := Aft L ρ H σ W (VRs L.K) Q r

section
variable {L : Lk} {ρ ρ1 : List Addr} {H H1 : Hp} {σ : St} {W : WX} {α β γ δ : Type} {Rv : List Addr → Hp → α → β → Prop} {Ru : List Addr → Hp → γ → δ → Prop} {Q : β → Hp → Prop}
theorem Aft.mono {r : Res α} (p : ρ <+: ρ1) (k : Keep H H1) (h : Aft L ρ H σ W Rv Q r) : Aft L ρ1 H1 σ W Rv Q r := by
  cases r with
  | ok v S => exact fun ρ' H' x p' k' R r => h ρ' H' x (p.trans p') (k.trans k') R r
  | exc c fs S => exact fun ρ' H' cl d p' k' R r => h ρ' H' cl d (p.trans p') (k.trans k') R r
  | bad => exact h
theorem Aft.now {v : α} {S : Store} {x : β} (h : Aft L ρ H σ W Rv Q (.ok v S)) (R : Rel L ρ S H) (r : Rv ρ H v x) : Q x H := h ρ H x (List.prefix_refl _) (Keep.refl H) R r
theorem Aft.imp {r : Res α} {Q' : β → Hp → Prop} (h : Aft L ρ H σ W Rv Q r) (q : ∀ x H', Q x H' → Q' x H') : Aft L ρ H σ W Rv Q' r := by
  cases r with
  | ok v S => exact fun ρ' H' x p' k' R r => q x H' (h ρ' H' x p' k' R r)
  | exc c fs S => exact h
  | bad => exact h
/-- ahead of a bind: what holds behind its first part -/
theorem Aft.split {r : Res γ} {f : γ → Store → Res α} (h : Aft L ρ H σ W Rv Q (r.bind f)) :
    Aft L ρ H σ W Ru (fun (x : δ) H1 => ∃ ρ1 S1 v, ρ <+: ρ1 ∧ Keep H H1 ∧ Rel L ρ1 S1 H1 ∧ Ru ρ1 H1 v x ∧ Aft L ρ1 H1 σ W Rv Q (f v S1)) r := by
  cases r with
  | ok v S => exact fun ρ' H' x p k R r => ⟨ρ', S, v, p, k, R, r, Aft.mono p k h⟩
  | exc c fs S => exact h
  | bad => exact h
end

/-- the reading of an expression that means m -/
def tM (L : Lk) (W : WX) (m : Env → Store → Res Val) : TE := fun σ H Q => ∃ ρ S env, Rel L ρ S H ∧ ER L ρ H env σ ∧ AftV L ρ H σ W Q (m env S)
def tMs (L : Lk) (W : WX) (m : Env → Store → Res (List Val)) : TA := fun σ H Q => ∃ ρ S env, Rel L ρ S H ∧ ER L ρ H env σ ∧ AftVs L ρ H σ W Q (m env S)
/-- a test -/
def toB (r : Res Val) : Res Bool := r.bind fun v S => match v with
  | .bl b => .ok b S
  | _ => .bad
def BR : List Addr → Hp → Bool → Bool → Prop := fun _ _ v b => v = b
def tMT (L : Lk) (W : WX) (m : Env → Store → Res Val) : TT := fun σ H Q => ∃ ρ S env, Rel L ρ S H ∧ ER L ρ H env σ ∧ Aft L ρ H σ W BR Q (toB (m env S))

theorem PE.mono {X : L2.Cx} {e : Expr} {t t' : TE} (h : PE X e t) (i : ∀ σ H Q, t' σ H Q → t σ H Q) : PE X e t' := ⟨fun pins s σ H Q I q => h.run pins s σ H Q I (i σ H Q q)⟩
theorem PS.mono {X : L2.Cx} {e : Stmt} {t t' : TS} (h : PS X e t) (i : ∀ D σ H, t' D σ H → t D σ H) : PS X e t' := ⟨fun pins s σ H D I q => h.run pins s σ H D I (i D σ H q)⟩
theorem PSs.mono {X : L2.Cx} {e : List Stmt} {t t' : TS} (h : PSs X e t) (i : ∀ D σ H, t' D σ H → t D σ H) : PSs X e t' := ⟨fun pins s σ H D I q => h.run pins s σ H D I (i D σ H q)⟩
theorem PT.mono {X : L2.Cx} {e : Expr} {t t' : TT} (h : PT X e t) (i : ∀ σ H Q, t' σ H Q → t σ H Q) : PT X e t' := ⟨fun pins s σ H Q I q => h.run pins s σ H Q I (i σ H Q q)⟩
theorem PA.mono {X : L2.Cx} {e : List Expr} {t t' : TA} (h : PA X e t) (i : ∀ σ H Q, t' σ H Q → t σ H Q) : PA X e t' := ⟨fun pos pins s σ H Q I q => h.run pos pins s σ H Q I (i σ H Q q)⟩

section
variable {X : L2.Cx} {L : Lk} {W : WX} {a b c : Expr} {ma mb mc : Env → Store → Res Val} {pos : Pos}

/-! ### names and constants -/
theorem m_var {i : Nat} {x : Str} {Γ : Cx} (h : PE X (.Name x pos) (tVar i)) : PE X (.Name x pos) (tM L W (ev Γ (.var i))) := by
  refine PE.mono h fun σ H Q ⟨ρ, S, env, R, er, hA⟩ => ?_
  unfold ev at hA
  split at hA
  · rename_i v e
    obtain ⟨x, ex, r⟩ := er.2 i v e
    exact ⟨x, ex, Aft.now hA R r⟩
  · exact hA.elim
theorem m_const {v : Val} {x : V} {Γ : Cx} (h : PE X a (tC x)) (r : ∀ ρ H, VR L.K ρ H v x) : PE X a (tM L W (ev Γ (.cst v))) := by
  refine PE.mono h fun σ H Q ⟨ρ, S, env, R, er, hA⟩ => ?_
  unfold ev at hA
  exact Aft.now hA R (r ρ H)
theorem m_int {i : Int} {k} {Γ : Cx} : PE X (.Constant (.int i) k pos) (tM L W (ev Γ (.cst (.int i)))) := m_const pe_int fun _ _ => rfl
theorem m_str {s : Str} {k} {Γ : Cx} : PE X (.Constant (.str s) k pos) (tM L W (ev Γ (.cst (.str s)))) := m_const pe_str fun _ _ => rfl
theorem m_bl {b : Bool} {k} {Γ : Cx} : PE X (.Constant (.bool b) k pos) (tM L W (ev Γ (.cst (.bl b)))) := m_const pe_bl fun _ _ => rfl
theorem m_non {k} {Γ : Cx} : PE X (.Constant .none k pos) (tM L W (ev Γ (.cst .non))) := m_const pe_non fun _ _ => rfl

/-! ### two expressions, then an operation on the values -/
/-- an operation on two values, as the interpreter has it -/
def OpS (X : L2.Cx) (L : Lk) (W : WX) (f : Value → Value → Sem Value) (g : Val → Val → Store → Res Val) : Prop :=
  ∀ (pins : List (Addr × Obj)) (s : Shared) (σ : St) (H : Hp) (ρ : List Addr) (S : Store) (vx vy : Val) (x y : V) (v u : Value) (Q : VK), Inv X pins σ H s → RelV x v → RelV y u → Rel L ρ S H →
    VR L.K ρ H vx x → VR L.K ρ H vy y → AftV L ρ H σ W Q (g vx vy S) → wpAny (model X.prog X.w) X.A (f v u) (EP X pins σ Q) X.xe s
theorem run2 {pins : List (Addr × Obj)} {s : Shared} {σ : St} {H : Hp} {ρ : List Addr} {S : Store} {env : Env} {α β : Type} {Rv : List Addr → Hp → α → β → Prop} {Q : β → Hp → Prop} {g : Val → Val → Store → Res α} {f : Value → Value → Sem Value} {Q' : Value → Shared → Prop}
    (A : PE X a (tM L W ma)) (B : PE X b (tM L W mb)) (I : Inv X pins σ H s) (R : Rel L ρ S H) (er : ER L ρ H env σ) (h : Aft L ρ H σ W Rv Q ((ma env S).bind fun x S1 => (mb env S1).bind fun y S2 => g x y S2))
    (hf : ∀ v u s2 H2 ρ2 S2 vx vy x y, Inv X pins σ H2 s2 → RelV x v → RelV y u → ρ <+: ρ2 → Keep H H2 → Rel L ρ2 S2 H2 → VR L.K ρ2 H2 vx x → VR L.K ρ2 H2 vy y → Aft L ρ2 H2 σ W Rv Q (g vx vy S2) → wpAny (model X.prog X.w) X.A (f v u) Q' X.xe s2) :
    wpAny (model X.prog X.w) X.A (eval a X.env) (fun v s₁ => wpAny (model X.prog X.w) X.A (eval b X.env) (fun u s₂ => wpAny (model X.prog X.w) X.A (f v u) Q' X.xe s₂) X.xe s₁) X.xe s := by
  refine thn (A.run pins s σ H _ I ⟨ρ, S, env, R, er, Aft.split h⟩) fun v s1 ⟨x, H1, I1, r1, ρ1, S1, vx, p1, k1, R1, e1, h1⟩ => ?_
  refine thn (B.run pins s1 σ H1 _ I1 ⟨ρ1, S1, env, R1, er.mono p1 k1, Aft.split h1⟩) fun u s2 ⟨y, H2, I2, r2, ρ2, S2, vy, p2, k2, R2, e2, h2⟩ => ?_
  exact hf v u s2 H2 ρ2 S2 vx vy x y I2 r1 r2 (p1.trans p2) (k1.trans k2) R2 (e1.mono p2 k2) e2 h2
theorem m_bin {op : Operator} {o : Bop} {ea eb : E} {Γ : Cx} (ho : OpS X L W (binaryOp op) (binV Γ o)) (A : PE X a (tM L W (ev Γ ea))) (B : PE X b (tM L W (ev Γ eb))) : PE X (.BinOp a op b pos) (tM L W (ev Γ (.bin o ea eb))) := by
  refine ⟨fun pins s σ H Q I ⟨ρ, S, env, R, er, hA⟩ => ?_⟩
  unfold ev at hA
  exact wpAny_BinOp (run2 A B I R er hA fun v u s2 H2 ρ2 S2 vx vy x y I2 rx ry _ _ R2 ex ey h2 => ho pins s2 σ H2 ρ2 S2 vx vy x y v u Q I2 rx ry R2 ex ey h2)
theorem m_cmp {op : CmpOp} {o : Cop} {ea eb : E} {Γ : Cx} (ho : OpS X L W (compareOp op) (cmpV Γ o)) (A : PE X a (tM L W (ev Γ ea))) (B : PE X b (tM L W (ev Γ eb))) (h1 : behindInMarks op b = false := by first | exact nobehind _ (by decide) (by decide) | rfl) :
    PE X (.Compare a [op] [b] pos) (tM L W (ev Γ (.cmp o ea eb))) := by
  refine ⟨fun pins s σ H Q I ⟨ρ, S, env, R, er, hA⟩ => ?_⟩
  unfold ev at hA
  exact wpAny_Compare1 (run2 A B I R er hA fun v u s2 H2 ρ2 S2 vx vy x y I2 rx ry _ _ R2 ex ey h2 => ho pins s2 σ H2 ρ2 S2 vx vy x y v u Q I2 rx ry R2 ex ey h2) h1

/-! ### tests -/
/-- a test of a value that is a bool -/
theorem mt_val {e : Expr} {m : Env → Store → Res Val} (h : PE X e (tM L W m)) (he : ∀ whole, isTrue e X.env whole = (do let v ← whole; standAt e.pos; holding [v] (truthy v)) := by intro _; rfl) : PT X e (tMT L W m) := by
  refine PT.mono (pt_val h he) fun σ H Q ⟨ρ, S, env, R, er, hA⟩ => ⟨ρ, S, env, R, er, ?_⟩
  unfold toB at hA
  refine (Aft.split (Ru := VR L.K) hA).imp ?_
  rintro x H' ⟨ρ1, S1, v, p, k, R1, r, h1⟩
  cases v with
  | bl b => exact ⟨b, r, Aft.now h1 R1 rfl⟩
  | _ => exact h1.elim
end
end C
end
section
set_option Elab.async false
set_option linter.all false
set_option maxRecDepth 100000
set_option maxHeartbeats 1000000
/-! C4: tests, displays, operators on values. -/
namespace C
open PySem PySem.Spec L2 ItX
open PyProof.Rows hiding St

section
variable {X : L2.Cx} {L : Lk} {W : WX} {a b c : Expr} {ea eb ec : E} {Γ : Cx} {pos : Pos} {rest : List Expr}

/-- a value that is a bool, then two ways -/
theorem Aft.splitB {ρ : List Addr} {H : Hp} {σ : St} {α β : Type} {Rv : List Addr → Hp → α → β → Prop} {Q : β → Hp → Prop} {r : Res Val} {f g : Store → Res α} (h : Aft L ρ H σ W Rv Q (r.onB f g)) :
    Aft L ρ H σ W BR (fun b H1 => ∃ ρ1 S1, ρ <+: ρ1 ∧ Keep H H1 ∧ Rel L ρ1 S1 H1 ∧ Aft L ρ1 H1 σ W Rv Q (if b = true then f S1 else g S1)) (toB r) := by
  cases r with
  | ok v S =>
    cases v with
    | bl b =>
      rintro ρ' H' x p k R rfl
      refine ⟨ρ', S, p, k, R, Aft.mono p k ?_⟩
      cases b <;> exact h
    | _ => exact h.elim
  | exc c fs S => exact h
  | bad => exact h
theorem toB_onB {r : Res Val} {f g : Store → Res Val} : toB (r.onB f g) = r.onB (fun S => toB (f S)) (fun S => toB (g S)) := by
  cases r with
  | ok v S => cases v with
    | bl b => cases b <;> rfl
    | _ => rfl
  | _ => rfl

/-! ### tests -/
theorem mt_and1 (ha : PT X a (tMT L W (ev Γ ea))) : PW X (.BoolOp .And [a] pos) (tMT L W (ev Γ ea)) := pw_and1 ha
theorem mt_or1 (ha : PT X a (tMT L W (ev Γ ea))) : PW X (.BoolOp .Or [a] pos) (tMT L W (ev Γ ea)) := pw_or1 ha
theorem PW.mono {e : Expr} {t t' : TT} (h : PW X e t) (i : ∀ σ H Q, t' σ H Q → t σ H Q) : PW X e t' := ⟨fun wh pins s σ H Q I q => h.run wh pins s σ H Q I (i σ H Q q)⟩
theorem mt_and (ha : PT X a (tMT L W (ev Γ ea))) (hb : PW X (.BoolOp .And (b :: rest) pos) (tMT L W (ev Γ eb))) : PW X (.BoolOp .And (a :: b :: rest) pos) (tMT L W (ev Γ (.and ea eb))) := by
  refine PW.mono (pw_and ha hb) fun σ H Q ⟨ρ, S, env, R, er, hA⟩ => ⟨ρ, S, env, R, er, ?_⟩
  unfold ev at hA
  rw [toB_onB] at hA
  refine (Aft.splitB hA).imp ?_
  rintro b H' ⟨ρ1, S1, p, k, R1, h⟩
  cases b with
  | true => exact ⟨ρ1, S1, env, R1, er.mono p k, h⟩
  | false => exact Aft.now (Rv := BR) (show Aft L ρ1 H' σ W BR Q (.ok false S1) from h) R1 rfl
theorem mt_or (ha : PT X a (tMT L W (ev Γ ea))) (hb : PW X (.BoolOp .Or (b :: rest) pos) (tMT L W (ev Γ eb))) : PW X (.BoolOp .Or (a :: b :: rest) pos) (tMT L W (ev Γ (.or ea eb))) := by
  refine PW.mono (pw_or ha hb) fun σ H Q ⟨ρ, S, env, R, er, hA⟩ => ⟨ρ, S, env, R, er, ?_⟩
  unfold ev at hA
  rw [toB_onB] at hA
  refine (Aft.splitB hA).imp ?_
  rintro b H' ⟨ρ1, S1, p, k, R1, h⟩
  cases b with
  | true => exact Aft.now (Rv := BR) (show Aft L ρ1 H' σ W BR Q (.ok true S1) from h) R1 rfl
  | false => exact ⟨ρ1, S1, env, R1, er.mono p k, h⟩
theorem mt_not (ha : PT X a (tMT L W (ev Γ ea))) : PT X (.UnaryOp .Not a pos) (tMT L W (ev Γ (.not ea))) := by
  refine PT.mono (pt_not ha) fun σ H Q ⟨ρ, S, env, R, er, hA⟩ => ⟨ρ, S, env, R, er, ?_⟩
  unfold ev at hA
  rw [toB_onB] at hA
  refine (Aft.splitB hA).imp ?_
  rintro b H' ⟨ρ1, S1, p, k, R1, h⟩
  cases b with
  | true => exact Aft.now (Rv := BR) (show Aft L ρ1 H' σ W BR Q (.ok false S1) from h) R1 rfl
  | false => exact Aft.now (Rv := BR) (show Aft L ρ1 H' σ W BR Q (.ok true S1) from h) R1 rfl

/-! ### and, or, not as values -/
theorem m_one {op} {m : Env → Store → Res Val} (h : PE X a (tM L W m)) : PE X (.BoolOp op [a] pos) (tM L W m) := pe_one h
theorem Aft.ofB {ρ : List Addr} {H : Hp} {σ : St} {r : Res Val} {Q : VK} (h : Aft L ρ H σ W BR (fun b H1 => Q (.bl b) H1) (toB r)) : AftV L ρ H σ W (fun x H1 => ∃ c, x = .bl c ∧ Q (.bl c) H1) r := by
  cases r with
  | ok v S =>
    cases v with
    | bl b =>
      rintro ρ' H' x p k R rfl
      exact ⟨b, rfl, h ρ' H' b p k R rfl⟩
    | _ => exact h.elim
  | exc c fs S => exact h
  | bad => exact h
theorem Aft.ofB' {ρ : List Addr} {H : Hp} {σ : St} {r : Res Val} {Q : Bool → Hp → Prop} (h : Aft L ρ H σ W BR Q (toB r)) : AftV L ρ H σ W (fun x H1 => ∃ c, x = .bl c ∧ Q c H1) r := by
  cases r with
  | ok v S =>
    cases v with
    | bl b =>
      rintro ρ' H' x p k R rfl
      exact ⟨b, rfl, h ρ' H' b p k R rfl⟩
    | _ => exact h.elim
  | exc c fs S => exact h
  | bad => exact h
theorem m_and (ha : PE X a (tM L W (ev Γ ea))) (hb : PE X (.BoolOp .And (b :: rest) pos) (tM L W (ev Γ eb))) : PE X (.BoolOp .And (a :: b :: rest) pos) (tM L W (ev Γ (.and ea eb))) := by
  refine PE.mono (pe_and ha hb) fun σ H Q ⟨ρ, S, env, R, er, hA⟩ => ⟨ρ, S, env, R, er, ?_⟩
  unfold ev at hA
  refine Aft.ofB' ((Aft.splitB hA).imp ?_)
  rintro b H' ⟨ρ1, S1, p, k, R1, h⟩
  cases b with
  | true => exact ⟨ρ1, S1, env, R1, er.mono p k, h⟩
  | false => exact Aft.now (show AftV L ρ1 H' σ W Q (.ok (.bl false) S1) from h) R1 rfl
theorem m_or (ha : PE X a (tM L W (ev Γ ea))) (hb : PE X (.BoolOp .Or (b :: rest) pos) (tM L W (ev Γ eb))) : PE X (.BoolOp .Or (a :: b :: rest) pos) (tM L W (ev Γ (.or ea eb))) := by
  refine PE.mono (pe_or ha hb) fun σ H Q ⟨ρ, S, env, R, er, hA⟩ => ⟨ρ, S, env, R, er, ?_⟩
  unfold ev at hA
  refine Aft.ofB' ((Aft.splitB hA).imp ?_)
  rintro b H' ⟨ρ1, S1, p, k, R1, h⟩
  cases b with
  | true => exact Aft.now (show AftV L ρ1 H' σ W Q (.ok (.bl true) S1) from h) R1 rfl
  | false => exact ⟨ρ1, S1, env, R1, er.mono p k, h⟩
theorem m_not (ha : PE X a (tM L W (ev Γ ea))) : PE X (.UnaryOp .Not a pos) (tM L W (ev Γ (.not ea))) := by
  refine PE.mono (pe_not ha) fun σ H Q ⟨ρ, S, env, R, er, hA⟩ => ⟨ρ, S, env, R, er, ?_⟩
  unfold ev at hA
  refine Aft.ofB' ((Aft.splitB hA).imp ?_)
  rintro b H' ⟨ρ1, S1, p, k, R1, h⟩
  cases b with
  | true => exact Aft.now (show AftV L ρ1 H' σ W Q (.ok (.bl false) S1) from h) R1 rfl
  | false => exact Aft.now (show AftV L ρ1 H' σ W Q (.ok (.bl true) S1) from h) R1 rfl
theorem m_ite (hc : PT X c (tMT L W (ev Γ ec))) (ha : PE X a (tM L W (ev Γ ea))) (hb : PE X b (tM L W (ev Γ eb))) : PE X (.IfExp c a b pos) (tM L W (ev Γ (.ite ec ea eb))) := by
  refine PE.mono (pe_ifExp hc ha hb) fun σ H Q ⟨ρ, S, env, R, er, hA⟩ => ⟨ρ, S, env, R, er, ?_⟩
  unfold ev at hA
  refine (Aft.splitB hA).imp ?_
  rintro b H' ⟨ρ1, S1, p, k, R1, h⟩
  cases b with
  | true => exact ⟨ρ1, S1, env, R1, er.mono p k, h⟩
  | false => exact ⟨ρ1, S1, env, R1, er.mono p k, h⟩
theorem m_isN {j pos'} (ha : PE X a (tM L W (ev Γ ea))) : PE X (.Compare a [.Is] [.Constant .none j pos'] pos) (tM L W (ev Γ (.isN ea))) := by
  refine PE.mono (pe_cmp (pc_isN ha)) fun σ H Q ⟨ρ, S, env, R, er, hA⟩ => ⟨ρ, S, env, R, er, ?_⟩
  unfold ev at hA
  refine (Aft.split (Ru := VR L.K) hA).imp ?_
  rintro x H' ⟨ρ1, S1, v, p, k, R1, r, h1⟩
  have e : decide (x = V.non) = decide (v = Val.non) := by
    cases v with
    | non => cases r; rfl
    | tup vs => obtain ⟨_, _, e, _⟩ := r; subst e; rfl
    | ro vs => obtain ⟨_, _, e, _⟩ := r; subst e; rfl
    | loc n => obtain ⟨_, e, _⟩ := r; subst e; rfl
    | _ => cases r; rfl
  rw [e]
  exact Aft.now h1 R1 rfl
theorem m_notN {j pos'} (ha : PE X a (tM L W (ev Γ ea))) : PE X (.Compare a [.IsNot] [.Constant .none j pos'] pos) (tM L W (ev Γ (.notN ea))) := by
  refine PE.mono (pe_cmp (pc_notN ha)) fun σ H Q ⟨ρ, S, env, R, er, hA⟩ => ⟨ρ, S, env, R, er, ?_⟩
  unfold ev at hA
  refine (Aft.split (Ru := VR L.K) hA).imp ?_
  rintro x H' ⟨ρ1, S1, v, p, k, R1, r, h1⟩
  have e : decide (x = V.non) = decide (v = Val.non) := by
    cases v with
    | non => cases r; rfl
    | tup vs => obtain ⟨_, _, e, _⟩ := r; subst e; rfl
    | ro vs => obtain ⟨_, _, e, _⟩ := r; subst e; rfl
    | loc n => obtain ⟨_, e, _⟩ := r; subst e; rfl
    | _ => cases r; rfl
  rw [e]
  exact Aft.now h1 R1 rfl

/-! ### argument lists, displays -/
theorem m_nil : PA X [] (tMs L W (evs Γ [])) := by
  refine PA.mono pa_nil fun σ H Q ⟨ρ, S, env, R, er, hA⟩ => ?_
  unfold evs at hA
  exact Aft.now hA R VRs.nil
theorem m_cons {es : List Expr} {ms : List E} (ha : PE X a (tM L W (ev Γ ea))) (hr : PA X es (tMs L W (evs Γ ms))) (hs : starEach (a :: es) X.env = (false, eval a X.env) :: starEach es X.env := by rfl) : PA X (a :: es) (tMs L W (evs Γ (ea :: ms))) := by
  refine PA.mono (pa_cons ha hr hs) fun σ H Q ⟨ρ, S, env, R, er, hA⟩ => ⟨ρ, S, env, R, er, ?_⟩
  unfold evs at hA
  refine (Aft.split (Ru := VR L.K) hA).imp ?_
  rintro x H1 ⟨ρ1, S1, v, p, k, R1, r, h1⟩
  refine ⟨ρ1, S1, env, R1, er.mono p k, (Aft.split (Ru := VRs L.K) h1).imp ?_⟩
  rintro xs H2 ⟨ρ2, S2, vs, p2, k2, R2, r2, h2⟩
  exact Aft.now h2 R2 (VRs.cons (r.mono p2 k2) r2)
theorem lineC_eq : lineC = sizeLine := by rw [sizeLine_eq]; rfl
theorem m_tup {es : List Expr} {ms : List E} {k} (h : PA X es (tMs L W (evs Γ ms))) : PE X (.Tuple es k pos) (tM L W (ev Γ (.tup ms))) := by
  refine PE.mono (pe_tup h) fun σ H Q ⟨ρ, S, env, R, er, hA⟩ => ⟨ρ, S, env, R, er, ?_⟩
  unfold ev at hA
  refine (Aft.split (Ru := VRs L.K) hA).imp ?_
  rintro xs H1 ⟨ρ1, S1, vs, p, k, R1, r, h1⟩
  by_cases hz : vs.length ≤ lineC
  · rw [if_pos hz] at h1
    refine ⟨by rw [← r.length, ← lineC_eq]; exact hz, fun q hq => ?_⟩
    exact h1 ρ1 _ _ (List.prefix_refl _) (Keep.new hq) (R1.new hq) ⟨q, xs, rfl, .inl (.inl upd_same), r.mono (List.prefix_refl _) (Keep.new hq)⟩
  · rw [if_neg hz] at h1
    exact h1.elim
/-- a new list -/
theorem Aft.newL {ρ : List Addr} {H : Hp} {σ : St} {Q : VK} {vs : List Val} {xs : List V} {S : Store} (h : AftV L ρ H σ W Q (newL vs S)) (R : Rel L ρ S H) (r : VRs L.K ρ H vs xs) : xs.length ≤ sizeLine ∧ ∀ q, H q = none → Q (.ref q) (upd H q (.lst xs)) := by
  unfold C.newL at h
  by_cases hz : vs.length ≤ lineC
  · rw [if_pos hz] at h
    refine ⟨by rw [← r.length, ← lineC_eq]; exact hz, fun q hq => ?_⟩
    have r' := r.mono (List.prefix_append ρ [q]) (Keep.new (o := .lst xs) hq)
    refine h (ρ ++ [q]) _ _ (List.prefix_append _ _) (Keep.new hq) (R.alloc hq ⟨xs, upd_same, r'⟩) ⟨q, rfl, ?_⟩
    rw [← R.len, List.getElem?_append_right (Nat.le_refl _)]
    simp
  · rw [if_neg hz] at h
    exact h.elim
theorem m_lst {es : List Expr} {ms : List E} (h : PA X es (tMs L W (evs Γ ms))) : PE X (.List es pos) (tM L W (ev Γ (.lst ms))) := by
  refine PE.mono (pe_lst h) fun σ H Q ⟨ρ, S, env, R, er, hA⟩ => ⟨ρ, S, env, R, er, ?_⟩
  unfold ev at hA
  refine (Aft.split (Ru := VRs L.K) hA).imp ?_
  rintro xs H1 ⟨ρ1, S1, vs, p, k, R1, r, h1⟩
  exact Aft.newL h1 R1 r

/-! ### operators on values -/
theorem VR.lst {ρ : List Addr} {H : Hp} {S : Store} {n : Nat} {xs : List Val} {x : V} (R : Rel L ρ S H) (h : VR L.K ρ H (.loc n) x) (e : S[n]? = some (.lst xs)) : ∃ p ys, x = .ref p ∧ ρ[n]? = some p ∧ H p = some (.lst ys) ∧ VRs L.K ρ H xs ys := by
  obtain ⟨a, rfl, ha⟩ := h
  obtain ⟨ys, h1, h2⟩ := R.at_ n _ a e ha
  exact ⟨a, ys, rfl, ha, h1, h2⟩
theorem mul_ok {i j : Int} (h : (decide (i.natAbs < 2 ^ 64) || decide (j.natAbs < 2 ^ 64)) = true) : CMul i j := by
  simp only [Bool.or_eq_true, decide_eq_true_eq] at h
  unfold CMul
  omega
theorem o_add : OpS X L W (binaryOp .Add) (binV Γ .add) := by
  intro pins s σ H ρ S vx vy x y v u Q I rx ry R hx hy hA
  cases vx with
  | int i =>
    cases vy with
    | int j =>
      cases hx; cases hy
      exact op_add pins s σ H _ _ v u Q I rx ry ⟨i, j, rfl, rfl, Aft.now hA R rfl⟩
    | _ => exact hA.elim
  | str i =>
    cases vy with
    | str j =>
      cases hx; cases hy
      have hA : AftV L ρ H σ W Q (if i.length + j.length ≤ lineC then .ok (.str (i ++ j)) S else .bad) := hA
      by_cases hz : i.length + j.length ≤ lineC
      · rw [if_pos hz] at hA
        exact op_add_str pins s σ H _ _ v u Q I rx ry ⟨i, j, rfl, rfl, by rw [← lineC_eq]; exact hz, Aft.now hA R rfl⟩
      · rw [if_neg hz] at hA
        exact hA.elim
    | _ => exact hA.elim
  | loc n =>
    cases vy with
    | loc m =>
      have hA : AftV L ρ H σ W Q (match S[n]?, S[m]? with
        | some (.lst xs), some (.lst ys) => newL (xs ++ ys) S
        | _, _ => .bad) := hA
      split at hA
      · rename_i xs ys e1 e2
        obtain ⟨p, xs', rfl, _, hp, r1⟩ := hx.lst R e1
        obtain ⟨q, ys', rfl, _, hq, r2⟩ := hy.lst R e2
        obtain ⟨z, k⟩ := Aft.newL hA R (r1.append r2)
        exact op_cat pins s σ H _ _ v u Q I rx ry ⟨p, q, xs', ys', rfl, rfl, hp, hq, by rw [← List.length_append]; exact z, k⟩
      · exact hA.elim
    | _ => exact hA.elim
  | _ => cases vy <;> exact hA.elim
theorem o_sub : OpS X L W (binaryOp .Sub) (binV Γ .sub) := by
  intro pins s σ H ρ S vx vy x y v u Q I rx ry R hx hy hA
  cases vx with
  | int i =>
    cases vy with
    | int j =>
      cases hx; cases hy
      exact op_sub pins s σ H _ _ v u Q I rx ry ⟨i, j, rfl, rfl, Aft.now hA R rfl⟩
    | _ => exact hA.elim
  | _ => cases vy <;> exact hA.elim
theorem o_mul : OpS X L W (binaryOp .Mult) (binV Γ .mul) := by
  intro pins s σ H ρ S vx vy x y v u Q I rx ry R hx hy hA
  cases vx with
  | int i =>
    cases vy with
    | int j =>
      cases hx; cases hy
      have hA : AftV L ρ H σ W Q (if (decide (i.natAbs < 2 ^ 64) || decide (j.natAbs < 2 ^ 64)) = true then .ok (.int (i * j)) S else .bad) := hA
      split at hA
      · rename_i hc
        exact op_mul pins s σ H _ _ v u Q I rx ry ⟨i, j, rfl, rfl, mul_ok hc, Aft.now hA R rfl⟩
      · exact hA.elim
    | _ => exact hA.elim
  | _ => cases vy <;> exact hA.elim
theorem o_fdiv : OpS X L W (binaryOp .FloorDiv) (binV Γ .fdiv) := by
  intro pins s σ H ρ S vx vy x y v u Q I rx ry R hx hy hA
  cases vx with
  | int i =>
    cases vy with
    | int j =>
      cases hx; cases hy
      have hA : AftV L ρ H σ W Q (if (decide (0 < j) && decide (j < 1073741824)) = true then .ok (.int (i / j)) S else .bad) := hA
      split at hA
      · rename_i hc
        simp only [Bool.and_eq_true, decide_eq_true_eq] at hc
        exact op_fdiv pins s σ H _ _ v u Q I rx ry ⟨i, j, rfl, rfl, hc, Aft.now hA R rfl⟩
      · exact hA.elim
    | _ => exact hA.elim
  | _ => cases vy <;> exact hA.elim
theorem o_mod : OpS X L W (binaryOp .Mod) (binV Γ .mod) := by
  intro pins s σ H ρ S vx vy x y v u Q I rx ry R hx hy hA
  cases vx with
  | int i =>
    cases vy with
    | int j =>
      cases hx; cases hy
      have hA : AftV L ρ H σ W Q (if decide (0 < j) = true then .ok (.int (i % j)) S else .bad) := hA
      split at hA
      · rename_i hc
        exact op_mod pins s σ H _ _ v u Q I rx ry ⟨i, j, rfl, rfl, of_decide_eq_true hc, Aft.now hA R rfl⟩
      · exact hA.elim
    | _ => exact hA.elim
  | _ => cases vy <;> exact hA.elim
theorem o_pow : OpS X L W (binaryOp .Pow) (binV Γ .pow) := by
  intro pins s σ H ρ S vx vy x y v u Q I rx ry R hx hy hA
  cases vx with
  | int i =>
    cases vy with
    | int j =>
      cases hx; cases hy
      have hA : AftV L ρ H σ W Q (if (decide (0 ≤ j) && decide (j ≤ 1000000) && decide (i.natAbs < 2 ^ 64)) = true then .ok (.int (i ^ j.toNat)) S else .bad) := hA
      split at hA
      · rename_i hc
        simp only [Bool.and_eq_true, decide_eq_true_eq] at hc
        exact op_pow pins s σ H _ _ v u Q I rx ry ⟨i, j, rfl, rfl, ⟨hc.1.1, hc.1.2, hc.2⟩, Aft.now hA R rfl⟩
      · exact hA.elim
    | _ => exact hA.elim
  | _ => cases vy <;> exact hA.elim
end

/-! ### == of data -/
mutual
/-- the data that a value is, where no bool, no place is within -/
def dat : Val → PyData
  | .non => .none
  | .bl b => .bool b
  | .int i => .int i
  | .str s => .str s
  | .tup xs => .tuple (dats xs)
  | .loc _ => .none
  | .ro _ => .none
def dats : List Val → List PyData
  | [] => []
  | x :: xs => dat x :: dats xs
end
mutual
theorem Dp.of {K : PySem.W.Frag} {ρ : List Addr} {H : Hp} : ∀ {v : Val} {x : V}, v.data = true → VR K ρ H v x → Dp K H x (dat v)
  | .non, _, _, h => by cases h; exact .non
  | .bl _, _, _, h => by cases h; exact .bl _
  | .int _, _, _, h => by cases h; exact .int _
  | .str _, _, _, h => by cases h; exact .str _
  | .tup vs, _, d, h => by
    obtain ⟨a, xs, rfl, hq, hs⟩ := h
    exact .tup hq (DpAll.of d hs)
  | .loc _, _, d, _ => by cases d
  | .ro _, _, d, _ => by cases d
theorem DpAll.of {K : PySem.W.Frag} {ρ : List Addr} {H : Hp} : ∀ {vs : List Val} {xs : List V}, Val.datas vs = true → VRs K ρ H vs xs → DpAll K H xs (dats vs)
  | [], _, _, h => by cases h; exact .nil
  | v :: vs, _, d, h => by
    obtain ⟨y, ys, rfl, h1, h2⟩ := h
    have d' : (Val.data v && Val.datas vs) = true := d
    rw [Bool.and_eq_true] at d'
    exact .cons (Dp.of d'.1 h1) (DpAll.of d'.2 h2)
end
mutual
theorem nb_data : ∀ {v : Val} {n : Nat}, v.nb n = true → v.data = true
  | .non, _, _ => rfl
  | .bl _, _, _ => rfl
  | .int _, _, _ => rfl
  | .str _, _, _ => rfl
  | .tup vs, 0, h => by simp [Val.nb] at h
  | .tup vs, n + 1, h => by
    have h' : Val.nbs vs n = true := by simpa [Val.nb] using h
    exact nbs_data (vs := vs) h'
  | .loc _, _, h => by simp [Val.nb] at h
  | .ro _, _, h => by simp [Val.nb] at h
theorem nbs_data : ∀ {vs : List Val} {n : Nat}, Val.nbs vs n = true → Val.datas vs = true
  | [], _, _ => rfl
  | v :: vs, n, h => by
    have h' : (Val.nb v n && Val.nbs vs n) = true := by simpa [Val.nbs] using h
    rw [Bool.and_eq_true] at h'
    show (Val.data v && Val.datas vs) = true
    rw [nb_data h'.1, nbs_data h'.2]; rfl
end
mutual
theorem nb_lay : ∀ {v : Val} {n : Nat}, v.nb n = true → (dat v).canLay0 = true ∧ (dat v).depth ≤ n
  | .non, _, _ => ⟨rfl, Nat.zero_le _⟩
  | .bl _, _, _ => ⟨rfl, Nat.zero_le _⟩
  | .int _, _, _ => ⟨rfl, Nat.zero_le _⟩
  | .str s, n, h => ⟨by show PyData.canLay0 (.str s) = true; unfold PyData.canLay0 PyData.strOk; simpa [Val.nb] using h, Nat.zero_le _⟩
  | .tup vs, 0, h => by simp [Val.nb] at h
  | .tup vs, n + 1, h => by
    have h' : Val.nbs vs n = true := by simpa [Val.nb] using h
    obtain ⟨h1, h2⟩ := nbs_lay (vs := vs) h'
    exact ⟨by simpa [dat, PyData.canLay0] using h1, by simp only [dat, PyData.depth]; omega⟩
  | .loc _, _, h => by simp [Val.nb] at h
  | .ro _, _, h => by simp [Val.nb] at h
theorem nbs_lay : ∀ {vs : List Val} {n : Nat}, Val.nbs vs n = true → PyData.canLayAll0 (dats vs) = true ∧ PyData.depthAll (dats vs) ≤ n
  | [], _, _ => ⟨rfl, Nat.zero_le _⟩
  | v :: vs, n, h => by
    have h' : (Val.nb v n && Val.nbs vs n) = true := by simpa [Val.nbs] using h
    rw [Bool.and_eq_true] at h'
    obtain ⟨a1, a2⟩ := nb_lay h'.1
    obtain ⟨b1, b2⟩ := nbs_lay h'.2
    refine ⟨by simp [dats, PyData.canLayAll0, a1, b1], ?_⟩
    simp only [dats, PyData.depthAll]
    omega
end
theorem nb_shaped {v : Val} (h : v.noBl = true) : SeqAt.shaped (dat v) = true := by
  obtain ⟨h1, h2⟩ := nb_lay h
  unfold SeqAt.shaped
  rw [h1, Bool.true_and]
  exact decide_eq_true (by omega)
theorem nbs_shaped {vs : List Val} (h : Val.noBls vs = true) : SeqAt.shaped (.list (dats vs)) = true := by
  obtain ⟨h1, h2⟩ := nbs_lay h
  unfold SeqAt.shaped
  rw [show PyData.canLay0 (.list (dats vs)) = true by simpa [PyData.canLay0] using h1, Bool.true_and]
  exact decide_eq_true (by simp only [PyData.depth]; omega)
mutual
theorem eqv_dat : ∀ {a b : Val} {n m : Nat}, a.nb n = true → b.nb m = true → PyData.eqv (dat a) (dat b) = decide (a = b)
  | .non, b, n, m, _, hb => by cases b <;> simp_all [dat, PyData.eqv, Val.nb]
  | .bl _, b, _, _, h, _ => by simp [Val.nb] at h
  | .int i, b, n, m, _, hb => by
    cases b <;> simp_all [dat, PyData.eqv, Val.nb]
    first | rfl | (rw [Bool.eq_iff_iff]; simp)
  | .str s, b, n, m, _, hb => by
    cases b <;> simp_all [dat, PyData.eqv, Val.nb]
    first | rfl | (rw [Bool.eq_iff_iff]; simp)
  | .tup xs, b, 0, _, h, _ => by simp [Val.nb] at h
  | .tup xs, b, n + 1, m, h, hb => by
    have h' : Val.nbs xs n = true := by simpa [Val.nb] using h
    cases b with
    | tup ys =>
      cases m with
      | zero => simp [Val.nb] at hb
      | succ m =>
        have hb' : Val.nbs ys m = true := by simpa [Val.nb] using hb
        simp only [dat, PyData.eqv]
        rw [eqvAll_dats h' hb', Bool.eq_iff_iff]; simp
    | _ => simp_all [dat, PyData.eqv, Val.nb]
  | .loc _, _, _, _, h, _ => by simp [Val.nb] at h
  | .ro _, _, _, _, h, _ => by simp [Val.nb] at h
theorem eqvAll_dats : ∀ {xs ys : List Val} {n m : Nat}, Val.nbs xs n = true → Val.nbs ys m = true → PyData.eqvAll (dats xs) (dats ys) = decide (xs = ys)
  | [], ys, _, _, _, _ => by cases ys <;> simp [dats, PyData.eqvAll]
  | x :: xs, [], _, _, _, _ => by simp [dats, PyData.eqvAll]
  | x :: xs, y :: ys, n, m, h, hb => by
    have h' : (Val.nb x n && Val.nbs xs n) = true := by simpa [Val.nbs] using h
    have hb' : (Val.nb y m && Val.nbs ys m) = true := by simpa [Val.nbs] using hb
    rw [Bool.and_eq_true] at h' hb'
    simp only [dats, PyData.eqvAll]
    rw [eqv_dat h'.1 hb'.1, eqvAll_dats h'.2 hb'.2, Bool.eq_iff_iff]; simp
end
theorem any_eqv {x : Val} (hx : x.noBl = true) : ∀ {xs : List Val} {n : Nat}, Val.nbs xs n = true → (dats xs).any (fun z => PyData.eqv z (dat x)) = xs.contains x
  | [], _, _ => rfl
  | y :: ys, n, h => by
    have h' : (Val.nb y n && Val.nbs ys n) = true := by simpa [Val.nbs] using h
    rw [Bool.and_eq_true] at h'
    rw [dats, List.any_cons, any_eqv hx h'.2, eqv_dat h'.1 hx, List.contains_cons]
    congr 1
    rw [Bool.eq_iff_iff]
    simp
    exact eq_comm
theorem bls_facts : ∀ {xs : List Val} {b : Bool}, xs.all isBlV = true → Val.datas xs = true ∧ PyData.canLayAll0 (dats xs) = true ∧ PyData.depthAll (dats xs) = 0 ∧ (dats xs).any (fun z => PyData.eqv z (.bool b)) = xs.contains (.bl b)
  | [], b, _ => ⟨rfl, rfl, rfl, rfl⟩
  | y :: ys, b, h => by
    rw [List.all_cons, Bool.and_eq_true] at h
    obtain ⟨h1, h2, h3, h4⟩ := bls_facts (b := b) h.2
    cases y with
    | bl c =>
      refine ⟨by simp [Val.datas, Val.data, h1], by simp [dats, dat, PyData.canLayAll0, PyData.canLay0, h2], by simp [dats, dat, PyData.depthAll, PyData.depth, h3], ?_⟩
      rw [dats, List.any_cons, h4, List.contains_cons]
      congr 1
      cases b <;> cases c <;> simp [dat, PyData.eqv]
    | _ => simp [isBlV] at h
theorem inOk_facts {x : Val} {xs : List Val} (h : inOk x xs = true) : x.data = true ∧ Val.datas xs = true ∧ SeqAt.shaped (dat x) = true ∧ SeqAt.shaped (.list (dats xs)) = true ∧ (dats xs).any (fun z => PyData.eqv z (dat x)) = xs.contains x := by
  unfold inOk at h
  rw [Bool.or_eq_true] at h
  rcases h with h | h
  · rw [Bool.and_eq_true] at h
    exact ⟨nb_data h.1, nbs_data h.2, nb_shaped h.1, nbs_shaped h.2, any_eqv h.1 h.2⟩
  · rw [Bool.and_eq_true] at h
    cases x with
    | bl b =>
      obtain ⟨h1, h2, h3, h4⟩ := bls_facts (b := b) h.2
      refine ⟨rfl, h1, by unfold SeqAt.shaped; simp [dat, PyData.canLay0, PyData.depth], ?_, h4⟩
      unfold SeqAt.shaped
      rw [show PyData.canLay0 (.list (dats xs)) = true by simpa [PyData.canLay0] using h2, Bool.true_and]
      exact decide_eq_true (by simp only [PyData.depth]; omega)
    | _ => simp [isBlV] at h
section
variable {X : L2.Cx} {L : Lk} {W : WX} {Γ : Cx}
theorem scal_of {ρ : List Addr} {H : Hp} {a b : Val} {x y : V} (h : scalV a b = true) (ha : VR L.K ρ H a x) (hb : VR L.K ρ H b y) : scal x y = true ∧ decide (x = y) = decide (a = b) := by
  cases a <;> cases b <;> simp [scalV] at h <;> (cases ha; cases hb; refine ⟨rfl, ?_⟩; rw [Bool.eq_iff_iff]; simp)
theorem o_eq (hk : X.K = L.K) (hu : X.A.units + 70 < cLine) : OpS X L W (compareOp .Eq) (cmpV Γ .eq) := by
  intro pins s σ H ρ S vx vy x y v u Q I rx ry R hx hy hA
  have hA : AftV L ρ H σ W Q (match eqVal vx vy with | some b => .ok (.bl b) S | none => .bad) := hA
  unfold eqVal at hA
  by_cases hs : scalV vx vy = true
  · rw [if_pos (by rw [hs]; rfl)] at hA
    obtain ⟨h1, h2⟩ := scal_of hs hx hy
    refine op_eq pins s σ H _ _ v u Q I rx ry ⟨h1, ?_⟩
    rw [h2]
    exact Aft.now hA R rfl
  · by_cases hn : (vx.noBl && vy.noBl) = true
    · rw [if_pos (by rw [hn, Bool.or_true])] at hA
      rw [Bool.and_eq_true] at hn
      refine op_eqD (by omega) pins s σ H _ _ v u Q I rx ry ⟨dat vx, dat vy, by rw [hk]; exact Dp.of (nb_data hn.1) hx, by rw [hk]; exact Dp.of (nb_data hn.2) hy, nb_shaped hn.1, nb_shaped hn.2, ?_⟩
      rw [eqv_dat hn.1 hn.2]
      exact Aft.now hA R rfl
    · rw [if_neg (by rw [Bool.or_eq_true]; rintro (h | h); exact hs h; exact hn h)] at hA
      exact hA.elim
theorem o_ne (hk : X.K = L.K) (hu : X.A.units + 70 < cLine) : OpS X L W (compareOp .NotEq) (cmpV Γ .ne) := by
  intro pins s σ H ρ S vx vy x y v u Q I rx ry R hx hy hA
  have hA : AftV L ρ H σ W Q (match eqVal vx vy with | some b => .ok (.bl (!b)) S | none => .bad) := hA
  unfold eqVal at hA
  by_cases hs : scalV vx vy = true
  · rw [if_pos (by rw [hs]; rfl)] at hA
    obtain ⟨h1, h2⟩ := scal_of hs hx hy
    refine op_ne pins s σ H _ _ v u Q I rx ry ⟨h1, ?_⟩
    rw [h2]
    exact Aft.now hA R rfl
  · by_cases hn : (vx.noBl && vy.noBl) = true
    · rw [if_pos (by rw [hn, Bool.or_true])] at hA
      rw [Bool.and_eq_true] at hn
      refine op_neD (by omega) pins s σ H _ _ v u Q I rx ry ⟨dat vx, dat vy, by rw [hk]; exact Dp.of (nb_data hn.1) hx, by rw [hk]; exact Dp.of (nb_data hn.2) hy, nb_shaped hn.1, nb_shaped hn.2, ?_⟩
      rw [eqv_dat hn.1 hn.2]
      exact Aft.now hA R rfl
    · rw [if_neg (by rw [Bool.or_eq_true]; rintro (h | h); exact hs h; exact hn h)] at hA
      exact hA.elim
theorem op_lt' : OpR X (compareOp .Lt) (rI0 fun i j => .bl (decide (i < j))) := opB0 fun _ _ _ _ _ _ _ q => lt_int q
theorem op_le' : OpR X (compareOp .LtE) (rI0 fun i j => .bl (decide (i ≤ j))) := opB0 fun _ _ _ _ _ _ _ q => le_int q
theorem op_gt' : OpR X (compareOp .Gt) (rI0 fun i j => .bl (decide (j < i))) := opB0 fun _ _ _ _ _ _ _ q => gt_int q
theorem op_ge' : OpR X (compareOp .GtE) (rI0 fun i j => .bl (decide (j ≤ i))) := opB0 fun _ _ _ _ _ _ _ q => ge_int q
theorem VR.pair {ρ : List Addr} {H : Hp} {i j : Int} {x : V} (h : VR L.K ρ H (.tup [.int i, .int j]) x) : ∃ a, x = .ref a ∧ SqT L.K H a ([i, j].map V.int) := by
  obtain ⟨a, xs, rfl, hq, y, ys, rfl, rfl, z, zs, rfl, rfl, rfl⟩ := h
  exact ⟨a, rfl, hq⟩
theorem o_lt (hk : X.K = L.K) (hu : X.A.units + 70 < cLine) : OpS X L W (compareOp .Lt) (cmpV Γ .lt) := by
  intro pins s σ H ρ S vx vy x y v u Q I rx ry R hx hy hA
  have hA : AftV L ρ H σ W Q (match ltVal vx vy with | some b => .ok (.bl b) S | none => .bad) := hA
  unfold ltVal at hA
  split at hA
  · rename_i b e
    split at e
    · cases e; cases hx; cases hy
      exact op_lt' pins s σ H _ _ v u Q I rx ry ⟨_, _, rfl, rfl, Aft.now hA R rfl⟩
    · rename_i i j i2 j2
      cases e
      obtain ⟨a, rfl, h1⟩ := hx.pair
      obtain ⟨b, rfl, h2⟩ := hy.pair
      refine op_ltT (by omega) pins s σ H _ _ v u Q I rx ry ⟨a, b, _, _, rfl, rfl, by rw [hk]; exact h1, by rw [hk]; exact h2, ?_⟩
      have e : HT.lexLt [i, j] [i2, j2] = ltPair (i, j) (i2, j2) := by
        unfold ltPair
        rw [HT.lexLt_cons, HT.lexLt_cons, HT.lexLt_nil_nil]
        by_cases h : i = i2
        · subst h
          by_cases h' : j = j2
          · subst h'; simp
          · simp [h']
        · rw [if_neg h]; simp [h]
      rw [e]
      exact Aft.now hA R rfl
    · cases e
  · exact hA.elim
theorem o_le : OpS X L W (compareOp .LtE) (cmpV Γ .le) := by
  intro pins s σ H ρ S vx vy x y v u Q I rx ry R hx hy hA
  cases vx with
  | int i =>
    cases vy with
    | int j =>
      cases hx; cases hy
      exact op_le' pins s σ H _ _ v u Q I rx ry ⟨i, j, rfl, rfl, Aft.now hA R rfl⟩
    | _ => exact hA.elim
  | _ => cases vy <;> exact hA.elim
theorem o_gt : OpS X L W (compareOp .Gt) (cmpV Γ .gt) := by
  intro pins s σ H ρ S vx vy x y v u Q I rx ry R hx hy hA
  cases vx with
  | int i =>
    cases vy with
    | int j =>
      cases hx; cases hy
      exact op_gt' pins s σ H _ _ v u Q I rx ry ⟨i, j, rfl, rfl, Aft.now hA R rfl⟩
    | _ => exact hA.elim
  | _ => cases vy <;> exact hA.elim
theorem o_ge : OpS X L W (compareOp .GtE) (cmpV Γ .ge) := by
  intro pins s σ H ρ S vx vy x y v u Q I rx ry R hx hy hA
  cases vx with
  | int i =>
    cases vy with
    | int j =>
      cases hx; cases hy
      exact op_ge' pins s σ H _ _ v u Q I rx ry ⟨i, j, rfl, rfl, Aft.now hA R rfl⟩
    | _ => exact hA.elim
  | _ => cases vy <;> exact hA.elim
end
end C
end
section
set_option Elab.async false
set_option linter.all false
set_option maxRecDepth 100000
set_option maxHeartbeats 1000000
/-! C5: subscripts, attributes, calls. -/
namespace C
open PySem PySem.Spec L2 ItX
open PyProof.Rows hiding St

/-- the facts of the text that the numbers stand for -/
structure LkOk (L : Lk) : Prop where
  nd : L.names.Nodup
  keep : ∀ f d, L.T.defs f = some d → PySem.W.keepIn L.K (.ref (L.fn f).a) = true
  binds : ∀ f d, L.T.defs f = some d → Binds L.K (L.fn f).fd (L.fn f).ps []
  cls : ∀ c ci, L.T.cls c = some ci → ∃ C, L.caddr c = some C ∧ Cls L.K C ∧ PySem.W.selfFirst L.K C = true ∧ PySem.W.noSeq L.K C = true ∧ (∀ f ∈ ci.fields, ∃ nm, L.names[f]? = some nm ∧ NoAttr L.K C nm) ∧
    (∀ m f, ci.meths.lookup m = some f → ∃ nm, L.names[m]? = some nm ∧ Meth L.K C nm (L.fn f).a ∧ ∃ d, L.T.defs f = some d) ∧
    ∀ f, ci.init = some f → Mk L.K C (L.fn f).a ∧ ∃ d, L.T.defs f = some d

/-- what a def promises: what the interpreter's call gives -/
def spM (L : Lk) (call : Nat → List Val → Store → Res Val) (f : Nat) : Sp := fun vs H Q E =>
  ∃ ρ S args, Rel L ρ S H ∧ VRs L.K ρ H args vs ∧ Aft L ρ H [] (fun cls d _ H' => E cls d H') (VR L.K) Q (call f args S)

/-- what an own __iter__ promises: an iterator over the list in the attribute nm -/
def spIter (K : PySem.W.Frag) (nm : Str) : Sp := fun vs H Q _ => ∃ a Ca dx gs l xs, vs = [.ref a] ∧ H a = some (.ins Ca dx gs) ∧ Cls K Ca ∧ NoAttr K Ca nm ∧ gs.lookup nm = some (.ref l) ∧ SqL K H l xs ∧
  ∃ m, H m ≠ none ∧ ∀ it, H it = none → m < it → Q (.ref it) (upd H it (ItO l it 0))

/-- the classes with an own __iter__ over a list in an attribute -/
structure ItF (L : Lk) (base : Heap) (c : Nat) (f : Nat) (Ca fi : Addr) (fd : FuncData) (nm : Str) : Prop where
  hC : L.caddr c = some Ca
  hn : L.names[f]? = some nm
  it : PySem.W.findIn L.K (.ref Ca) "__iter__" = some (some (.ref fi))
  itF : PySem.W.isFn L.K (.ref fi) = true
  nolen : PySem.W.findIn L.K (.ref Ca) "__len__" = some none
  nohint : PySem.W.findIn L.K (.ref Ca) "__length_hint__" = some none
  hb : Binds L.K fd ["self"] []
  fn : FnOk L.P L.w L.K L.mg base (L2.CX L.P L.w) 1 fi fd ["self"] (spIter L.K nm)
def ItOk (L : Lk) (base : Heap) : Prop := ∀ c ci f, L.T.cls c = some ci → ci.itf = some f → ∃ Ca fi fd nm, ItF L base c f Ca fi fd nm

/-- where a body stands: the level below is known -/
structure Good (X : L2.Cx) (L : Lk) (Γ : Cx) (W : WX) (k : Nat) : Prop where
  hP : X.prog = L.P
  hw : X.w = L.w
  hK : X.K = L.K
  hm : X.mg = L.mg
  hT : Γ.T = L.T
  link : LkOk L
  fn : ∀ f d, L.T.defs f = some d → FnOk X.prog X.w X.K X.mg X.base (L2.CX X.prog X.w) k (L.fn f).a (L.fn f).fd (L.fn f).ps (spM L Γ.call f)
  /-- outside of an except suite -/
  cool : X.calm = true → Room (k + 1) X.A ∧ L.hx = none
  /-- in one: nothing is called -/
  hot : X.calm = false → ∀ f d args S, L.T.defs f = some d → Γ.call f args S = .bad
  hu : X.A.units + 70 < cLine
  deep : 6 ≤ k
  it : ItOk L X.base
  takes : Takes X W

section
variable {X : L2.Cx} {L : Lk} {W : WX} {Γ : Cx} {k : Nat}
theorem Good.room (G : Good X L Γ W k) (hc : X.calm = true) : Room (k + 1) X.A := (G.cool hc).1
theorem Good.nohx (G : Good X L Γ W k) (hc : X.calm = true) : L.hx = none := (G.cool hc).2
/-- what is called is called outside of an except suite -/
theorem Good.calmOf (G : Good X L Γ W k) {f : Nat} {d : Def} (hd : L.T.defs f = some d) {args : List Val} {S : Store} {r : Res Val} (e : Γ.call f args S = r) (h : r ≠ .bad) : X.calm = true := by
  cases q : X.calm with
  | true => rfl
  | false => exact absurd ((G.hot q f d args S hd).symm.trans e).symm h
theorem Good.calmA (G : Good X L Γ W k) {f : Nat} {d : Def} (hd : L.T.defs f = some d) {args : List Val} {S : Store} {ρ : List Addr} {H : Hp} {σ : St} {Q : VK} (h : AftV L ρ H σ W Q (Γ.call f args S)) : X.calm = true :=
  G.calmOf hd rfl fun z => by rw [z] at h; exact h.elim
theorem Good.calmB (G : Good X L Γ W k) {f : Nat} {d : Def} (hd : L.T.defs f = some d) {args : List Val} {S : Store} {ρ : List Addr} {H : Hp} {σ : St} {Q : VK} {g : Val → Store → Res Val} (h : AftV L ρ H σ W Q ((Γ.call f args S).bind g)) : X.calm = true :=
  G.calmOf hd rfl fun z => by rw [z] at h; exact h.elim
theorem Good.pass (G : Good X L Γ W k) (σ : St) : PassesAt (L2.CX X.prog X.w) X σ (fun cls d H => W cls d σ H) := fun pins H s e s' I c => G.takes e s' (XE.of_call I (fun _ _ _ h => h) c)
theorem Good.room' (G : Good X L Γ W k) (hc : X.calm = true) : Room k X.A := (G.room hc).mono (Nat.le_succ k)

/-- a def is called with values -/
theorem Good.callF (G : Good X L Γ W k) {f : Nat} {d : Def} (hd : L.T.defs f = some d) {pins : List (Addr × Obj)} {σ : St} {H : Hp} {s : Shared} {ρ : List Addr} {S : Store} {args : List Val} {vs : List V} {us : List Value} {Q : VK}
    (I : Inv X pins σ H s) (r : Vals vs us) (R : Rel L ρ S H) (ra : VRs L.K ρ H args vs) (h : AftV L ρ H σ W Q (Γ.call f args S)) : wpAny (model X.prog X.w) X.A (call (.ref (L.fn f).a) us) (EP X pins σ Q) X.xe s := by
  have F := G.fn f d hd
  refine run_fnSD (dvs := []) (ds := []) (E := fun σ cls d H => W cls d σ H) F (G.room' (G.calmA hd h)) (by rw [G.hK]; exact G.link.binds f d hd) .nil (G.pass σ) I r ?_
  rw [List.append_nil]
  refine ⟨ρ, S, args, R, ra, ?_⟩
  cases q : Γ.call f args S with
  | ok v S' => rw [q] at h; exact h
  | exc c fs S' => rw [q] at h; exact h
  | bad => rw [q] at h; exact h.elim

variable {a b c e o : Expr} {es : List Expr} {ea eb ec : E} {ms : List E} {pos p apos : Pos} {x : Str}
/-- f(e, ..) of a def at the top -/
theorem m_call (G : Good X L Γ W k) {f : Nat} {d : Def} (hd : L.T.defs f = some d) (hg : Gl X x) (hm : L.mg x = some (.ref (L.fn f).a)) (ha : PA X (e :: es) (tMs L W (evs Γ ms)))
    (hdb : (x == ("__debug__" : Str)) = false := by decide) (he : starEach (e :: es) X.env = (false, eval e X.env) :: starEach es X.env := by rfl) (hpl : (backTo pos (starEach es X.env)).any (·.1) = false := by rfl) :
    PE X (.Call (.Name x p) (e :: es) [] pos) (tM L W (ev Γ (.call f ms))) := by
  refine ⟨fun pins s σ H Q I ⟨ρ, S, env, R, er, hA⟩ => ?_⟩
  unfold ev at hA
  refine wpAny_Call_Name_kw (ld_glob I hg (by rw [G.hm]; exact hm) ?_ hdb)
  refine PySem.W.callWith_K (h₀ := X.base) I.ok.mod.kin (by rw [G.hK]; exact G.link.keep f d hd) (thn (ha.run pos pins s σ H _ I ⟨ρ, S, env, R, er, Aft.split (Ru := VRs L.K) hA⟩) fun us s1 ⟨vs, H1, I1, r, ρ1, S1, args, p1, k1, R1, ra, h1⟩ => ⟨I1.kIn, ?_⟩) he hpl
  exact G.callF hd I1 r R1 ra h1
theorem m_call0 (G : Good X L Γ W k) {f : Nat} {d : Def} (hd : L.T.defs f = some d) (hg : Gl X x) (hm : L.mg x = some (.ref (L.fn f).a))
    (hdb : (x == ("__debug__" : Str)) = false := by decide) : PE X (.Call (.Name x p) [] [] pos) (tM L W (ev Γ (.call f []))) := by
  refine ⟨fun pins s σ H Q I ⟨ρ, S, env, R, er, hA⟩ => ?_⟩
  unfold ev evs at hA
  refine wpAny_Call_Name_kw (ld_glob I hg (by rw [G.hm]; exact hm) ?_ hdb)
  refine PySem.W.callWith_K0 I.kIn (by rw [G.hK]; exact G.link.keep f d hd) ?_
  exact G.callF (us := []) (vs := []) hd I .nil R VRs.nil hA

/-- what stands at an instance's place -/
theorem VR.obj {ρ : List Addr} {H : Hp} {S : Store} {n c : Nat} {fs : List (Nat × Val)} {y : V} (R : Rel L ρ S H) (h : VR L.K ρ H (.loc n) y) (e : S[n]? = some (.obj c fs)) :
    ∃ q C dx gs ci, y = .ref q ∧ ρ[n]? = some q ∧ L.caddr c = some C ∧ H q = some (.ins C dx gs) ∧ FR L ρ H fs gs ∧ L.T.cls c = some ci ∧ ∀ p ∈ fs, p.1 ∈ ci.fields := by
  obtain ⟨a, rfl, ha⟩ := h
  obtain ⟨C, dx, gs, ci, h0, h1, h2, h3, h4⟩ := R.at_ n _ a e ha
  exact ⟨a, C, dx, gs, ci, rfl, ha, h0, h1, h2, h3, h4⟩
theorem objAt_some {S : Store} {n c : Nat} {fs : List (Nat × Val)} (h : objAt S n = some (c, fs)) : S[n]? = some (.obj c fs) := by
  unfold objAt at h
  split at h
  · rename_i e; cases h; exact e
  · cases h
/-- a method found -/
theorem special_some {S : Store} {m n f : Nat} (h : special Γ S m n = some f) : ∃ c fs ci, S[n]? = some (.obj c fs) ∧ fs.lookup m = none ∧ Γ.T.cls c = some ci ∧ ci.meths.lookup m = some f := by
  unfold special at h
  obtain ⟨⟨c, fs⟩, e, h⟩ := Option.bind_eq_some_iff.mp h
  by_cases hl : fs.lookup m = none
  · rw [if_pos hl] at h
    unfold methOf at h
    obtain ⟨ci, e2, h⟩ := Option.bind_eq_some_iff.mp h
    exact ⟨c, fs, ci, objAt_some e, hl, e2, h⟩
  · rw [if_neg hl] at h
    cases h
/-- what of the heap an instance with a method is -/
theorem Good.meth (G : Good X L Γ W k) {ρ : List Addr} {H : Hp} {S : Store} {m n f : Nat} {y : V} {nm : Str} (hn : L.names[m]? = some nm) (R : Rel L ρ S H) (r : VR L.K ρ H (.loc n) y) (h : special Γ S m n = some f) :
    ∃ q C dx gs d, y = .ref q ∧ ρ[n]? = some q ∧ H q = some (.ins C dx gs) ∧ Cls X.K C ∧ Meth X.K C nm (L.fn f).a ∧ gs.lookup nm = none ∧ L.T.defs f = some d := by
  obtain ⟨c, fs, ci, e, hl, e2, e3⟩ := special_some h
  obtain ⟨q, C, dx, gs, ci', rfl, hq, h0, h1, h2, h3, h4⟩ := r.obj R e
  rw [G.hT, h3] at e2; cases e2
  obtain ⟨C', hC, cl, _, _, hf, hme, _⟩ := G.link.cls c ci h3
  rw [h0] at hC; cases hC
  obtain ⟨nm', hn', me, d, hd⟩ := hme m f e3
  rw [hn] at hn'; cases hn'
  have q1 := h2.look G.link.nd hn
  rw [hl] at q1
  exact ⟨q, C, dx, gs, d, rfl, hq, h1, by rw [G.hK]; exact cl, by rw [G.hK]; exact me, q1, hd⟩
/-- o.m(e, ..) -/
theorem m_meth {pl : Sem Bool} {m : Nat} {nm : Str} (G : Good X L Γ W k) (hn : L.names[m]? = some nm) (ho : PE X o (tM L W (ev Γ ea))) (ha : PA X (e :: es) (tMs L W (evs Γ ms)))
    (hst : starEach (e :: es) X.env = (false, eval e X.env) :: starEach es X.env := by rfl) (hpl : (backTo pos (starEach es X.env)).any (·.1) = false := by rfl)
    (ht : eval (.Call (.Attribute o nm apos) (e :: es) [] pos) X.env = (do
      let ov ← eval o X.env
      standAt apos.atName
      let (f, first) ← holding [ov] (getMethod ov nm pl)
      callWith pos f first (backTo pos (starEach (e :: es) X.env)) (backToKw pos (keywordEach [] X.env))) := by rfl) :
    PE X (.Call (.Attribute o nm apos) (e :: es) [] pos) (tM L W (ev Γ (.meth ea m ms))) := by
  refine ⟨fun pins s σ H Q I ⟨ρ, S, env, R, er, hA⟩ => ?_⟩
  unfold ev at hA
  refine PySem.W.methodCall_KW (pl := pl) (thn (ho.run pins s σ H _ I ⟨ρ, S, env, R, er, Aft.split (Ru := VR L.K) hA⟩) fun u s1 ⟨y, H1, I1, ry, ρ1, S1, v, p1, k1, R1, rv, h1⟩ => ?_) ht
  cases v with
  | loc n =>
    have h1 : AftV L ρ1 H1 σ W Q (match special Γ S1 m n with
      | some f => (evs Γ ms env S1).bind fun xs S2 => Γ.call f (.loc n :: xs) S2
      | none => .bad) := h1
    cases hs : special Γ S1 m n with
    | none => rw [hs] at h1; exact h1.elim
    | some f =>
      rw [hs] at h1
      obtain ⟨q, C, dx, gs, d, rfl, hq, hH, cl, me, hl, hd⟩ := G.meth hn R1 rv hs
      obtain rfl : u = Value.ref q := ry
      refine getmeth_ok I1 hH cl me hl ?_
      refine PySem.W.callWith_K (first := [.ref q]) (h₀ := X.base) I.ok.mod.kin me.kp (thn (ha.run pos pins s1 σ H1 _ I1 ⟨ρ1, S1, env, R1, er.mono p1 k1, Aft.split (Ru := VRs L.K) h1⟩) fun us s2 ⟨vs, H2, I2, r2, ρ2, S2, args, p2, k2, R2, ra, h2⟩ => ⟨I2.kIn, ?_⟩) hst hpl
      exact G.callF (us := .ref q :: us) (vs := .ref q :: vs) hd I2 (.cons rfl r2) R2 (VRs.cons (rv.mono p2 k2) ra) h2
  | _ => exact h1.elim
/-- o.m() -/
theorem m_meth0 {pl : Sem Bool} {m : Nat} {nm : Str} (G : Good X L Γ W k) (hn : L.names[m]? = some nm) (ho : PE X o (tM L W (ev Γ ea)))
    (ht : eval (.Call (.Attribute o nm apos) [] [] pos) X.env = (do
      let ov ← eval o X.env
      standAt apos.atName
      let (f, first) ← holding [ov] (getMethod ov nm pl)
      callWith pos f first (backTo pos (starEach [] X.env)) (backToKw pos (keywordEach [] X.env))) := by rfl) :
    PE X (.Call (.Attribute o nm apos) [] [] pos) (tM L W (ev Γ (.meth ea m []))) := by
  refine ⟨fun pins s σ H Q I ⟨ρ, S, env, R, er, hA⟩ => ?_⟩
  unfold ev at hA
  refine PySem.W.methodCall_KW (pl := pl) (thn (ho.run pins s σ H _ I ⟨ρ, S, env, R, er, Aft.split (Ru := VR L.K) hA⟩) fun u s1 ⟨y, H1, I1, ry, ρ1, S1, v, p1, k1, R1, rv, h1⟩ => ?_) ht
  cases v with
  | loc n =>
    have h1 : AftV L ρ1 H1 σ W Q (match special Γ S1 m n with
      | some f => (evs Γ [] env S1).bind fun xs S2 => Γ.call f (.loc n :: xs) S2
      | none => .bad) := h1
    cases hs : special Γ S1 m n with
    | none => rw [hs] at h1; exact h1.elim
    | some f =>
      rw [hs] at h1
      obtain ⟨q, C, dx, gs, d, rfl, hq, hH, cl, me, hl, hd⟩ := G.meth hn R1 rv hs
      obtain rfl : u = Value.ref q := ry
      refine getmeth_ok I1 hH cl me hl ?_
      unfold evs at h1
      exact PySem.W.callWith_K0 (first := [.ref q]) I1.kIn me.kp (G.callF (us := [.ref q]) (vs := [.ref q]) hd I1 (.cons rfl .nil) R1 (VRs.cons rv VRs.nil) h1)
  | _ => exact h1.elim

/-! ### instances -/
/-- C(e, ..) with values -/
theorem Good.make (G : Good X L Γ W k) {c f : Nat} {ci : ClsI} (hc : L.T.cls c = some ci) (hf : ci.init = some f) {C : Addr} (hC : L.caddr c = some C) {pins : List (Addr × Obj)} {σ : St} {H : Hp} {s : Shared} {ρ : List Addr} {S : Store} {args : List Val} {vs : List V} {us : List Value} {Q : VK}
    (I : Inv X pins σ H s) (r : Vals vs us) (R : Rel L ρ S H) (ra : VRs L.K ρ H args vs)
    (h : AftV L ρ H σ W Q ((Γ.call f (.loc S.length :: args) (S ++ [.obj c []])).bind fun v S2 => if v = .non then .ok (.loc S.length) S2 else .bad)) : wpAny (model X.prog X.w) X.A (call (.ref C) us) (EP X pins σ Q) X.xe s := by
  obtain ⟨C', hC', cl, _, _, _, _, hi⟩ := G.link.cls c ci hc
  rw [hC] at hC'; cases hC'
  obtain ⟨M, d, hd⟩ := hi f hf
  have hcalm := G.calmB hd h
  have M' : Mk X.K C (L.fn f).a := by rw [G.hK]; exact M
  have F := G.fn f d hd
  have hb : Binds X.K (L.fn f).fd (L.fn f).ps [] := by rw [G.hK]; exact G.link.binds f d hd
  -- the new instance
  have hx : H (s.heap.objs.size + 1) = none := I.hok.fresh (Nat.le_succ _)
  have hdx : H s.heap.objs.size = none := I.hok.fresh (Nat.le_refl _)
  have hne : s.heap.objs.size ≠ s.heap.objs.size + 1 := Nat.ne_of_lt (Nat.lt_succ_self _)
  have I2 := Inv.made (C := C) I
  have k1 : Keep H (upd H s.heap.objs.size (.own (s.heap.objs.size + 1))) := Keep.new hdx
  have R1 : Rel L ρ S (upd H s.heap.objs.size (.own (s.heap.objs.size + 1))) := R.new hdx
  have hx1 : upd H s.heap.objs.size (.own (s.heap.objs.size + 1)) (s.heap.objs.size + 1) = none := by rw [upd_ne (Ne.symm hne)]; exact hx
  have k2 : Keep (upd H s.heap.objs.size (.own (s.heap.objs.size + 1))) (upd (upd H s.heap.objs.size (.own (s.heap.objs.size + 1))) (s.heap.objs.size + 1) (.ins C s.heap.objs.size [])) := Keep.new hx1
  have R2 := R1.alloc (c := .obj c []) (o := .ins C s.heap.objs.size []) hx1 ⟨C, s.heap.objs.size, [], ci, hC, upd_same, rfl, hc, fun p hp => by cases hp⟩
  have kk := k1.trans k2
  have hself : VR L.K (ρ ++ [s.heap.objs.size + 1]) (upd (upd H s.heap.objs.size (.own (s.heap.objs.size + 1))) (s.heap.objs.size + 1) (.ins C s.heap.objs.size [])) (.loc S.length) (.ref (s.heap.objs.size + 1)) := by
    refine ⟨_, rfl, ?_⟩
    rw [← R.len, List.getElem?_append_right (Nat.le_refl _)]
    simp
  have ra2 : VRs L.K (ρ ++ [s.heap.objs.size + 1]) (upd (upd H s.heap.objs.size (.own (s.heap.objs.size + 1))) (s.heap.objs.size + 1) (.ins C s.heap.objs.size [])) (.loc S.length :: args) (.ref (s.heap.objs.size + 1) :: vs) := VRs.cons hself (ra.mono (List.prefix_append _ _) kk)
  have h2 := Aft.split (Ru := VR L.K) (Aft.mono (List.prefix_append ρ [s.heap.objs.size + 1]) kk h)
  have hsp : spM L Γ.call f (.ref (s.heap.objs.size + 1) :: vs) (upd (upd H s.heap.objs.size (.own (s.heap.objs.size + 1))) (s.heap.objs.size + 1) (.ins C s.heap.objs.size [])) (fun v H2 => v = .non ∧ Q (.ref (s.heap.objs.size + 1)) H2) (fun cls d H => W cls d σ H) := by
    refine ⟨_, _, _, R2, ra2, ?_⟩
    have h3 := h2.imp (Q' := fun v H2 => v = .non ∧ Q (.ref (s.heap.objs.size + 1)) H2) (by
      rintro x H' ⟨ρ3, S3, v, p3, k3, R3, rv, hq⟩
      by_cases hv : v = .non
      · rw [if_pos hv] at hq
        subst hv
        obtain rfl : x = .non := rv
        exact ⟨rfl, Aft.now hq R3 (hself.mono p3 k3)⟩
      · rw [if_neg hv] at hq
        exact hq.elim)
    cases q : Γ.call f (.loc S.length :: args) (S ++ [.obj c []]) with
    | ok v S' => rw [q] at h3; exact h3
    | exc c fs S' => rw [q] at h3; exact h3
    | bad => rw [q] at h3; exact h3.elim
  have r2 : Vals (V.ref (s.heap.objs.size + 1) :: vs) (Value.ref (s.heap.objs.size + 1) :: us) := .cons rfl r
  have hl : (Value.ref (s.heap.objs.size + 1) :: us ++ []).length = (L.fn f).ps.length := by
    rw [List.append_nil, ← r2.length]
    exact F.len _ _ _ _ hsp
  have hb2 := hb _ (Value.ref (s.heap.objs.size + 1) :: us) I2.kIn hl
  rw [List.append_nil] at hb2
  refine wpAny_call (make_map (f := (L.fn f).a) I.kIn M'.makes M'.init (beq_iff_eq.mp M'.fn) (codeAny_mono (F.run _ X.stack _ _ ⟨Value.ref (s.heap.objs.size + 1) :: us, []⟩ (Value.ref (s.heap.objs.size + 1) :: us) _ _ _ ((G.room hcalm).make C us [])
    (I2.env0.make C us []) hb2 r2 hsp) fun r s' hq' => ?_))
  cases r with
  | error e =>
    exact G.takes e s' (XE.of_call I2 (fun _ _ _ h => h) hq')
  | ok fl =>
    cases fl with
    | ret u =>
      obtain ⟨v, H', I3, rv, ev, q3⟩ := I2.after hq'
      subst ev
      exact ⟨rv, ⟨V.ref (s.heap.objs.size + 1), H', I3, rfl, q3⟩⟩
    | next => exact False.elim hq'
    | brk => exact False.elim hq'
    | cont => exact False.elim hq'
theorem m_make (G : Good X L Γ W k) {c f : Nat} {ci : ClsI} {Ca : Addr} (hc : L.T.cls c = some ci) (hf : ci.init = some f) (hC : L.caddr c = some Ca) (hg : Gl X x) (hm : L.mg x = some (.ref Ca)) (ha : PA X (e :: es) (tMs L W (evs Γ ms)))
    (hdb : (x == ("__debug__" : Str)) = false := by decide) (he : starEach (e :: es) X.env = (false, eval e X.env) :: starEach es X.env := by rfl) (hpl : (backTo pos (starEach es X.env)).any (·.1) = false := by rfl) :
    PE X (.Call (.Name x p) (e :: es) [] pos) (tM L W (ev Γ (.make c ms))) := by
  refine ⟨fun pins s σ H Q I ⟨ρ, S, env, R, er, hA⟩ => ?_⟩
  unfold ev at hA
  obtain ⟨C', hC', cl, _, _, _, _, hi⟩ := G.link.cls c ci hc
  rw [hC] at hC'; cases hC'
  refine wpAny_Call_Name_kw (ld_glob I hg (by rw [G.hm]; exact hm) ?_ hdb)
  refine PySem.W.callWith_K (h₀ := X.base) I.ok.mod.kin (by rw [G.hK]; exact (hi f hf).1.kp) (thn (ha.run pos pins s σ H _ I ⟨ρ, S, env, R, er, Aft.split (Ru := VRs L.K) hA⟩) fun us s1 ⟨vs, H1, I1, r, ρ1, S1, args, p1, k1, R1, ra, h1⟩ => ⟨I1.kIn, ?_⟩) he hpl
  refine G.make hc hf hC I1 r R1 ra ?_
  have e1 : (Γ.T.cls c).bind (·.init) = some f := by rw [G.hT, hc]; exact hf
  have h1 : AftV L ρ1 H1 σ W Q (match (Γ.T.cls c).bind (·.init) with
    | some f => (Γ.call f (.loc S1.length :: args) (S1 ++ [.obj c []])).bind fun v S2 => if v = .non then .ok (.loc S1.length) S2 else .bad
    | none => .bad) := h1
  rw [e1] at h1
  exact h1
theorem m_make0 (G : Good X L Γ W k) {c f : Nat} {ci : ClsI} {Ca : Addr} (hc : L.T.cls c = some ci) (hf : ci.init = some f) (hC : L.caddr c = some Ca) (hg : Gl X x) (hm : L.mg x = some (.ref Ca))
    (hdb : (x == ("__debug__" : Str)) = false := by decide) : PE X (.Call (.Name x p) [] [] pos) (tM L W (ev Γ (.make c []))) := by
  refine ⟨fun pins s σ H Q I ⟨ρ, S, env, R, er, hA⟩ => ?_⟩
  unfold ev evs at hA
  obtain ⟨C', hC', cl, _, _, _, _, hi⟩ := G.link.cls c ci hc
  rw [hC] at hC'; cases hC'
  refine wpAny_Call_Name_kw (ld_glob I hg (by rw [G.hm]; exact hm) ?_ hdb)
  refine PySem.W.callWith_K0 I.kIn (by rw [G.hK]; exact (hi f hf).1.kp) ?_
  refine G.make (us := []) (vs := []) hc hf hC I .nil R VRs.nil ?_
  have e1 : (Γ.T.cls c).bind (·.init) = some f := by rw [G.hT, hc]; exact hf
  have h1 : AftV L ρ H σ W Q (match (Γ.T.cls c).bind (·.init) with
    | some f => (Γ.call f (.loc S.length :: []) (S ++ [.obj c []])).bind fun v S2 => if v = .non then .ok (.loc S.length) S2 else .bad
    | none => .bad) := hA
  rw [e1] at h1
  exact h1

/-- o.f -/
theorem m_attr (G : Good X L Γ W k) {f : Nat} {nm : Str} (hn : L.names[f]? = some nm) (ho : PE X o (tM L W (ev Γ ea))) (hb : attributeBase o nm X.env (eval o X.env) = eval o X.env := by rfl) : PE X (.Attribute o nm pos) (tM L W (ev Γ (.attr ea f))) := by
  refine PE.mono (pe_fld ho hb) fun σ H Q ⟨ρ, S, env, R, er, hA⟩ => ⟨ρ, S, env, R, er, ?_⟩
  unfold ev at hA
  refine (Aft.split (Ru := VR L.K) hA).imp ?_
  rintro y H1 ⟨ρ1, S1, v, p1, k1, R1, rv, h1⟩
  cases v with
  | loc n =>
    have h1 : AftV L ρ1 H1 σ W Q (match objAt S1 n with
      | some (_, fs) => Res.of (fs.lookup f) S1
      | none => .bad) := h1
    split at h1
    · rename_i c fs e
      obtain ⟨q, C, dx, gs, ci, rfl, hq, h0, hH, hF, hc, hfs⟩ := rv.obj R1 (objAt_some e)
      obtain ⟨C', hC, cl, _, _, hno, _, _⟩ := G.link.cls c ci hc
      rw [h0] at hC; cases hC
      have hl := hF.look G.link.nd hn
      cases hv : fs.lookup f with
      | none => rw [hv] at h1; exact h1.elim
      | some v =>
        rw [hv] at h1 hl
        obtain ⟨z, hz, rz⟩ := hl
        have hm : (f, v) ∈ fs := by
          have : ∀ (l : List (Nat × Val)), l.lookup f = some v → (f, v) ∈ l := by
            intro l
            induction l with
            | nil => intro h; cases h
            | cons a l ih =>
              intro h
              obtain ⟨g, u⟩ := a
              by_cases e : f = g
              · subst e
                simp [List.lookup] at h
                subst h
                exact List.mem_cons_self
              · have b1 : (f == g) = false := beq_eq_false_iff_ne.mpr e
                simp only [List.lookup, b1] at h
                exact List.mem_cons_of_mem _ (ih h)
          exact this fs hv
        obtain ⟨nm', hn', no⟩ := hno f (hfs _ hm)
        rw [hn] at hn'; cases hn'
        exact ⟨q, C, dx, gs, z, rfl, hH, by rw [G.hK]; exact cl, by rw [G.hK]; exact no, hz, Aft.now h1 R1 rz⟩
    · exact h1.elim
  | _ => exact h1.elim
end
end C
end
section
set_option Elab.async false
set_option linter.all false
set_option maxRecDepth 100000
set_option maxHeartbeats 1000000
/-! D1: dicts as raw rows. -/
namespace C
open PySem PySem.Spec L2 ItX
open PyProof.Rows hiding St

/-- a key, as a value of the heap -/
def KeyAt (h : Heap) : Val → Value → Prop
  | .int i, u => ∃ t, u = .int i t
  | .str x, u => ∃ t, u = .str x t
  | .tup xs, u => ∃ a, u = .ref a ∧ NestedIs h (.tup (nks xs)) (.ref a) ∧ (NestedKey.tup (nks xs)).depth ≤ 8
  | _, _ => False
def EnN (h : Heap) (w : World) : List (Val × Val) → List DictEntry → Prop
  | [], es => es = []
  | p :: ps, es => ∃ en r, es = en :: r ∧ KeyAt h p.1 en.key ∧ en.hash = (nk p.1).hash w ∧ EnN h w ps r

mutual
theorem nk_inj : ∀ (a b : Val) (n m : Nat), a.nb n = true → b.nb m = true → nk a = nk b → a = b
  | .non, b, n, m, _, hb, e => by cases b <;> first | rfl | (simp [nk] at e; done) | (simp [Val.nb] at hb; done)
  | .int i, b, n, m, _, hb, e => by cases b <;> first | (simp [nk] at e; rw [e]; done) | (simp [nk] at e; done) | (simp [Val.nb] at hb; done)
  | .str i, b, n, m, _, hb, e => by cases b <;> first | (simp [nk] at e; rw [e]; done) | (simp [nk] at e; done) | (simp [Val.nb] at hb; done)
  | .tup xs, b, n, m, ha, hb, e => by
    cases b with
    | tup ys =>
      simp only [nk, NestedKey.tup.injEq] at e
      cases n with
      | zero => simp [Val.nb] at ha
      | succ n =>
        cases m with
        | zero => simp [Val.nb] at hb
        | succ m => rw [nks_inj xs ys n m ha hb e]
    | non => simp [nk] at e
    | int _ => simp [nk] at e
    | str _ => simp [nk] at e
    | bl _ => simp [Val.nb] at hb
    | loc _ => simp [Val.nb] at hb
    | ro _ => simp [Val.nb] at hb
  | .bl _, _, _, _, ha, _, _ => by simp [Val.nb] at ha
  | .loc _, _, _, _, ha, _, _ => by simp [Val.nb] at ha
  | .ro _, _, _, _, ha, _, _ => by simp [Val.nb] at ha
theorem nks_inj : ∀ (a b : List Val) (n m : Nat), Val.nbs a n = true → Val.nbs b m = true → nks a = nks b → a = b
  | [], b, n, m, _, _, e => by cases b <;> first | rfl | (simp [nks] at e; done)
  | x :: xs, [], n, m, _, _, e => by simp [nks] at e
  | x :: xs, y :: ys, n, m, ha, hb, e => by
    simp only [nks, List.cons.injEq] at e
    simp only [Val.nbs, Bool.and_eq_true] at ha hb
    rw [nk_inj x y n m ha.1 hb.1 e.1, nks_inj xs ys n m ha.2 hb.2 e.2]
end
theorem isTupK_shape {v : Val} (h : isTupK v = true) : ∃ xs, v = .tup xs ∧ Val.nb v 8 = true := by
  cases v with
  | tup xs => exact ⟨xs, rfl, h⟩
  | _ => cases h
theorem nk_injT {a b : Val} (ha : isTupK a = true) (hb : isTupK b = true) (e : nk a = nk b) : a = b := by
  obtain ⟨xs, rfl, h1⟩ := isTupK_shape ha
  obtain ⟨ys, rfl, h2⟩ := isTupK_shape hb
  exact nk_inj _ _ 8 8 h1 h2 e

section
variable {X : L2.Cx} {pins : List (Addr × Obj)} {σ : St} {H : Hp} {s : Shared} {ρ : List Addr}
mutual
theorem nested_of (I : Inv X pins σ H s) : ∀ (v : Val) (n : Nat) (x : V) (u : Value), v.nb n = true → VR X.K ρ H v x → RelV x u → NestedIs s.heap (nk v) u ∧ (nk v).depth ≤ n
  | .non, n, x, u, _, hv, hu => by
    cases hv; cases hu
    exact ⟨.none, Nat.zero_le _⟩
  | .int i, n, x, u, _, hv, hu => by
    cases hv
    obtain ⟨t, rfl⟩ := hu
    exact ⟨.int i t, Nat.zero_le _⟩
  | .str i, n, x, u, _, hv, hu => by
    cases hv
    obtain ⟨t, rfl⟩ := hu
    exact ⟨.text i t, Nat.zero_le _⟩
  | .tup xs, n + 1, x, u, hn, hv, hu => by
    obtain ⟨a, ys, rfl, hq, hs⟩ := hv
    cases hu
    obtain ⟨its, rv, pl, hz⟩ := I.tuple hq
    obtain ⟨o, ho, hc, m, hd⟩ := pl
    obtain ⟨h1, h2⟩ := nesteds_of I xs n ys its hn hs rv
    refine ⟨.tup ho hc hd (by simpa using h1), ?_⟩
    show NestedKey.depthAll (nks xs) + 1 ≤ n + 1
    omega
  | .tup xs, 0, x, u, hn, _, _ => by simp [Val.nb] at hn
  | .bl _, _, _, _, hn, _, _ => by simp [Val.nb] at hn
  | .loc _, _, _, _, hn, _, _ => by simp [Val.nb] at hn
  | .ro _, _, _, _, hn, _, _ => by simp [Val.nb] at hn
theorem nesteds_of (I : Inv X pins σ H s) : ∀ (vs : List Val) (n : Nat) (xs : List V) (us : List Value), Val.nbs vs n = true → VRs X.K ρ H vs xs → Vals xs us → NestedAll s.heap (nks vs) us ∧ NestedKey.depthAll (nks vs) ≤ n
  | [], n, xs, us, _, hv, hu => by
    cases hv; cases hu
    exact ⟨.nil, Nat.zero_le _⟩
  | v :: vs, n, xs, us, hn, hv, hu => by
    obtain ⟨y, ys, rfl, h1, h2⟩ := hv
    simp only [Val.nbs, Bool.and_eq_true] at hn
    cases hu with
    | cons r rr =>
      obtain ⟨a1, b1⟩ := nested_of I v n y _ hn.1 h1 r
      obtain ⟨a2, b2⟩ := nesteds_of I vs n ys _ hn.2 h2 rr
      refine ⟨.cons a1 a2, ?_⟩
      show max (nk v).depth (NestedKey.depthAll (nks vs)) ≤ n
      omega
end
/-- a value that may be a key -/
def isKey (v : Val) : Bool := isMix v || isTupK v
theorem keyAt_of (I : Inv X pins σ H s) {v : Val} {x : V} {u : Value} (hk : isKey v = true) (hv : VR X.K ρ H v x) (hu : RelV x u) : KeyAt s.heap v u := by
  cases v with
  | int i =>
    cases hv
    obtain ⟨t, rfl⟩ := hu
    exact ⟨t, rfl⟩
  | str i =>
    cases hv
    obtain ⟨t, rfl⟩ := hu
    exact ⟨t, rfl⟩
  | tup xs =>
    have hn : Val.nb (.tup xs) 8 = true := by simpa [isKey, isMix, isTupK] using hk
    obtain ⟨h1, h2⟩ := nested_of I (.tup xs) 8 x u hn hv hu
    obtain ⟨a, ys, rfl, _⟩ := hv
    cases hu
    exact ⟨a, rfl, h1, h2⟩
  | _ => simp [isKey, isMix, isTupK] at hk
theorem enN_of (I : Inv X pins σ H s) : ∀ {kvs : List (Val × Val)} {es : List DictEntry}, (kvs.all fun p => isKey p.1) = true → EnR X.K X.w ρ H kvs es → EnN s.heap X.w kvs es
  | [], _, _, h => h
  | p :: ps, _, hk, h => by
    obtain ⟨en, r, e, ⟨x, h1, h2⟩, _, h5, h6⟩ := h
    simp only [List.all_cons, Bool.and_eq_true] at hk
    exact ⟨en, r, e, keyAt_of I hk.1 h1 h2, h5, enN_of I hk.2 h6⟩
theorem EnN.length {h : Heap} {w : World} : ∀ {kvs : List (Val × Val)} {es : List DictEntry}, EnN h w kvs es → kvs.length = es.length
  | [], _, h => by cases h; rfl
  | p :: ps, _, h => by
    obtain ⟨en, r, rfl, _, _, h6⟩ := h
    simp [EnN.length h6]
end

section
variable {prog : Program} {w : World} {A : Around} {E : Value → Shared → Prop} {s : Shared} {d : Addr} {o : Obj} {es : Array DictEntry} {ep : Nat} {kvs : List (Val × Val)} {k : Val} {u : Value}
/-- hash(k) -/
theorem hash_raw {Q : Int → Shared → Prop} (hk : KeyAt s.heap k u) (hu : A.units + 8 < cLine) (h : Q ((nk k).hash w) { s with toks := s.toks + (nk k).draws }) : wpAny (model prog w) A (pyHash u) Q E s := by
  cases k with
  | int i => obtain ⟨t, rfl⟩ := hk; exact pyHash_key (nk (.int i)) _ A s Q (.int i t) (by show A.units + 0 < _; omega) h
  | str i => obtain ⟨t, rfl⟩ := hk; exact pyHash_key (nk (.str i)) _ A s Q (.text i t) (by show A.units + 0 < _; omega) h
  | tup xs => obtain ⟨a, rfl, h1, h2⟩ := hk; exact pyHash_key (nk (.tup xs)) _ A s Q h1 (by show A.units + (NestedKey.tup (nks xs)).depth < _; omega) h
  | _ => exact hk.elim
def km : Val → Key
  | .int i => .inl i
  | .str s => .inr s
  | _ => .inl 0
theorem km_is {h : Heap} (hm : isMix k = true) (hk : KeyAt h k u) : (mixKind prog w).is (km k) u = true := by
  cases k with
  | int i => obtain ⟨t, rfl⟩ := hk; exact mixKind_int prog w i t
  | str i => obtain ⟨t, rfl⟩ := hk; exact mixKind_str prog w i t
  | _ => cases hm
theorem km_hash (hm : isMix k = true) : (nk k).hash w = (mixKind prog w).hash (km k) := by
  cases k with
  | int i => rfl
  | str i => rfl
  | _ => cases hm
theorem km_inj {a b : Val} (ha : isMix a = true) (hb : isMix b = true) : km a = km b ↔ a = b := by
  cases a <;> first | (cases ha; done) | (cases b <;> first | (cases hb; done) | simp [km])
theorem find_mix_ix {h : Heap} (hk : isMix k = true) : ∀ {kvs : List (Val × Val)} {es : List DictEntry}, (kvs.all fun p => isMix p.1) = true → EnN h w kvs es →
    (es.findIdx? fun e => (mixKind prog w).is (km k) e.key) = kvs.findIdx? fun p => decide (p.1 = k)
  | [], _, _, h => by cases h; rfl
  | p :: ps, _, hm, h => by
    obtain ⟨en, r, rfl, h1, h2, h6⟩ := h
    simp only [List.all_cons, Bool.and_eq_true] at hm
    have e1 := find_mix_ix hk hm.2 h6
    have e2 : (mixKind prog w).is (km k) en.key = decide (p.1 = k) := by
      rw [KeyKind.is_eq_decide (km_is (prog := prog) (w := w) hm.1 h1) (km k)]
      exact decide_eq_decide.mpr ⟨fun e => ((km_inj hk hm.1).mp e).symm, fun e => by rw [e]⟩
    simp only [List.findIdx?_cons, e1, e2]
theorem keys_mix {h : Heap} : ∀ {kvs : List (Val × Val)} {es : List DictEntry}, (kvs.all fun p => isMix p.1) = true → EnN h w kvs es → ∀ e ∈ es, ∃ k, (mixKind prog w).is k e.key = true ∧ e.hash = (mixKind prog w).hash k
  | [], _, _, h, e, he => by cases h; cases he
  | p :: ps, _, hm, h, e, he => by
    obtain ⟨en, r, rfl, h1, h2, h6⟩ := h
    simp only [List.all_cons, Bool.and_eq_true] at hm
    rcases List.mem_cons.mp he with rfl | he
    · exact ⟨km p.1, km_is hm.1 h1, by rw [h2]; exact km_hash hm.1⟩
    · exact keys_mix hm.2 h6 e he
theorem xs_tup {h : Heap} : ∀ {kvs : List (Val × Val)} {es : List DictEntry}, (kvs.all fun p => isTupK p.1) = true → EnN h w kvs es →
    ∃ xs : List (NestedKey × Addr × Value), es = xs.map (entryOfKey (nestedKind prog w)) ∧ (∀ x ∈ xs, (nestedKind prog w).is h x.1 x.2.1) ∧ xs.map (·.1) = kvs.map fun p => nk p.1
  | [], _, _, h => by cases h; exact ⟨[], rfl, (fun x hx => by cases hx), rfl⟩
  | p :: ps, _, hm, h => by
    obtain ⟨en, r, rfl, h1, h2, h6⟩ := h
    simp only [List.all_cons, Bool.and_eq_true] at hm
    obtain ⟨xs, e1, e2, e3⟩ := xs_tup hm.2 h6
    obtain ⟨zs, hz, _⟩ := isTupK_shape hm.1
    obtain ⟨pk, pv⟩ := p
    simp only at hz
    subst hz
    obtain ⟨a, ea, h3, h4⟩ := h1
    refine ⟨(nk (.tup zs), a, en.val) :: xs, ?_, ?_, ?_⟩
    · rw [List.map_cons, e1]
      congr 1
      obtain ⟨hh, kk, vv⟩ := en
      simp only at ea h2
      subst ea h2
      rfl
    · intro x hx
      rcases List.mem_cons.mp hx with rfl | hx
      · exact ⟨h3, h4⟩
      · exact e2 x hx
    · simp [e3]
theorem findIdx_at {kvs : List (Val × Val)} (nd : (kvs.map (·.1)).Nodup) : ∀ {j : Nat}, (kvs.map (·.1))[j]? = some k → (kvs.findIdx? fun p => decide (p.1 = k)) = some j := by
  induction kvs with
  | nil => intro j h; simp at h
  | cons p ps ih =>
    intro j h
    simp only [List.map_cons, List.nodup_cons] at nd
    rw [List.findIdx?_cons]
    cases j with
    | zero =>
      simp at h
      rw [decide_eq_true h]
      rfl
    | succ j =>
      simp only [List.map_cons, List.getElem?_cons_succ] at h
      have hne : ¬ p.1 = k := fun e => nd.1 (by rw [e]; exact List.mem_of_getElem? h)
      rw [decide_eq_false hne, ih nd.2 h]
      rfl
theorem findIdx_no {kvs : List (Val × Val)} (h : k ∉ kvs.map (·.1)) : (kvs.findIdx? fun p => decide (p.1 = k)) = none := by
  rw [List.findIdx?_eq_none_iff]
  intro x hx
  exact decide_eq_false fun e => h (List.mem_map.mpr ⟨x, hx, e⟩)
/-- where the key stands -/
theorem find_raw {Q : Option Nat → Shared → Prop} (hu : A.units + 8 < cLine) (ho : s.heap.get? d = some o) (hd : o.data = .dict es ep) (en : EnN s.heap w kvs es.toList) (nd : (kvs.map (·.1)).Nodup) (hk : keyOk k kvs = true) (ha : KeyAt s.heap k u)
    (h : Q (kvs.findIdx? fun p => decide (p.1 = k)) s) : wpAny (model prog w) A (dictFind d u ((nk k).hash w)) Q E s := by
  unfold keyOk at hk
  rw [Bool.or_eq_true, Bool.and_eq_true, Bool.and_eq_true] at hk
  rcases hk with ⟨h1, h2⟩ | ⟨h1, h2⟩
  · rw [km_hash (prog := prog) h1]
    refine wpAny_dictFind_of (knd := mixKind prog w) (km_is h1 ha) ho hd (fun e he => keys_mix h2 en e (Array.mem_toList_iff.mpr he)) ?_
    have : (es.findIdx? fun e => (mixKind prog w).is (km k) e.key) = kvs.findIdx? fun p => decide (p.1 = k) := by
      rw [← find_mix_ix (prog := prog) h1 h2 en]
      obtain ⟨l⟩ := es
      simp
    rw [this]
    exact h
  · obtain ⟨xs, e1, e2, e3⟩ := xs_tup (prog := prog) h2 en
    obtain ⟨zs, rfl, hz⟩ := isTupK_shape h1
    obtain ⟨a, rfl, h3, h4⟩ := ha
    have ek : ∀ {p : Val × Val}, p ∈ kvs → nk p.1 = nk (.tup zs) → p.1 = .tup zs := fun {p} hp e => nk_injT (List.all_eq_true.mp h2 p hp) h1 e
    have ndx : (xs.map (·.1)).Nodup := by
      rw [e3]
      have : (kvs.map fun p => nk p.1) = (kvs.map (·.1)).map nk := by rw [List.map_map]; rfl
      rw [this]
      refine List.Pairwise.map _ (R := fun a b => a ≠ b ∧ isTupK a = true ∧ isTupK b = true) (fun a b h e => h.1 (nk_injT h.2.1 h.2.2 e)) ?_
      have q : ∀ l : List (Val × Val), (l.map (·.1)).Nodup → (l.all fun p => isTupK p.1) = true → (l.map (·.1)).Pairwise fun a b => a ≠ b ∧ isTupK a = true ∧ isTupK b = true := by
        intro l
        induction l with
        | nil => intro _ _; exact .nil
        | cons p ps ih =>
          intro n t
          simp only [List.map_cons, List.nodup_cons] at n
          simp only [List.all_cons, Bool.and_eq_true] at t
          refine .cons (fun b hb => ?_) (ih n.2 t.2)
          obtain ⟨q, hq, rfl⟩ := List.mem_map.mp hb
          exact ⟨fun e => n.1 (by rw [show p.1 = q.1 from e]; exact hb), t.1, List.all_eq_true.mp t.2 q hq⟩
      exact q kvs nd h2
    refine wpAny_dictFind_heap (knd := nestedKind prog w) (k := nk (.tup zs)) hu ⟨h3, h4⟩ ho hd e1 e2 ndx (fun hn => ?_) fun j p hj => ?_
    · rw [findIdx_no] at h
      · exact h
      · intro hm
        obtain ⟨q, hq, e⟩ := List.mem_map.mp hm
        have : nk (.tup zs) ∈ xs.map (·.1) := by rw [e3]; exact List.mem_map.mpr ⟨q, hq, by rw [e]⟩
        obtain ⟨y, hy, ey⟩ := List.mem_map.mp this
        obtain ⟨j, hj⟩ := List.getElem?_of_mem hy
        exact hn j y.2 (by rw [hj, ← ey])
    · have : (kvs.map (·.1))[j]? = some (.tup zs) := by
        have q : (xs.map (·.1))[j]? = some (nk (.tup zs)) := by rw [List.getElem?_map, hj]; rfl
        rw [e3, List.getElem?_map] at q
        cases hp : kvs[j]? with
        | none => rw [hp] at q; cases q
        | some p =>
          rw [hp] at q
          rw [List.getElem?_map, hp]
          exact congrArg some (ek (List.mem_of_getElem? hp) (Option.some.inj q))
      rw [findIdx_at nd this] at h
      exact h
end
end C
end
section
set_option Elab.async false
set_option linter.all false
set_option maxRecDepth 100000
set_option maxHeartbeats 1000000
/-! D2: dicts of the store: reading, writing. -/
namespace C
open PySem PySem.Spec L2 ItX
open PyProof.Rows hiding St

theorem keyOk_key {k : Val} {kvs : List (Val × Val)} (h : keyOk k kvs = true) : isKey k = true ∧ (kvs.all fun p => isKey p.1) = true := by
  unfold keyOk at h
  rw [Bool.or_eq_true, Bool.and_eq_true, Bool.and_eq_true] at h
  unfold isKey
  rcases h with ⟨a, b⟩ | ⟨a, b⟩
  · exact ⟨by rw [a]; rfl, List.all_eq_true.mpr fun p hp => by rw [List.all_eq_true.mp b p hp]; rfl⟩
  · exact ⟨by rw [a, Bool.or_true], List.all_eq_true.mpr fun p hp => by rw [List.all_eq_true.mp b p hp, Bool.or_true]⟩

section
variable {K : PySem.W.Frag} {w : World} {ρ : List Addr} {H : Hp} {k v : Val}
theorem EnR.length : ∀ {kvs : List (Val × Val)} {es : List DictEntry}, EnR K w ρ H kvs es → kvs.length = es.length
  | [], _, h => by cases h; rfl
  | p :: ps, _, h => by
    obtain ⟨en, r, rfl, _, _, _, h6⟩ := h
    simp [EnR.length h6]
theorem EnR.get : ∀ {kvs : List (Val × Val)} {es : List DictEntry} {i : Nat} {p : Val × Val}, EnR K w ρ H kvs es → kvs[i]? = some p → ∃ en, es[i]? = some en ∧ (∃ x, VR K ρ H p.1 x ∧ RelV x en.key) ∧ ∃ y, VR K ρ H p.2 y ∧ RelV y en.val
  | [], _, i, p, h, e => by simp at e
  | q :: ps, _, 0, p, h, e => by
    obtain ⟨en, r, rfl, h1, h2, _, h6⟩ := h
    simp at e
    subst e
    exact ⟨en, rfl, h1, h2⟩
  | q :: ps, _, i + 1, p, h, e => by
    obtain ⟨en, r, rfl, h1, h2, _, h6⟩ := h
    exact EnR.get (i := i) h6 (by simpa using e)
theorem EnR.append : ∀ {kvs : List (Val × Val)} {es : List DictEntry} {ls : List (Val × Val)} {fs : List DictEntry}, EnR K w ρ H kvs es → EnR K w ρ H ls fs → EnR K w ρ H (kvs ++ ls) (es ++ fs)
  | [], _, ls, fs, h, g => by cases h; exact g
  | q :: ps, _, ls, fs, h, g => by
    obtain ⟨en, r, rfl, h1, h2, h3, h6⟩ := h
    exact ⟨en, r ++ fs, rfl, h1, h2, h3, EnR.append h6 g⟩
theorem lookup_ix {kvs : List (Val × Val)} (h : kvs.lookup k = some v) : ∃ i, (kvs.findIdx? fun p => decide (p.1 = k)) = some i ∧ kvs[i]? = some (k, v) := by
  induction kvs with
  | nil => cases h
  | cons p ps ih =>
    obtain ⟨g, x⟩ := p
    by_cases e : k = g
    · subst e
      simp [List.lookup] at h
      subst h
      exact ⟨0, by simp [List.findIdx?_cons], rfl⟩
    · have b1 : (k == g) = false := beq_eq_false_iff_ne.mpr e
      simp only [List.lookup, b1] at h
      obtain ⟨i, h1, h2⟩ := ih h
      refine ⟨i + 1, ?_, by simpa using h2⟩
      rw [List.findIdx?_cons]
      have : decide ((g, x).1 = k) = false := decide_eq_false fun z => e z.symm
      rw [this]
      simp [h1]
theorem hasK_ix (kvs : List (Val × Val)) : hasK k kvs = (kvs.findIdx? fun p => decide (p.1 = k)).isSome := by
  unfold hasK
  rw [List.findIdx?_isSome]
theorem putK_new {kvs : List (Val × Val)} (h : (kvs.findIdx? fun p => decide (p.1 = k)) = none) : putK k v kvs = kvs ++ [(k, v)] := by
  induction kvs with
  | nil => rfl
  | cons p ps ih =>
    obtain ⟨g, x⟩ := p
    rw [List.findIdx?_eq_none_iff] at h
    have h0 : ¬ g = k := of_decide_eq_false (h (g, x) List.mem_cons_self)
    have h1 : (ps.findIdx? fun p => decide (p.1 = k)) = none := List.findIdx?_eq_none_iff.mpr fun y hy => h y (List.mem_cons_of_mem _ hy)
    simp only [C.putK, if_neg h0, ih h1, List.cons_append]
theorem putK_keys_old {kvs : List (Val × Val)} {i : Nat} (h : (kvs.findIdx? fun p => decide (p.1 = k)) = some i) : (putK k v kvs).map (·.1) = kvs.map (·.1) := by
  induction kvs generalizing i with
  | nil => cases h
  | cons p ps ih =>
    obtain ⟨g, x⟩ := p
    by_cases e : g = k
    · simp only [C.putK, if_pos e, List.map_cons]
    · rw [List.findIdx?_cons] at h
      have : decide ((g, x).1 = k) = false := decide_eq_false e
      rw [this] at h
      cases q : ps.findIdx? fun p => decide (p.1 = k) with
      | none => rw [q] at h; simp at h
      | some j => simp only [C.putK, if_neg e, List.map_cons, ih q]
theorem EnR.modify {y : V} {u : Value} (r : VR K ρ H v y) (ru : RelV y u) : ∀ {kvs : List (Val × Val)} {es : List DictEntry} {i : Nat}, EnR K w ρ H kvs es → (kvs.findIdx? fun p => decide (p.1 = k)) = some i →
    EnR K w ρ H (putK k v kvs) (es.modify i fun e => { e with val := u })
  | [], _, i, h, e => by cases e
  | q :: ps, _, i, h, e => by
    obtain ⟨en, t, rfl, h1, h2, h3, h6⟩ := h
    obtain ⟨g, x⟩ := q
    rw [List.findIdx?_cons] at e
    by_cases eg : g = k
    · have : decide ((g, x).1 = k) = true := decide_eq_true eg
      rw [this] at e
      cases e
      simp only [C.putK, if_pos eg]
      exact ⟨{ en with val := u }, t, rfl, h1, ⟨y, r, ru⟩, h3, h6⟩
    · have : decide ((g, x).1 = k) = false := decide_eq_false eg
      rw [this] at e
      cases q : ps.findIdx? fun p => decide (p.1 = k) with
      | none => rw [q] at e; simp at e
      | some j =>
        rw [q] at e
        simp at e
        subst e
        simp only [C.putK, if_neg eg]
        exact ⟨en, _, rfl, h1, h2, h3, EnR.modify r ru h6 q⟩
end

section
variable {X : L2.Cx} {L : Lk} {W : WX} {Γ : Cx} {k : Nat} {pins : List (Addr × Obj)} {σ : St} {H : Hp} {s : Shared} {ρ : List Addr} {S : Store}
/-- a dict of the store -/
theorem VR.dct (R : Rel L ρ S H) {n ep : Nat} {kvs : List (Val × Val)} {x : V} (h : VR L.K ρ H (.loc n) x) (e : S[n]? = some (.dct ep kvs)) :
    ∃ d es, x = .ref d ∧ ρ[n]? = some d ∧ H d = some (DX d es ep) ∧ (d == sysModules) = false ∧ kvs.length ≤ sizeLine ∧ (kvs.map (·.1)).Nodup ∧ EnR L.K L.w ρ H kvs es.toList := by
  obtain ⟨a, rfl, ha⟩ := h
  obtain ⟨es, h1, h2⟩ := R.at_ n _ a e ha
  exact ⟨a, es, rfl, ha, h1, h2⟩
theorem dx_type {d : Addr} {o : Obj} (ho : s.heap.get? d = some o) (hc : o.ExactDict) : s.TypeIs (.ref d) "dict" := ⟨o, ho, hc.1⟩
/-- a dict rewritten -/
theorem Inv.dset {d : Addr} {es es' : Array DictEntry} {ep ep' : Nat} {h' : Heap} {t' : Nat} (I : Inv X pins σ H s) (hd : H d = some (DX d es ep)) (hs : Heap.SameBut d s.heap h') {o : Obj} (e : h'.get? d = some o) (c : o.ExactDict) (dd : o.data = .dict es' ep') :
    Inv X pins σ (upd H d (DX d es' ep')) { s with heap := h', toks := t' } :=
  d_write I (by rw [hd]; exact True.intro) hs ⟨o, e⟩ (dx_ok e c dd)

/-- what the rows give at a key -/
theorem get_raw {prog : Program} {A : Around} {E : Value → Shared → Prop} {d : Addr} {o : Obj} {es : Array DictEntry} {ep : Nat} {kvs : List (Val × Val)} {key : Val} {u : Value} {w : World} {Q : Option Value → Shared → Prop}
    (hu : A.units + 8 < cLine) (ho : s.heap.get? d = some o) (hd : o.data = .dict es ep) (en : EnN s.heap w kvs es.toList) (nd : (kvs.map (·.1)).Nodup) (hk : keyOk key kvs = true) (ha : KeyAt s.heap key u)
    (h : ∀ tk, Q ((kvs.findIdx? fun p => decide (p.1 = key)).bind fun i => es[i]?.map (·.val)) { s with toks := tk }) : wpAny (model prog w) A (dictGet d u) Q E s := by
  unfold dictGet
  refine wpAny_holding ?_
  refine wpAny_bind (hash_raw ha hu (wpAny_bind (find_raw (s := { s with toks := s.toks + (nk key).draws }) hu ho hd en nd hk ha ?_)))
  cases q : kvs.findIdx? fun p => decide (p.1 = key) with
  | none =>
    have := h (s.toks + (nk key).draws)
    rw [q] at this
    exact wpAny_pure this
  | some i =>
    have := h (s.toks + (nk key).draws)
    rw [q] at this
    exact wpAny_bind (wpAny_dictEntries (s := { s with toks := s.toks + (nk key).draws }) ho hd (wpAny_pure this))

/-- the facts at a dict, for a key -/
structure DAt (X : L2.Cx) (s : Shared) (d : Addr) (es : Array DictEntry) (ep : Nat) (kvs : List (Val × Val)) (key : Val) (u : Value) : Prop where
  ob : ∃ o, s.heap.get? d = some o ∧ o.ExactDict ∧ o.data = .dict es ep
  en : EnN s.heap X.w kvs es.toList
  ka : KeyAt s.heap key u
theorem dAt_of (hK : X.K = L.K) (hw : X.w = L.w) (I : Inv X pins σ H s) {d : Addr} {es : Array DictEntry} {ep : Nat} {kvs : List (Val × Val)} {key : Val} {z : V} {u : Value} (hd : H d = some (DX d es ep)) (hr : EnR L.K L.w ρ H kvs es.toList) (hk : keyOk key kvs = true) (rz : VR L.K ρ H key z) (ru : RelV z u) :
    DAt X s d es ep kvs key u := by
  obtain ⟨k1, k2⟩ := keyOk_key hk
  exact ⟨dx_get I.hok hd, enN_of (ρ := ρ) I k2 (by rw [hK, hw]; exact hr), keyAt_of (ρ := ρ) I k1 (by rw [hK]; exact rz) ru⟩

/-- d[key] -/
theorem getItem_raw {A : Around} {E : Value → Shared → Prop} {d : Addr} {es : Array DictEntry} {ep : Nat} {kvs : List (Val × Val)} {key : Val} {u v : Value} {i : Nat} {Q : Value → Shared → Prop} (hu : A.units + 9 < cLine) (D : DAt X s d es ep kvs key u) (nd : (kvs.map (·.1)).Nodup) (hk : keyOk key kvs = true)
    (hi : (kvs.findIdx? fun p => decide (p.1 = key)) = some i) (hv : es[i]?.map (·.val) = some v) (h : ∀ tk, Q v { s with toks := tk }) : wpAny (model X.prog X.w) A (getItem (.ref d) u) Q E s := by
  obtain ⟨o, ho, hc, hd⟩ := D.ob
  have hT := dx_type ho hc
  unfold getItem
  refine wpAny_holding ?_
  refine wpAny_bind (wpAny_sequenceKey hT (by decide) ?_)
  refine wpAny_bind (wpAny_callSpecial?_slot (name := Str.ofString "__getitem__") hT PySem.F.slot_dict_getitem
    (wpAny_call_entry PySem.F.slot_dict_getitem hT PySem.F.entry_dict_getitem ?_ (PySem.F.args_dict_getitem_2 _ _)))
  show wpAny _ _ (dictGet d u >>= _) _ _ s
  refine wpAny_bind (get_raw (kvs := kvs) (by show A.units + 1 + 8 < _; omega) ho hd D.en nd hk D.ka fun tk => ?_)
  rw [hi]
  show wpAny _ _ _ _ _ _
  rw [Option.bind_some, hv]
  exact wpAny_pure ⟨v, rfl, wpAny_pure (h tk)⟩
/-- key in d -/
theorem contains_raw {A : Around} {E : Value → Shared → Prop} {d : Addr} {es : Array DictEntry} {ep : Nat} {kvs : List (Val × Val)} {key : Val} {u : Value} {Q : Bool → Shared → Prop} (hu : A.units + 9 < cLine) (D : DAt X s d es ep kvs key u) (nd : (kvs.map (·.1)).Nodup) (hk : keyOk key kvs = true)
    (hsz : kvs.length = es.size) (hds : (d == sysModules) = false) (h : ∀ tk, Q (hasK key kvs) { s with toks := tk }) : wpAny (model X.prog X.w) A (contains (.ref d) u) Q E s := by
  obtain ⟨o, ho, hc, hd⟩ := D.ob
  have hT := dx_type ho hc
  refine wpAny_contains_slot hT PySem.F.slot_dict_contains ?_
  refine call_meetsIn PySem.F.slot_dict_contains hT PySem.F.entry_dict_contains (PySem.F.args_dict_contains_2 _ _) (S := fun A' R s' => A' = A ∧ s' = s ∧ ∀ tk, R (.ok (.ret (.bool (hasK key kvs)))) { s with toks := tk }) (fun A' R s' hS => ?_) ⟨rfl, rfl, fun tk => wpAny_truthy_bool (h tk)⟩
  obtain ⟨rfl, rfl, hq⟩ := hS
  show wpAny _ _ (dictGet d u >>= _) _ _ _
  refine wpAny_bind (get_raw (kvs := kvs) (by show A'.units + 1 + 8 < _; omega) ho hd D.en nd hk D.ka fun tk => ?_)
  cases q : kvs.findIdx? fun p => decide (p.1 = key) with
  | none =>
    rw [hasK_ix, q] at hq
    show wpAny _ _ (Builtin.Dict.pendingKey? d u >>= _) _ _ _
    exact wpAny_bind (wpAny_pendingKey_other hds (wpAny_pure (hq tk)))
  | some i =>
    rw [hasK_ix, q] at hq
    have hlt : i < es.size := by
      rw [← hsz]
      obtain ⟨h1, _⟩ := List.findIdx?_eq_some_iff_getElem.mp q
      exact h1
    rw [Option.bind_some, Array.getElem?_eq_getElem hlt]
    show wpAny _ _ (ret (.bool true)) _ _ _
    exact wpAny_pure (hq tk)
/-- a row set: what the dict holds behind it -/
theorem set_raw {A : Around} {E : Value → Shared → Prop} {d : Addr} {es : Array DictEntry} {ep : Nat} {kvs : List (Val × Val)} {key : Val} {u v : Value} {Q : Unit → Shared → Prop} (hu : A.units + 8 < cLine) (D : DAt X s d es ep kvs key u) (nd : (kvs.map (·.1)).Nodup) (hk : keyOk key kvs = true)
    (hz : es.size ≤ sizeLine)
    (h1 : ∀ i, (kvs.findIdx? fun p => decide (p.1 = key)) = some i → ∀ h' tk o, Heap.SameBut d s.heap h' → h'.get? d = some o → o.ExactDict → o.data = .dict (es.modify i fun e => { e with val := v }) ep → Q () { s with heap := h', toks := tk })
    (h2 : (kvs.findIdx? fun p => decide (p.1 = key)) = none → ∀ h' tk o, Heap.SameBut d s.heap h' → h'.get? d = some o → o.ExactDict → o.data = .dict (es.push ⟨(nk key).hash X.w, u, v⟩) (ep + 1) → Q () { s with heap := h', toks := tk }) :
    wpAny (model X.prog X.w) A (dictSet d u v) Q E s := by
  obtain ⟨o, ho, hc, hd⟩ := D.ob
  unfold dictSet
  refine wpAny_holding ?_
  refine wpAny_bind (hash_raw D.ka hu ?_)
  unfold dictSetHashed
  refine wpAny_holding ?_
  refine wpAny_bind (find_raw (s := { s with toks := s.toks + (nk key).draws }) hu ho hd D.en nd hk D.ka ?_)
  cases q : kvs.findIdx? fun p => decide (p.1 = key) with
  | some i =>
    exact wpAny_bind (wpAny_rule (wpAny_bind (wpAny_updateDict (s := { s with toks := s.toks + (nk key).draws }) ho hd (wpAny_point (h1 i q _ _ _ (Heap.SameBut.update ..) (Heap.get?_update_self _ ho (Obj.isFreed_of_dict (Obj.data_mapDict hd _)))
      (hc.mapDict _) (Obj.data_mapDict hd _))))))
  | none =>
    exact wpAny_bind (wpAny_rule (wpAny_updateDictKeys (hz := hz) (s := { s with toks := s.toks + (nk key).draws }) ho hd (h2 q _ _ _ (Heap.SameBut.update ..) (Heap.get?_update_self _ ho (Obj.isFreed_of_dict (Obj.data_mapDictKeys hd _)))
      (hc.mapDictKeys _) (Obj.data_mapDictKeys hd _))))
/-- the store behind it -/
theorem set_rel (R : Rel L ρ S H) {n ep : Nat} {kvs : List (Val × Val)} {d : Addr} {es : Array DictEntry} {key v : Val} {z y : V} {u r : Value} (hn : ρ[n]? = some d) (hds : (d == sysModules) = false) (hz : kvs.length < sizeLine) (nd : (kvs.map (·.1)).Nodup)
    (hr : EnR L.K L.w ρ H kvs es.toList) (rz : VR L.K ρ H key z) (ru : RelV z u) (ry : VR L.K ρ H v y) (rr : RelV y r) :
    (∀ i, (kvs.findIdx? fun p => decide (p.1 = key)) = some i → Rel L ρ (S.set n (putD key v ep kvs)) (upd H d (DX d (es.modify i fun e => { e with val := r }) ep))) ∧
    ((kvs.findIdx? fun p => decide (p.1 = key)) = none → Rel L ρ (S.set n (putD key v ep kvs)) (upd H d (DX d (es.push ⟨(nk key).hash L.w, u, r⟩) (ep + 1)))) := by
  refine ⟨fun i hi => ?_, fun hi => ?_⟩
  · have kk := R.keep (o := DX d (es.modify i fun e => { e with val := r }) ep) hn
    have e1 : putD key v ep kvs = .dct ep (putK key v kvs) := by
      unfold putD
      rw [hasK_ix, hi]
      rfl
    rw [e1]
    refine R.set hn ⟨_, upd_same, hds, ?_, ?_, ?_⟩
    · have : (putK key v kvs).length = kvs.length := by rw [← List.length_map (f := (·.1)), putK_keys_old hi, List.length_map]
      omega
    · rw [putK_keys_old hi]; exact nd
    · rw [Array.toList_modify]
      exact EnR.mono (List.prefix_refl _) kk (EnR.modify ry rr hr hi)
  · have kk := R.keep (o := DX d (es.push ⟨(nk key).hash L.w, u, r⟩) (ep + 1)) hn
    have e1 : putD key v ep kvs = .dct (ep + 1) (putK key v kvs) := by
      unfold putD
      rw [hasK_ix, hi]
      rfl
    rw [e1, putK_new hi]
    refine R.set hn ⟨_, upd_same, hds, ?_, ?_, ?_⟩
    · rw [List.length_append, List.length_singleton]; omega
    · rw [List.map_append, List.nodup_append]
      refine ⟨nd, by simp, fun a ha b hb => ?_⟩
      simp at hb
      subst hb
      intro e
      subst e
      rw [List.findIdx?_eq_none_iff] at hi
      obtain ⟨q, hq, e⟩ := List.mem_map.mp ha
      have := hi q hq
      simp [e] at this
    · rw [Array.toList_push]
      exact EnR.mono (List.prefix_refl _) kk (EnR.append hr ⟨_, [], rfl, ⟨z, rz, ru⟩, ⟨y, ry, rr⟩, rfl, rfl⟩)
/-- len(d) -/
theorem len_raw {A : Around} {E : Value → Shared → Prop} {d : Addr} {es : Array DictEntry} {ep : Nat} {Q : Value → Shared → Prop} (hds : (d == sysModules) = false) (hm : s.heap.DictRaw d es ep) (hfit : es.size ≤ sizeLine)
    (h : ∀ t tk, Q (.int es.size t) { s with toks := tk }) : wpAny (model X.prog X.w) A (call (.builtin "len") [.ref d]) Q E s := by
  have hf : (es.size : Int) < 2 ^ 63 := by
    have : (sizeLine : Int) < 2 ^ 63 := by rw [sizeLine_eq]; decide
    omega
  refine Calls.call_function_entry PySem.kind_len PySem.plain_len PySem.entry_len (PySem.args_len1 _) ?_
  unfold Builtin.«len»
  refine wpAny_bind (m := oneArg "len" _) (wpAny_pure ?_)
  refine wpAny_bind (m := callSpecial? (.ref d) (Str.ofString "__len__")) (wpAny_callSpecial?_slot (name := Str.ofString "__len__") hm.typeIs PySem.F.slot_dict_len (call_len_raw hds hm ?_))
  show wpAny _ _ _ _ _ { s with toks := s.toks + 1 }
  refine wpAny_bind (wpAny_holding (wpAny_pure ?_))
  refine wpAny_bind (wpAny_letGo ?_)
  show wpAny _ _ (if ((es.size : Nat) : Int) < 0 then _ else _) _ _ _
  rw [if_neg (by omega)]
  show wpAny _ _ (if ((es.size : Nat) : Int) ≥ 2 ^ 63 then _ else _) _ _ _
  rw [if_neg (by omega)]
  exact wpAny_bind (wpAny_mkInt (wpAny_pure ⟨_, rfl, h _ _⟩))
end
end C
end
section
set_option Elab.async false
set_option linter.all false
set_option maxRecDepth 100000
set_option maxHeartbeats 1000000
/-! C6: subscripts, slices, built-in functions and methods, own operators. -/
namespace C
open PySem PySem.Spec L2 ItX
open PyProof.Rows hiding St

section
variable {X : L2.Cx} {L : Lk} {W : WX} {Γ : Cx} {k : Nat} {a b c e o : Expr} {es : List Expr} {ea eb ec : E} {ms : List E} {pos p apos : Pos} {x : Str}

theorem VRs.atI {K : PySem.W.Frag} {ρ : List Addr} {H : Hp} {vs : List Val} {xs : List V} {i : Int} {v : Val} (h : VRs K ρ H vs xs) (e : L2.atI vs i = some v) : ∃ y, L2.atI xs i = some y ∧ VR K ρ H v y := by
  unfold L2.atI at e ⊢
  rw [← h.length]
  cases q : ixN vs.length i with
  | none => rw [q] at e; cases e
  | some j =>
    rw [q] at e
    exact h.get e

/-- a[i]: what the values are tells the rule (a built-in container) -/
theorem m_sub (G : Good X L Γ W k) (ha : PE X a (tM L W (ev Γ ea))) (hb : PE X b (tM L W (ev Γ eb))) (hs : PlainIx b)
    (own : ∀ (pins : List (Addr × Obj)) (s : Shared) (σ : St) (H : Hp) (ρ : List Addr) (S : Store) (n : Nat) (vy : Val) (x y : V) (v u : Value) (Q : VK), Inv X pins σ H s → RelV x v → RelV y u → Rel L ρ S H → VR L.K ρ H (.loc n) x → VR L.K ρ H vy y →
      (∃ c fs, S[n]? = some (.obj c fs)) → AftV L ρ H σ W Q (subV Γ (.loc n) vy S) → wpAny (model X.prog X.w) X.A (subscriptTail a b v u) (EP X pins σ Q) X.xe s) :
    PE X (.Subscript a b pos) (tM L W (ev Γ (.sub ea eb))) := by
  refine ⟨fun pins s σ H Q I ⟨ρ, S, env, R, er, hA⟩ => ?_⟩
  unfold ev at hA
  refine Subscript_ (run2 ha hb I R er hA fun v u s2 H2 ρ2 S2 vx vy x y I2 rx ry _ _ R2 hx hy h2 => ?_)
  cases vx with
  | tup xs =>
    cases vy with
    | int i =>
      cases hy
      have h2 : AftV L ρ2 H2 σ W Q (Res.of (L2.atI xs i) S2) := h2
      obtain ⟨q, ys, rfl, hq, hv⟩ := hx
      cases hv' : L2.atI xs i with
      | none => rw [hv'] at h2; exact h2.elim
      | some z =>
        rw [hv'] at h2
        obtain ⟨z', hz, rz⟩ := hv.atI hv'
        exact ix_tup a b pins s2 σ H2 _ _ v u Q I2 rx ry ⟨q, ys, i, z', rfl, rfl, by rw [G.hK]; exact hq, hz, Aft.now h2 R2 rz⟩ (hs _ _)
    | _ => exact h2.elim
  | ro xs =>
    cases vy with
    | int i =>
      cases hy
      have h2 : AftV L ρ2 H2 σ W Q (Res.of (L2.atI xs i) S2) := h2
      obtain ⟨q, ys, rfl, hq, hv⟩ := hx
      cases hv' : L2.atI xs i with
      | none => rw [hv'] at h2; exact h2.elim
      | some z =>
        rw [hv'] at h2
        obtain ⟨z', hz, rz⟩ := hv.atI hv'
        exact ix_list a b pins s2 σ H2 _ _ v u Q I2 rx ry ⟨q, ys, i, z', rfl, rfl, by rw [G.hK]; exact hq.sql, hz, Aft.now h2 R2 rz⟩ (hs _ _)
    | _ => exact h2.elim
  | loc n =>
    by_cases hl : ∃ xs, S2[n]? = some (.lst xs)
    · obtain ⟨xs, hxs⟩ := hl
      unfold subV at h2
      simp only [hxs] at h2
      cases vy with
      | int i =>
        cases hy
        have h2 : AftV L ρ2 H2 σ W Q (Res.of (L2.atI xs i) S2) := h2
        obtain ⟨q, ys, rfl, _, hq, hv⟩ := hx.lst R2 hxs
        cases hv' : L2.atI xs i with
        | none => rw [hv'] at h2; exact h2.elim
        | some z =>
          rw [hv'] at h2
          obtain ⟨z', hz, rz⟩ := hv.atI hv'
          exact ix_list a b pins s2 σ H2 _ _ v u Q I2 rx ry ⟨q, ys, i, z', rfl, rfl, SqL.of hq, hz, Aft.now h2 R2 rz⟩ (hs _ _)
      | _ => exact h2.elim
    · cases ec : S2[n]? with
      | none => unfold subV at h2; simp only [ec] at h2; exact h2.elim
      | some cl =>
        cases cl with
        | lst xs => exact absurd ⟨xs, ec⟩ hl
        | obj cc fs => exact own pins s2 σ H2 ρ2 S2 n vy x y v u Q I2 rx ry R2 hx hy ⟨cc, fs, ec⟩ h2
        | dct ep kvs =>
          unfold subV at h2
          simp only [ec] at h2
          by_cases hk : keyOk vy kvs = true
          · rw [if_pos hk] at h2
            cases hl : kvs.lookup vy with
            | none => rw [hl] at h2; exact h2.elim
            | some z =>
              rw [hl] at h2
              obtain ⟨d, es, rfl, hn, hd, hds, hz, nd, hr⟩ := hx.dct R2 ec
              cases (show v = Value.ref d from rx)
              have D := dAt_of G.hK G.hw I2 hd hr hk hy ry
              obtain ⟨i, h1, h3⟩ := lookup_ix hl
              obtain ⟨en, he, _, zv, rz, rzv⟩ := hr.get h3
              obtain ⟨o, ho, hc, hdd⟩ := D.ob
              refine PyProof.Rows.subscriptTail_builtinR (x := en.val) (dx_type ho hc) PySem.F.slot_dict_getitem.lookup (getItem_raw (by have := G.hu; omega) D nd hk h1 (by rw [← Array.getElem?_toList, he]; rfl) fun tk => ⟨rfl, ?_⟩) (hs _ _)
              exact ⟨zv, H2, I2.tok _, rzv, Aft.now h2 R2 rz⟩
          · rw [if_neg hk] at h2
            exact h2.elim
  | _ => exact h2.elim

/-! ### slices -/
theorem cutL_rel {K : PySem.W.Frag} {ρ : List Addr} {H : Hp} {vs : List Val} {xs : List V} (h : VRs K ρ H vs xs) (lo hi : Option Int) : VRs K ρ H (cutL vs lo hi) (cutV xs lo hi) := by
  unfold cutL cutV
  rw [h.length]
  exact (h.drop _).take _
/-- a slice's part -/
def tMO (L : Lk) (W : WX) (m : Env → Store → Res Val) : TO := fun σ H Q => ∃ ρ S env, Rel L ρ S H ∧ ER L ρ H env σ ∧ Aft L ρ H σ W (fun _ _ v o => v = o) Q (m env S).prt
theorem mo_none : PO X none (tMO L W (ev Γ .nop)) := by
  refine ⟨fun pins s σ H Q I ⟨ρ, S, env, R, er, hA⟩ => po_none.run pins s σ H Q I ?_⟩
  unfold ev at hA
  exact Aft.now (v := (none : Option Int)) hA R rfl
theorem mo_some (h : PE X a (tM L W (ev Γ ea))) : PO X (some a) (tMO L W (ev Γ ea)) := by
  refine ⟨fun pins s σ H Q I ⟨ρ, S, env, R, er, hA⟩ => ?_⟩
  rw [evalPart_some]
  unfold Res.prt at hA
  refine thn (h.run pins s σ H _ I ⟨ρ, S, env, R, er, Aft.split (Ru := VR L.K) hA⟩) fun u s1 ⟨y, H1, I1, r1, ρ1, S1, v, p1, k1, R1, rv, h1⟩ => ?_
  cases v with
  | non =>
    cases rv
    cases (show u = Value.none from r1)
    exact ⟨none, H1, I1, .none, Aft.now (v := (none : Option Int)) h1 R1 rfl⟩
  | int i =>
    cases rv
    obtain ⟨t, rfl⟩ := r1
    exact ⟨some i, H1, I1, .int i t, Aft.now (v := some i) h1 R1 rfl⟩
  | _ => exact h1.elim
theorem m_slc {lo hi : Option Expr} {p2 : Pos} (G : Good X L Γ W k) (ha : PE X a (tM L W (ev Γ ea))) (hl : PO X lo (tMO L W (ev Γ eb))) (hh : PO X hi (tMO L W (ev Γ ec))) : PE X (.Subscript a (.Slice lo hi none p2) pos) (tM L W (ev Γ (.slc ea eb ec))) := by
  refine PE.mono (pe_slice sl_list ha hl hh) fun σ H Q ⟨ρ, S, env, R, er, hA⟩ => ⟨ρ, S, env, R, er, ?_⟩
  unfold ev at hA
  refine (Aft.split (Ru := VR L.K) hA).imp ?_
  rintro x H1 ⟨ρ1, S1, v, p1, k1, R1, rv, h1⟩
  refine ⟨ρ1, S1, env, R1, er.mono p1 k1, (Aft.split (Ru := fun _ _ v o => v = o) h1).imp ?_⟩
  rintro l' H2 ⟨ρ2, S2, l, p2, k2, R2, e2, h2⟩
  subst e2
  refine ⟨ρ2, S2, env, R2, (er.mono p1 k1).mono p2 k2, (Aft.split (Ru := fun _ _ v o => v = o) h2).imp ?_⟩
  rintro u' H3 ⟨ρ3, S3, u, p3, k3, R3, e3, h3⟩
  subst e3
  have rv3 := (rv.mono p2 k2).mono p3 k3
  cases v with
  | loc n =>
    have h3 : AftV L ρ3 H3 σ W Q (match lstAt S3 n with
      | some xs => newL (cutL xs l u) S3
      | none => .bad) := h3
    unfold lstAt at h3
    cases e : S3[n]? with
    | none => rw [e] at h3; exact h3.elim
    | some c =>
      cases c with
      | lst xs =>
        rw [e] at h3
        obtain ⟨q, ys, rfl, _, hq, hv⟩ := rv3.lst R3 e
        exact ⟨q, ys, rfl, SqL.of hq, (Aft.newL h3 R3 (cutL_rel hv l u)).2⟩
      | _ => rw [e] at h3; exact h3.elim
  | ro xs =>
    have h3 : AftV L ρ3 H3 σ W Q (newL (cutL xs l u) S3) := h3
    obtain ⟨q, ys, rfl, hq, hv⟩ := rv3
    exact ⟨q, ys, rfl, by rw [G.hK]; exact hq.sql, (Aft.newL h3 R3 (cutL_rel hv l u)).2⟩
  | _ => exact h3.elim

/-! ### built-in functions on values -/
def BltS (X : L2.Cx) (L : Lk) (W : WX) (Γ : Cx) (f : Value) (b : Blt) : Prop :=
  ∀ (pins : List (Addr × Obj)) (s : Shared) (σ : St) (H : Hp) (ρ : List Addr) (S : Store) (vs : List Val) (xs : List V) (us : List Value) (Q : VK), Inv X pins σ H s → Vals xs us → Rel L ρ S H → VRs L.K ρ H vs xs →
    AftV L ρ H σ W Q (bltV Γ b vs S) → wpAny (model X.prog X.w) X.A (call f us) (EP X pins σ Q) X.xe s
theorem m_blt {id : String} {b : Blt} (G : Good X L Γ W k) (hb : BltS X L W Γ (.builtin id) b) (hg : Gl X x) (hm : L.mg x = none) (hv : bootBuiltins x = some (.builtin id)) (ha : PA X (e :: es) (tMs L W (evs Γ ms))) (hn : x ≠ "__name__" := by decide) (hdb : (x == ("__debug__" : Str)) = false := by decide)
    (he : starEach (e :: es) X.env = (false, eval e X.env) :: starEach es X.env := by rfl) (hpl : (backTo pos (starEach es X.env)).any (·.1) = false := by rfl) : PE X (.Call (.Name x p) (e :: es) [] pos) (tM L W (ev Γ (.blt b ms))) := by
  refine ⟨fun pins s σ H Q I ⟨ρ, S, env, R, er, hA⟩ => ?_⟩
  unfold ev at hA
  refine wpAny_Call_Name_kw (ld_blt I hg (by rw [G.hm]; exact hm) hv ?_ hn hdb)
  exact PyProof.Rows.callWith_builtin1 (thn (ha.run pos pins s σ H _ I ⟨ρ, S, env, R, er, Aft.split (Ru := VRs L.K) hA⟩) fun us s1 ⟨vs, H1, I1, r1, ρ1, S1, args, p1, k1, R1, ra, h1⟩ => hb pins s1 σ H1 ρ1 S1 args vs us Q I1 r1 R1 ra h1) he hpl
theorem m_bltT {T : String} {b : Blt} (G : Good X L Γ W k) (hb : BltS X L W Γ (.type T) b) (hg : Gl X x) (hm : L.mg x = none) (hv : bootBuiltins x = some (.type T)) (ha : PA X (e :: es) (tMs L W (evs Γ ms))) (hn : x ≠ "__name__" := by decide) (hdb : (x == ("__debug__" : Str)) = false := by decide)
    (he : starEach (e :: es) X.env = (false, eval e X.env) :: starEach es X.env := by rfl) (hpl : (backTo pos (starEach es X.env)).any (·.1) = false := by rfl) : PE X (.Call (.Name x p) (e :: es) [] pos) (tM L W (ev Γ (.blt b ms))) := by
  refine ⟨fun pins s σ H Q I ⟨ρ, S, env, R, er, hA⟩ => ?_⟩
  unfold ev at hA
  refine wpAny_Call_Name_kw (ld_blt I hg (by rw [G.hm]; exact hm) hv ?_ hn hdb)
  exact PyProof.Rows.callWith_type1 (thn (ha.run pos pins s σ H _ I ⟨ρ, S, env, R, er, Aft.split (Ru := VRs L.K) hA⟩) fun us s1 ⟨vs, H1, I1, r1, ρ1, S1, args, p1, k1, R1, ra, h1⟩ => hb pins s1 σ H1 ρ1 S1 args vs us Q I1 r1 R1 ra h1) he hpl

theorem VRs.one {ρ : List Addr} {H : Hp} {v : Val} {xs : List V} (h : VRs L.K ρ H [v] xs) : ∃ y, xs = [y] ∧ VR L.K ρ H v y := by
  obtain ⟨y, ys, rfl, r, rfl⟩ := h
  exact ⟨y, rfl, r⟩
theorem VRs.two {ρ : List Addr} {H : Hp} {v w : Val} {xs : List V} (h : VRs L.K ρ H [v, w] xs) : ∃ y z, xs = [y, z] ∧ VR L.K ρ H v y ∧ VR L.K ρ H w z := by
  obtain ⟨y, ys, rfl, r, z, zs, rfl, r2, rfl⟩ := h
  exact ⟨y, z, rfl, r, r2⟩
theorem b_len (G : Good X L Γ W k) : BltS X L W Γ (.builtin "len") .len := by
  intro pins s σ H ρ S vs xs us Q I r R hv hA
  have hA : AftV L ρ H σ W Q (lenV vs S) := hA
  unfold lenV at hA
  split at hA
  · rename_i z
    obtain ⟨y, rfl, rfl⟩ := hv.one
    split at hA
    · rename_i hz
      exact call_len pins s σ H _ us Q I r ⟨_, _, rfl, ⟨by rw [← lineC_eq]; exact hz, rfl⟩, Aft.now hA R rfl⟩
    · exact hA.elim
  · rename_i ys
    obtain ⟨y, rfl, a, zs, rfl, hq, hr⟩ := hv.one
    exact call_len pins s σ H _ us Q I r ⟨_, zs.length, rfl, .inr ⟨zs, by rw [G.hK]; exact hq, rfl⟩, by rw [← hr.length]; exact Aft.now hA R rfl⟩
  · rename_i n
    obtain ⟨y, rfl, hl⟩ := hv.one
    split at hA
    · rename_i ys e
      obtain ⟨q, zs, rfl, _, hq, hr⟩ := hl.lst R e
      exact call_len pins s σ H _ us Q I r ⟨_, zs.length, rfl, .inl ⟨zs, SqL.of hq, rfl⟩, by rw [← hr.length]; exact Aft.now hA R rfl⟩
    · rename_i ep kvs e
      obtain ⟨d, es, rfl, hn, hd, hds, hz, nd, hr⟩ := hl.dct R e
      obtain ⟨u, rfl, ru⟩ := vals1 r
      cases (show u = Value.ref d from ru)
      have e1 : kvs.length = es.size := by rw [hr.length]; simp
      exact len_raw hds (dx_get I.hok hd) (by omega) fun t tk => ⟨.int es.size, H, I.tok _, ⟨t, rfl⟩, by rw [← e1]; exact Aft.now hA R rfl⟩
    · exact hA.elim
  · rename_i ys
    obtain ⟨y, rfl, a, zs, rfl, hq, hr⟩ := hv.one
    exact call_len pins s σ H _ us Q I r ⟨_, zs.length, rfl, .inl ⟨zs, by rw [G.hK]; exact hq.sql, rfl⟩, by rw [← hr.length]; exact Aft.now hA R rfl⟩
  · exact hA.elim
theorem b_int : BltS X L W Γ (.type "int") .int := by
  intro pins s σ H ρ S vs xs us Q I r R hv hA
  have hA : AftV L ρ H σ W Q (intV vs S) := hA
  unfold intV at hA
  split at hA
  · obtain ⟨y, rfl, rfl⟩ := hv.one
    exact call_int1 pins s σ H _ us Q I r (.inl ⟨_, rfl, Aft.now hA R rfl⟩)
  · obtain ⟨y, rfl, rfl⟩ := hv.one
    exact call_int1 pins s σ H _ us Q I r (.inr ⟨_, rfl, Aft.now hA R rfl⟩)
  · exact hA.elim
theorem b_max2 (G : Good X L Γ W k) (hc : X.calm = true := by rfl) : BltS X L W Γ (.builtin "max") .max2 := by
  intro pins s σ H ρ S vs xs us Q I r R hv hA
  have hA : AftV L ρ H σ W Q (max2V vs S) := hA
  unfold max2V at hA
  split at hA
  · obtain ⟨y, z, rfl, rfl, rfl⟩ := hv.two
    exact call_max2 hc pins s σ H _ us Q I r ⟨_, _, rfl, Aft.now hA R rfl⟩
  · exact hA.elim
theorem b_min2 (G : Good X L Γ W k) (hc : X.calm = true := by rfl) : BltS X L W Γ (.builtin "min") .min2 := by
  intro pins s σ H ρ S vs xs us Q I r R hv hA
  have hA : AftV L ρ H σ W Q (min2V vs S) := hA
  unfold min2V at hA
  split at hA
  · obtain ⟨y, z, rfl, rfl, rfl⟩ := hv.two
    exact call_min2 hc pins s σ H _ us Q I r ⟨_, _, rfl, Aft.now hA R rfl⟩
  · exact hA.elim
end
end C
end
section
set_option Elab.async false
set_option linter.all false
set_option maxRecDepth 100000
set_option maxHeartbeats 1000000
/-! C7: sorted, list, isinstance, methods of lists, own operators. -/
namespace C
open PySem PySem.Spec L2 ItX
open PyProof.Rows hiding St

section
variable {X : L2.Cx} {L : Lk} {W : WX} {Γ : Cx} {k : Nat} {a b c e o : Expr} {es : List Expr} {ea eb ec : E} {ms : List E} {pos p apos cpos : Pos} {x : Str}

theorem Good.reads {pins : List (Addr × Obj)} {σ : St} {H : Hp} {s : Shared} {ρ : List Addr} {v : Val} {y : V} {u : Value} (I : Inv X pins σ H s) (hK : X.K = L.K) (d : v.data = true) (r : VR L.K ρ H v y) (ru : RelV y u) : ∃ as, Reads s.heap u (dat v) as :=
  Dp.reads I (dat v) y u (by rw [hK]; exact Dp.of d r) ru

/-- values, one by one, of a list β -/
def ValsOf (L : Lk) (ρ : List Addr) (H : Hp) {β : Type} (f : β → Val) (u : Value) (b : β) : Prop := ∃ y, RelV y u ∧ VR L.K ρ H (f b) y
theorem each_of {ρ : List Addr} {H : Hp} {β : Type} {f : β → Val} : ∀ {bs : List β} {ys : List V} {us : List Value}, VRs L.K ρ H (bs.map f) ys → Vals ys us → PySem.W.EachIs (ValsOf L ρ H f) us bs
  | [], _, _, h, r => by cases h; cases r; exact .nil
  | b :: bs, _, _, h, r => by
    obtain ⟨y, ys, rfl, h1, h2⟩ := h
    cases r with
    | cons r1 r2 => exact .cons ⟨y, r1, h1⟩ (each_of h2 r2)
theorem of_each {ρ : List Addr} {H : Hp} {β : Type} {f : β → Val} : ∀ {bs : List β} {us : List Value}, PySem.W.EachIs (ValsOf L ρ H f) us bs → ∃ ys, VRs L.K ρ H (bs.map f) ys ∧ Vals ys us
  | [], _, h => by cases h; exact ⟨[], rfl, .nil⟩
  | b :: bs, _, h => by
    cases h with
    | cons h1 h2 =>
      obtain ⟨y, r, q⟩ := h1
      obtain ⟨ys, r2, q2⟩ := of_each h2
      exact ⟨y :: ys, VRs.cons q r2, .cons r q2⟩
/-- sorted(xs) by a shape -/
theorem sorted_shape {pins : List (Addr × Obj)} {σ : St} {H : Hp} {s : Shared} {ρ : List Addr} {S : Store} {n : Nat} {β : Type} {f : β → Val} {bs : List β} {xs : List V} {us : List Value} {Q : VK} (G : Good X L Γ W k) (I : Inv X pins σ H s) (R : Rel L ρ S H)
    (hx : VRs L.K ρ H [.loc n] xs) (r : Vals xs us) (e : S[n]? = some (.lst (bs.map f))) (hd : ∀ b, (f b).data = true) (hal : PySem.W.AllAlike (bs.map fun b => dat (f b))) (hk : PySem.W.Sortable (bs.map fun b => dat (f b))) (hdep : ∀ b, (dat (f b)).depth ≤ 8)
    (hA : AftV L ρ H σ W Q (newL ((bs.mergeSort (PySem.W.dataLe false fun b => dat (f b))).map f) S)) : wpAny (model X.prog X.w) X.A (call (.builtin "sorted") us) (EP X pins σ Q) X.xe s := by
  obtain ⟨y, rfl, hl⟩ := hx.one
  obtain ⟨q, ys, rfl, _, hq, hr⟩ := hl.lst R e
  obtain ⟨u, rfl, ru⟩ := vals1 r
  cases ru
  obtain ⟨its, rv, pl, hz⟩ := I.list (SqL.of hq)
  have hu := G.hu
  have E1 : PySem.W.EachIs (ValsOf L ρ H f) its bs := each_of hr rv
  refine PySem.W.sorted_data (R := ValsOf L ρ H f) (enc := fun b => dat (f b)) pl.isList E1 (E1.mono fun v b ⟨y, r1, r2⟩ => Good.reads I G.hK (hd b) r2 r1) hal hk (by rw [← E1.length, ← rv.length]; exact hz) (fun b _ => by have := hdep b; omega) fun out hlen hout => ?_
  obtain ⟨zs, h1, h2⟩ := of_each hout
  obtain ⟨c, hc⟩ := sortedAll_at s.heap its out.toArray
  obtain ⟨z, kk⟩ := Aft.newL hA R h1
  have hn : H (s.heap.objs.size + 1) = none := I.hok.fresh (Nat.le_succ _)
  refine ⟨.ref (s.heap.objs.size + 1), _, I.laid (o := .lst zs) (t' := s.toks) (fun _ _ => sortedAll_old) (Nat.le_succ _) ⟨z, out, c, h2, ?_⟩, rfl, kk _ hn⟩
  exact hc
theorem b_sorted (G : Good X L Γ W k) : BltS X L W Γ (.builtin "sorted") .sorted := by
  intro pins s σ H ρ S vs xs us Q I r R hv hA
  have hA : AftV L ρ H σ W Q (sortedV vs S) := hA
  unfold sortedV at hA
  split at hA
  · rename_i n
    split at hA
    · rename_i ys e
      split at hA
      · rename_i ps hps
        have hy : ys = ps.map mkPair := by
          unfold pairs at hps
          have : ∀ (l : List Val) (ps : List (Int × Int)), l.mapM isPair = some ps → l = ps.map mkPair := by
            intro l
            induction l with
            | nil => intro ps h; simp at h; subst h; rfl
            | cons a l ih =>
              intro ps h
              rw [List.mapM_cons] at h
              cases h1 : isPair a with
              | none => rw [h1] at h; cases h
              | some p =>
                rw [h1] at h
                cases h2 : l.mapM isPair with
                | none => rw [h2] at h; cases h
                | some qs =>
                  rw [h2] at h
                  cases h
                  rw [ih qs h2]
                  have : a = mkPair p := by
                    unfold isPair at h1
                    split at h1
                    · cases h1; rfl
                    · cases h1
                  rw [this]; rfl
          exact this ys ps hps
        subst hy
        refine sorted_shape (f := mkPair) G I R hv r e (fun b => rfl) (PySem.W.AllAlike.of fun b b' => rfl) (PySem.W.Sortable.tuples fun b => ⟨_, _, rfl⟩) (fun b => by show (PyData.tuple [PyData.int _, PyData.int _]).depth ≤ 8; simp [PyData.depth, PyData.depthAll]) ?_
        rw [show (fun b => dat (mkPair b)) = fun b : Int × Int => PyData.tuple [.int b.1, .int b.2] from rfl, PySem.W.dataLe_ii]
        exact hA
      · split at hA
        · rename_i is his
          have hy : ys = is.map Val.int := by
            have : ∀ (l : List Val) (ps : List Int), l.mapM isInt = some ps → l = ps.map Val.int := by
              intro l
              induction l with
              | nil => intro ps h; simp at h; subst h; rfl
              | cons a l ih =>
                intro ps h
                rw [List.mapM_cons] at h
                cases h1 : isInt a with
                | none => rw [h1] at h; cases h
                | some p =>
                  rw [h1] at h
                  cases h2 : l.mapM isInt with
                  | none => rw [h2] at h; cases h
                  | some qs =>
                    rw [h2] at h
                    cases h
                    rw [ih qs h2]
                    have : a = .int p := by
                      unfold isInt at h1
                      split at h1
                      · cases h1; rfl
                      · cases h1
                    rw [this]; rfl
            exact this ys is his
          subst hy
          refine sorted_shape (f := Val.int) G I R hv r e (fun b => rfl) (PySem.W.AllAlike.of fun b b' => rfl) (PySem.W.Sortable.others fun b => ⟨(by intro h; cases h), (by intro xs h; cases h)⟩) (fun b => Nat.zero_le _) ?_
          rw [show (fun b => dat (Val.int b)) = fun b : Int => PyData.int b from rfl, PySem.W.dataLe_int (fun b => b)]
          exact hA
        · exact hA.elim
    · exact hA.elim
  · exact hA.elim

/-! ### isinstance -/
def Kd.nm : Kd → Option String
  | .non => some "NoneType" | .bl => some "bool" | .int => some "int" | .str => some "str" | .tup => some "tuple" | .lst => some "list" | .dct => some "dict" | .obj _ => none
def Ty.nm : Ty → Option String
  | .int => some "int" | .bool => some "bool" | .str => some "str" | .list => some "list" | .tuple => some "tuple" | .cls _ => none
theorem kit_tab {kd : Kd} {t : Ty} {n T : String} {r : Bool} (h1 : kd.nm = some n) (h2 : t.nm = some T) (h3 : kd.is t = some r) : kitB n T = some r := by
  cases kd <;> cases t <;> cases h1 <;> cases h2 <;> cases h3 <;> decide +kernel
theorem kind_ty {ρ : List Addr} {H : Hp} {S : Store} {v : Val} {y : V} {kd : Kd} {n : String} (R : Rel L ρ S H) (r : VR L.K ρ H v y) (h : kindOf v S = some kd) (hn : kd.nm = some n) : TyX L.K H y (.type n) := by
  cases v with
  | non => cases r; cases h; cases hn; exact .base .non
  | bl b => cases r; cases h; cases hn; exact .base (.bl b)
  | int i => cases r; cases h; cases hn; exact .base (.int i)
  | str z => cases r; cases h; cases hn; exact .base (.str z)
  | tup vs =>
    cases h; cases hn
    obtain ⟨q, zs, rfl, hq, _⟩ := r
    rcases hq with (hq | ⟨ob, hq⟩) | ⟨ob, its, n, hk, hc, _⟩
    · exact .base (.tup hq)
    · exact .fTuple hq
    · exact .kTuple hk hc
  | ro vs =>
    cases h; cases hn
    obtain ⟨q, zs, rfl, hq, _⟩ := r
    rcases hq with ⟨ob, hq⟩ | ⟨ob, its, n, hk, hc, _⟩
    · exact .base (.frz hq)
    · exact .kList hk hc
  | loc m =>
    unfold kindOf at h
    cases hs : S[m]? with
    | none => simp only [hs] at h; cases h
    | some cl =>
      simp only [hs] at h
      cases cl with
      | lst zs =>
        cases h; cases hn
        obtain ⟨q, ys, rfl, _, hq, _⟩ := r.lst R hs
        exact .base (.lst hq)
      | dct ep kvs => cases h
      | obj cc fs => cases h; cases hn
theorem m_isi {T : String} {t : Ty} {p2 : Pos} (G : Good X L Γ W k) (ha : PE X a (tM L W (ev Γ ea))) (hg : Gl X "isinstance") (hm : L.mg "isinstance" = none) (hg2 : Gl X x) (hm2 : L.mg x = none) (hv2 : bootBuiltins x = some (.type T))
    (hT : t.nm = some T) (hn2 : x ≠ "__name__" := by decide) (hdb2 : (x == ("__debug__" : Str)) = false := by decide)
    (he : starEach [a, .Name x p2] X.env = [(false, eval a X.env), (false, eval (.Name x p2) X.env)] := by rfl) (he2 : starEach [.Name x p2] X.env = [(false, eval (.Name x p2) X.env)] := by rfl) :
    PE X (.Call (.Name "isinstance" p) [a, .Name x p2] [] pos) (tM L W (ev Γ (.isi ea t))) := by
  have hx2 : PE X (.Name x p2) (tC (.ty T)) := pe_bltn hg2 (by rw [G.hm]; exact hm2) hv2 rfl hn2 hdb2
  refine PE.mono (pe_callB call_isi hg (by rw [G.hm]; exact hm) (by decide +kernel) (pa_cons ha (pa_cons hx2 pa_nil (by rw [he2]; rfl)) (by rw [he, he2])) (by decide) (by decide) (by rw [he, he2]) (by rw [he2]; rfl)) fun σ H Q ⟨ρ, S, env, R, er, hA⟩ => ⟨ρ, S, env, R, er, ?_⟩
  unfold ev at hA
  refine (Aft.split (Ru := VR L.K) hA).imp ?_
  rintro y H1 ⟨ρ1, S1, v, p1, k1, R1, rv, h1⟩
  unfold isiV at h1
  cases hk : kindOf v S1 with
  | none => rw [hk] at h1; exact h1.elim
  | some kd =>
    rw [hk] at h1
    cases hi : kd.is t with
    | none => simp only [Option.bind_some, hi] at h1; exact h1.elim
    | some r =>
      simp only [Option.bind_some, hi] at h1
      have hn : ∃ n, kd.nm = some n := by
        cases kd with
        | obj c => cases t <;> first | (cases hT; done) | cases hi
        | _ => exact ⟨_, rfl⟩
      obtain ⟨n, hn⟩ := hn
      exact ⟨y, .ty T, .type n, .type T, r, rfl, .ty T, by rw [G.hK]; exact kind_ty R1 rv hk hn, kit_ty (kit_tab hn hT hi), Aft.now h1 R1 rfl⟩

/-! ### xs.append(y) -/
theorem m_append (G : Good X L Γ W k) (ho : PE X o (tM L W (ev Γ ea))) (hy : PE X e (tM L W (ev Γ eb)))
    (hbase : attributeBase o "append" X.env (eval o X.env) = eval o X.env := by rfl)
    (hfew : ((backTo cpos (starEach [e] X.env)).all (fun x => !x.1) && (backToKw cpos (keywordEach [] X.env)).all (fun x => x.1.isSome)
      && decide ([e].length + ([] : List Keyword).length + (if ([] : List Keyword).isEmpty then 0 else 1) < 30)) = true := by rfl)
    (hline : (apos.endLine == cpos.line) = true := by rfl) (hs : starEach [e] X.env = (false, eval e X.env) :: starEach [] X.env := by rfl) :
    PE X (.Call (.Attribute o "append" apos) [e] [] cpos) (tM L W (ev Γ (.bm .append ea [eb]))) := by
  refine PE.mono (pe_bm PySem.F.plainAttrs_list PySem.F.slot_list_append PySem.F.type_list_append mt_append ho (m_cons hy m_nil hs) hbase hfew hline hs (by rfl)) fun σ H Q ⟨ρ, S, env, R, er, hA⟩ => ⟨ρ, S, env, R, er, ?_⟩
  unfold ev at hA
  refine (Aft.split (Ru := VR L.K) hA).imp ?_
  rintro y H1 ⟨ρ1, S1, v, p1, k1, R1, rv, h1⟩
  by_cases hb : bmTy .append v S1 = true
  · rw [if_pos hb] at h1
    cases v with
    | loc n =>
      have hb' : (lstAt S1 n).isSome = true := hb
      unfold lstAt at hb'
      cases e1 : S1[n]? with
      | none => rw [e1] at hb'; cases hb'
      | some cl =>
        cases cl with
        | lst xs =>
          obtain ⟨q, ys, rfl, hρ, hq, _⟩ := rv.lst R1 e1
          refine ⟨.inl ⟨rfl, ys, SqL.of hq⟩, ρ1, S1, env, R1, er.mono p1 k1, (Aft.split (Ru := VRs L.K) h1).imp ?_⟩
          rintro zs H2 ⟨ρ2, S2, args, p2, k2, R2, ra, h2⟩
          have h2 : AftV L ρ2 H2 σ W Q (appendV (.loc n) args S2) := h2
          match args, ra, h2 with
          | [y], ra, h2 =>
            unfold appendV at h2
            obtain ⟨y', rfl, ry⟩ := ra.one
            cases e2 : S2[n]? with
            | none => simp only [e2] at h2; exact h2.elim
            | some cl2 =>
              cases cl2 with
              | lst xs2 =>
                simp only [e2] at h2
                by_cases hz : xs2.length < lineC
                · rw [if_pos hz] at h2
                  obtain ⟨q2, ys2, hq2, hρ2, hH2, hv2⟩ := (rv.mono p2 k2).lst R2 e2
                  cases hq2
                  have kk := R2.keep (o := .lst (ys2 ++ [y'])) hρ2
                  refine ⟨q, ys2, y', rfl, rfl, hH2, by rw [← hv2.length, ← lineC_eq]; exact hz, ?_⟩
                  refine h2 ρ2 _ _ (List.prefix_refl _) kk (R2.set hρ2 ⟨_, upd_same, ?_⟩) rfl
                  exact (hv2.append (VRs.cons ry VRs.nil)).mono (List.prefix_refl _) kk
                · rw [if_neg hz] at h2
                  exact h2.elim
              | _ => simp only [e2] at h2; exact h2.elim
          | [], _, h2 => exact h2.elim
          | _ :: _ :: _, _, h2 => exact h2.elim
        | _ => rw [e1] at hb'; cases hb'
    | _ => cases hb
  · rw [if_neg hb] at h1
    exact h1.elim
end
end C
end
section
set_option Elab.async false
set_option linter.all false
set_option maxRecDepth 100000
set_option maxHeartbeats 1000000
/-! C8: own operators, in, list(..). -/
namespace C
open PySem PySem.Spec L2 ItX
open PyProof.Rows hiding St

section
variable {X : L2.Cx} {L : Lk} {W : WX} {Γ : Cx} {k : Nat} {a b c e o : Expr} {es : List Expr} {ea eb ec : E} {ms : List E} {pos p apos cpos : Pos} {x : Str}

theorem inst_look {pins : List (Addr × Obj)} {σ : St} {H : Hp} {s : Shared} {q C dx : Addr} {gs : List (Str × V)} (I : Inv X pins σ H s) (hH : H q = some (.ins C dx gs)) : ∃ od, PySem.W.InstAt s.heap q (PySem.W.instObj C dx) C (some od) := by
  obtain ⟨mA, O, _⟩ := ins_get I.hok hH
  obtain ⟨od, J, _⟩ := O.look
  exact ⟨od, J⟩
theorem relV_cmp {P : Value → Shared → Prop} {z : V} {v : Value} {s' : Shared} (r : RelV z v) (h : P v s') : PySem.W.CmpBack P v s' := SlX.cmpback r h
theorem o_own {op : Operator} {o : Bop} {m : Nat} {nm : Str} (G : Good X L Γ W k) (hn : L.names[m]? = some nm) (hd : PySem.dunder op.info.2 = nm) (hb : ∀ x y S, binV Γ o x y S = ownBin Γ m x y S) : OpS X L W (binaryOp op) (binV Γ o) := by
  intro pins s σ H ρ S vx vy x y v u Q I rx ry R hx hy hA
  rw [hb] at hA
  cases vx with
  | loc na =>
    cases vy with
    | loc nb =>
      have hA : AftV L ρ H σ W Q (match special Γ S m na, objAt S na, objAt S nb with
        | some f, some (c, _), some (d, _) => if c = d then Γ.call f [.loc na, .loc nb] S else .bad
        | _, _, _ => .bad) := hA
      split at hA
      · rename_i f c fs d gs hs ha hb'
        by_cases hcd : c = d
        · rw [if_pos hcd] at hA
          subst hcd
          obtain ⟨q, C, dx, g1, df, rfl, hq, hH, cl, me, hl, hdf⟩ := G.meth hn R hx hs
          obtain ⟨q2, C2, dx2, g2, ci, rfl, hq2, h02, hH2, _, hc2, _⟩ := hy.obj R (objAt_some hb')
          obtain ⟨q1, C1, dx1, g1', ci1, e1, hq1, h01, hH1, _, hc1, _⟩ := hx.obj R (objAt_some ha)
          cases e1
          rw [hH] at hH1
          cases hH1
          rw [h01] at h02
          cases h02
          obtain ⟨C', hC', _, sf, _⟩ := G.link.cls _ _ hc1
          rw [h01] at hC'; cases hC'
          cases (show v = Value.ref q from rx)
          cases (show u = Value.ref q2 from ry)
          obtain ⟨od, J⟩ := inst_look I hH
          obtain ⟨od2, J2⟩ := inst_look I hH2
          obtain ⟨mm, F⟩ := I.fr
          refine PySem.W.binop_K F I.ok.mod.kin J J2.type (by rw [G.hK]; exact sf) (by rw [hd]; exact me.at_) me.fn ?_
          refine thn (G.callF (us := [.ref q, .ref q2]) (vs := [.ref q, .ref q2]) hdf I (.cons rfl (.cons rfl .nil)) R (VRs.cons hx (VRs.cons hy VRs.nil)) hA) fun v s' h => ?_
          obtain ⟨z, H', I', rz, hQ⟩ := h
          exact relV_cmp rz ⟨z, H', I', rz, hQ⟩
        · rw [if_neg hcd] at hA
          exact hA.elim
      · exact hA.elim
    | _ => exact hA.elim
  | _ => exact hA.elim

/-! ### in -/
theorem in_list_ok {neg : Bool} {op : CmpOp} (hop : (neg = false ∧ op = .In) ∨ (neg = true ∧ op = .NotIn)) (G : Good X L Γ W k) {pins : List (Addr × Obj)} {s : Shared} {σ : St} {H : Hp} {ρ : List Addr} {S : Store} {vx : Val} {xs : List Val} {x : V} {q : Addr} {ys : List V} {v : Value} {Q : VK}
    (I : Inv X pins σ H s) (R : Rel L ρ S H) (rx : RelV x v) (hx : VR L.K ρ H vx x) (hq : SqL L.K H q ys) (hv : VRs L.K ρ H xs ys) (hA : AftV L ρ H σ W Q (inL neg vx xs S)) : wpAny (model X.prog X.w) X.A (compareOp op v (.ref q)) (EP X pins σ Q) X.xe s := by
  unfold inL at hA
  by_cases hc : inOk vx xs = true
  · rw [if_pos hc] at hA
    obtain ⟨c1, c2, c3, c4, c5⟩ := inOk_facts hc
    have hd : Dp X.K H x (dat vx) := by rw [G.hK]; exact Dp.of (c1) hx
    have hl : Dp X.K H (.ref q) (.list (dats xs)) := by rw [G.hK]; exact .lst hq (DpAll.of (c2) hv)
    have hu := G.hu
    rcases hop with ⟨rfl, rfl⟩ | ⟨rfl, rfl⟩
    · refine op_inD (by omega) pins s σ H _ (.ref q) v _ Q I rx rfl ⟨dat vx, dats xs, hd, hl, c3, c4, ?_⟩
      rw [c5]
      exact Aft.now hA R rfl
    · refine op_notInD (by omega) pins s σ H _ (.ref q) v _ Q I rx rfl ⟨dat vx, dats xs, hd, hl, c3, c4, ?_⟩
      rw [c5]
      exact Aft.now hA R rfl
  · rw [if_neg hc] at hA
    exact hA.elim
theorem own_in_ok {neg : Bool} {op : CmpOp} (hop : (neg = false ∧ op = .In) ∨ (neg = true ∧ op = .NotIn)) (G : Good X L Γ W k) (hn : L.names[mContains]? = some "__contains__") {pins : List (Addr × Obj)} {s : Shared} {σ : St} {H : Hp} {ρ : List Addr} {S : Store} {vx : Val} {n : Nat} {x y : V} {v u : Value} {Q : VK}
    (I : Inv X pins σ H s) (R : Rel L ρ S H) (rx : RelV x v) (ry : RelV y u) (hx : VR L.K ρ H vx x) (hy : VR L.K ρ H (.loc n) y) (hA : AftV L ρ H σ W Q (ownIn Γ neg vx n S)) : wpAny (model X.prog X.w) X.A (compareOp op v u) (EP X pins σ Q) X.xe s := by
  unfold ownIn at hA
  cases hs : special Γ S mContains n with
  | none => rw [hs] at hA; exact hA.elim
  | some f =>
    rw [hs] at hA
    obtain ⟨q, C, dx, g1, df, rfl, hq, hH, cl, me, hl, hdf⟩ := G.meth hn R hy hs
    cases (show u = Value.ref q from ry)
    obtain ⟨od, J⟩ := inst_look I hH
    obtain ⟨mm, F⟩ := I.fr
    have run := G.callF (us := [.ref q, v]) (vs := [.ref q, x]) hdf I (.cons rfl (.cons rx .nil)) R (VRs.cons hy (VRs.cons hx VRs.nil)) (Aft.split (Ru := VR L.K) hA)
    rcases hop with ⟨rfl, rfl⟩ | ⟨rfl, rfl⟩
    · refine PySem.W.in_K F I.ok.mod.kin J me.at_ me.fn (thn run fun r s' h => ?_)
      obtain ⟨z, H', I', rz, ρ1, S1, w, p1, k1, R1, rw', h1⟩ := h
      cases w with
      | bl bb =>
        cases rw'
        cases rz
        exact wpAny_truthy_bool ⟨.bl bb, H', I', rfl, Aft.now h1 R1 rfl⟩
      | _ => exact h1.elim
    · refine PySem.W.notIn_K F I.ok.mod.kin J me.at_ me.fn (thn run fun r s' h => ?_)
      obtain ⟨z, H', I', rz, ρ1, S1, w, p1, k1, R1, rw', h1⟩ := h
      cases w with
      | bl bb =>
        cases rw'
        cases rz
        exact wpAny_truthy_bool ⟨.bl (!bb), H', I', rfl, Aft.now h1 R1 rfl⟩
      | _ => exact h1.elim
theorem in_dict_ok {neg : Bool} {op : CmpOp} (hop : (neg = false ∧ op = .In) ∨ (neg = true ∧ op = .NotIn)) (G : Good X L Γ W k) {pins : List (Addr × Obj)} {s : Shared} {σ : St} {H : Hp} {ρ : List Addr} {S : Store} {vx : Val} {n ep : Nat} {kvs : List (Val × Val)} {x y : V} {v u : Value} {Q : VK}
    (I : Inv X pins σ H s) (R : Rel L ρ S H) (rx : RelV x v) (ry : RelV y u) (hx : VR L.K ρ H vx x) (hy : VR L.K ρ H (.loc n) y) (e : S[n]? = some (.dct ep kvs))
    (hA : AftV L ρ H σ W Q (if keyOk vx kvs then .ok (.bl (if neg then !hasK vx kvs else hasK vx kvs)) S else .bad)) : wpAny (model X.prog X.w) X.A (compareOp op v u) (EP X pins σ Q) X.xe s := by
  by_cases hk : keyOk vx kvs = true
  · rw [if_pos hk] at hA
    obtain ⟨d, es, rfl, hn, hd, hds, hz, nd, hr⟩ := hy.dct R e
    cases (show u = Value.ref d from ry)
    have D := dAt_of G.hK G.hw I hd hr hk hx rx
    have e1 : kvs.length = es.size := by rw [hr.length]; simp
    have hu := G.hu
    rcases hop with ⟨rfl, rfl⟩ | ⟨rfl, rfl⟩
    · show wpAny _ _ (contains (.ref d) v >>= fun b => pure (Value.bool b)) _ _ s
      exact wpAny_bind (contains_raw (by omega) D nd hk e1 hds fun tk => wpAny_pure ⟨.bl (hasK vx kvs), H, I.tok _, rfl, Aft.now hA R rfl⟩)
    · show wpAny _ _ (contains (.ref d) v >>= fun b => pure (Value.bool (!b))) _ _ s
      exact wpAny_bind (contains_raw (by omega) D nd hk e1 hds fun tk => wpAny_pure ⟨.bl (!hasK vx kvs), H, I.tok _, rfl, Aft.now hA R rfl⟩)
  · rw [if_neg hk] at hA
    exact hA.elim
theorem o_inG {neg : Bool} {op : CmpOp} {oc : Cop} (hop : (neg = false ∧ op = .In) ∨ (neg = true ∧ op = .NotIn)) (hoc : ∀ x y S, cmpV Γ oc x y S = inV Γ neg x y S) (G : Good X L Γ W k) (hn : L.names[mContains]? = some "__contains__")
    (htup : ∀ (pins : List (Addr × Obj)) (s : Shared) (σ : St) (H : Hp) (ρ : List Addr) (S : Store) (vx : Val) (xs : List Val) (x y : V) (v u : Value) (Q : VK), Inv X pins σ H s → Rel L ρ S H → RelV x v → RelV y u → VR L.K ρ H vx x → VR L.K ρ H (.tup xs) y → AftV L ρ H σ W Q (inL neg vx xs S) → wpAny (model X.prog X.w) X.A (compareOp op v u) (EP X pins σ Q) X.xe s) :
    OpS X L W (compareOp op) (cmpV Γ oc) := by
  intro pins s σ H ρ S vx vy x y v u Q I rx ry R hx hy hA
  rw [hoc] at hA
  cases vy with
  | loc n =>
    unfold inV at hA
    cases e : S[n]? with
    | none => simp only [e] at hA; exact hA.elim
    | some cl =>
      cases cl with
      | lst xs =>
        simp only [e] at hA
        obtain ⟨q, ys, rfl, _, hq, hv⟩ := hy.lst R e
        cases (show u = Value.ref q from ry)
        exact in_list_ok hop G I R rx hx (SqL.of hq) hv hA
      | obj c fs =>
        simp only [e] at hA
        exact own_in_ok hop G hn I R rx ry hx hy hA
      | dct ep kvs =>
        simp only [e] at hA
        exact in_dict_ok hop G I R rx ry hx hy e hA
  | tup xs => exact htup pins s σ H ρ S vx xs x y v u Q I R rx ry hx hy hA
  | _ => exact hA.elim
end
end C
end
section
set_option Elab.async false
set_option linter.all false
set_option maxRecDepth 100000
set_option maxHeartbeats 1000000
/-! C9: what is walked. -/
namespace C
open PySem PySem.Spec L2 ItX
open PyProof.Rows hiding St

/-- the iterator J gives the items of s, as long as what is held stands -/
def YR (L : Lk) (ρ : List Addr) (H : Hp) (s : Src) (J : It) : Prop :=
  ∀ (ρ' : List Addr) (H' : Hp) (S' : Store), ρ <+: ρ' → Keep H H' → Rel L ρ' S' H' → s.ok S' = true → ∀ i,
    (i = s.items.length → J.stop i H') ∧
    ∀ v, s.items[i]? = some v → J.go i H' ∧ ∀ x H'', J.yld i H' x H'' → Keep H' H'' ∧ Rel L ρ' S' H'' ∧ VR L.K ρ' H'' v x
/-- the reading of what is walked -/
def iM (L : Lk) (W : WX) (m : Env → Store → Res Src) : TI := fun σ H R => ∃ ρ S env, Rel L ρ S H ∧ ER L ρ H env σ ∧ Aft L ρ H σ W (YR L) R (m env S)
abbrev srcM (Γ : Cx) (k : Nat) (es : List E) (env : Env) (S : Store) : Res Src := (evs Γ es env S).bind fun vs S1 => Res.of (srcV Γ k vs S1) S1

section
variable {L : Lk} {ρ : List Addr} {H : Hp}
theorem yr_list {xs : List Val} {n : Nat} {q : Addr} (hn : ρ[n]? = some q) : YR L ρ H ⟨xs, .lst n xs⟩ (Itl L.K q) := by
  intro ρ' H' S' p k R hs i
  have h1 : lstAt S' n = some xs := by simpa [Src.ok, Held.ok] using hs
  have e : S'[n]? = some (.lst xs) := by
    unfold lstAt at h1
    split at h1
    · rename_i e; cases h1; exact e
    · cases h1
  obtain ⟨ys, h2, h3⟩ := R.at_ n _ q e (pre_get p hn)
  refine ⟨fun hi => ⟨ys, SqL.of h2, by rw [← h3.length, hi]; exact Nat.le_refl _⟩, fun v hv => ?_⟩
  obtain ⟨x, hx, rx⟩ := h3.get hv
  refine ⟨⟨ys, x, SqL.of h2, hx⟩, fun x' H'' y => ?_⟩
  obtain ⟨e1, e2⟩ := y
  subst e1
  have := e2 ys (SqL.of h2)
  rw [hx] at this
  cases this
  exact ⟨Keep.refl _, R, rx⟩
theorem yr_ro {xs : List Val} {q : Addr} {ys : List V} (hq : SqR L.K H q ys) (hr : VRs L.K ρ H xs ys) : YR L ρ H ⟨xs, .non⟩ (Itl L.K q) := by
  intro ρ' H' S' p k R hs i
  have h2 := (hq.keep k).sql
  have h3 := hr.mono p k
  refine ⟨fun hi => ⟨ys, h2, by rw [← h3.length, hi]; exact Nat.le_refl _⟩, fun v hv => ?_⟩
  obtain ⟨x, hx, rx⟩ := h3.get hv
  refine ⟨⟨ys, x, h2, hx⟩, fun x' H'' y => ?_⟩
  obtain ⟨e1, e2⟩ := y
  subst e1
  have := e2 ys h2
  rw [hx] at this
  cases this
  exact ⟨Keep.refl _, R, rx⟩
theorem yr_tup {xs : List Val} {q : Addr} {ys : List V} (hq : SqT L.K H q ys) (hr : VRs L.K ρ H xs ys) : YR L ρ H ⟨xs, .non⟩ (Itt L.K q) := by
  intro ρ' H' S' p k R hs i
  have h2 := SqT.keep k hq
  have h3 := hr.mono p k
  refine ⟨fun hi => ⟨ys, h2, by rw [← h3.length, hi]; exact Nat.le_refl _⟩, fun v hv => ?_⟩
  obtain ⟨x, hx, rx⟩ := h3.get hv
  refine ⟨⟨ys, x, h2, hx⟩, fun x' H'' y => ?_⟩
  obtain ⟨e1, e2⟩ := y
  subst e1
  have := e2 ys h2
  rw [hx] at this
  cases this
  exact ⟨Keep.refl _, R, rx⟩
theorem yr_rng {lo : Int} {n : Nat} {items : List Val} (h : items = (List.range n).map fun (i : Nat) => Val.int (lo + (i : Int))) : YR L ρ H ⟨items, .non⟩ (Itr lo n) := by
  intro ρ' H' S' p k R hs i
  subst h
  refine ⟨fun hi => ?_, fun v hv => ?_⟩
  · show n ≤ i
    rw [hi]
    simp
  · rw [List.getElem?_map] at hv
    have hi : i < n := by
      by_cases h : i < n
      · exact h
      · rw [List.getElem?_eq_none (by simpa using Nat.le_of_not_lt h)] at hv
        cases hv
    rw [List.getElem?_range hi] at hv
    cases hv
    refine ⟨hi, fun x' H'' y => ?_⟩
    obtain ⟨e1, e2⟩ := y
    subst e1 e2
    exact ⟨Keep.refl _, R, rfl⟩

/-! ### a dict's keys -/
/-- the keys of the dict at d, as long as they are the n of the ep-th change -/
def Itx (d : Addr) (n ep : Nat) : It :=
  ⟨fun i H => ∃ es en x, H d = some (DX d es ep) ∧ es.size = n ∧ es[i]? = some en ∧ RelV x en.key,
    fun i H x H' => H' = H ∧ ∀ es, H d = some (DX d es ep) → ∃ en, es[i]? = some en ∧ RelV x en.key,
    fun i H => ∃ es, H d = some (DX d es ep) ∧ es.size = n ∧ n ≤ i⟩
theorem dx_same {P : Program} {w : World} {h : Heap} {d : Addr} {es es' : Array DictEntry} {ep ep' : Nat} (hok : HOk P w H h) (e : H d = some (DX d es ep)) (e' : H d = some (DX d es' ep')) : es = es' ∧ ep = ep' := by
  obtain ⟨o, h1, _, h2⟩ := dx_get hok e
  obtain ⟨o', h1', _, h2'⟩ := dx_get hok e'
  rw [h1] at h1'; cases h1'
  rw [h2] at h2'; cases h2'
  exact ⟨rfl, rfl⟩
theorem turn_dx {P : Program} {w : World} {K : PySem.W.Frag} {tg : Expr} {d : Addr} {n ep : Nat} (it : Addr) : Turn P w K tg (Itx d n ep) [it] it (fun i h => h.IsKeyIter it d i n ep) where
  mem := by simp
  obj := fun i h st b hb => by
    obtain rfl : b = it := by simpa using hb
    obtain ⟨oi, e, c, dd⟩ := st
    exact ⟨oi, e, fun v z => by rw [dd] at z; cases z⟩
  keep := fun i h h' st k => st.at fun oi e => k it (by simp) oi e
  item := by
    intro X hP hw hK hc i pins s σ H E I hf st hg
    subst hP hw hK
    obtain ⟨es, en, x, hd, hsz, he, rx⟩ := hg
    obtain ⟨f0, f1, f2, f3, f4, f5⟩ := hf it (by simp)
    obtain ⟨o, ho, hx, hdt⟩ := dx_get I.hok hd
    refine next_key_item st ho hdt hsz he fun h' st' sb => ?_
    have I1 : Inv X pins σ H { s with heap := h' } := I.turned (t' := s.toks) (fun b o hb e => (sb.2 b hb).trans e) f0 f1 f3 f4 f5
    obtain ⟨oi, e, c, dd⟩ := id st'
    refine ⟨en.key, rfl, go_of (s := { s with heap := h' }) e c dd (by decide) ⟨x, H, I1, rx, ⟨rfl, fun es' hd' => ?_⟩, st', fun b hb => (hf b hb).1⟩⟩
    obtain ⟨rfl, _⟩ := dx_same I.hok hd hd'
    exact ⟨en, he, rx⟩
  done := by
    intro X hP hw hK hc i pins s σ H E I hf st hg
    subst hP hw hK
    obtain ⟨es, hd, hsz, hge⟩ := hg
    obtain ⟨f0, f1, f2, f3, f4, f5⟩ := hf it (by simp)
    obtain ⟨o, ho, hx, hdt⟩ := dx_get I.hok hd
    exact next_key_end (I.ok.hd hc) st ho hdt hsz hge fun h' eb => ⟨rfl, I.turned (t' := s.toks) (fun b o hb e => eb b o hb e) f0 f1 f3 f4 f5⟩
  self := fun A i s Q E st h => wpAny_pyIter_keyiter st h
theorem yr_dct {n ep : Nat} {ks : List Val} {d : Addr} (hn : ρ[n]? = some d) : YR L ρ H ⟨ks, .dct n ep ks⟩ (Itx d ks.length ep) := by
  intro ρ' H' S' p k R hs i
  have hs : (match dctAt S' n with
    | some (ep', kvs) => decide (ep' = ep) && decide (kvs.map (·.1) = ks)
    | none => false) = true := hs
  cases hd : dctAt S' n with
  | none => rw [hd] at hs; cases hs
  | some q =>
    obtain ⟨ep', kvs⟩ := q
    rw [hd] at hs
    simp only [Bool.and_eq_true, decide_eq_true_eq] at hs
    obtain ⟨rfl, rfl⟩ := hs
    have e : S'[n]? = some (.dct ep' kvs) := by
      unfold dctAt at hd
      split at hd
      · rename_i e; cases hd; exact e
      · cases hd
    obtain ⟨es, h1, _, _, _, hr⟩ := R.at_ n _ d e (pre_get p hn)
    have hl : es.size = kvs.length := by rw [hr.length]; simp
    have hl' : es.size = (kvs.map (·.1)).length := by rw [hl, List.length_map]
    refine ⟨fun hi => ⟨es, h1, hl', by rw [hi]; exact Nat.le_refl _⟩, fun v hv => ?_⟩
    have hv : (kvs.map (·.1))[i]? = some v := hv
    rw [List.getElem?_map] at hv
    cases hp : kvs[i]? with
    | none => rw [hp] at hv; cases hv
    | some pr =>
      rw [hp] at hv
      cases hv
      obtain ⟨en, he, ⟨x, vx, rx⟩, _⟩ := hr.get hp
      rw [Array.getElem?_toList] at he
      refine ⟨⟨es, en, x, h1, hl', he, rx⟩, fun x' H'' y => ?_⟩
      obtain ⟨e1, e2⟩ := y
      subst e1
      obtain ⟨en', he', rx'⟩ := e2 es h1
      rw [he] at he'
      cases he'
      rw [RelV.inj rx' rx]
      exact ⟨Keep.refl _, R, vx⟩
end

section
variable {X : L2.Cx} {L : Lk} {W : WX} {Γ : Cx} {k : Nat} {a b c e o tg : Expr} {es : List Expr} {ea eb ec : E} {ms : List E} {pos p apos cpos : Pos} {x : Str}
theorem iter_val (G : Good X L Γ W k) {pins : List (Addr × Obj)} {σ : St} {H : Hp} {s : Shared} {ρ : List Addr} {S : Store} {v : Val} {sr : Src} {y : V} {u : Value} {R : It → Hp → Prop} (I : Inv X pins σ H s) (hR : Rel L ρ S H) (rv : VR L.K ρ H v y) (ru : RelV y u)
    (hw : walkV Γ v S = some sr) (hA : Aft L ρ H σ W (YR L) R (.ok sr S)) : wpAny (model X.prog X.w) X.A (pyIter u) (PIE X pins σ tg R) X.xe s := by
  cases v with
  | tup xs =>
    cases hw
    obtain ⟨q, ys, rfl, hq, hr⟩ := rv
    cases (show u = Value.ref q from ru)
    obtain ⟨its, rv, p, hz⟩ := I.tuple (by rw [G.hK]; exact hq)
    refine wpAny_pyIter_tuple (show s.heap.IsTuple q its.toArray from p) ?_
    exact pi_one (tk := s.toks) I _ (turn_tuple q _) ⟨_, Heap.get?_push_size _ rfl, rfl, rfl⟩ (by rw [G.hK]; exact Aft.now hA hR (yr_tup hq hr))
  | ro xs =>
    cases hw
    obtain ⟨q, ys, rfl, hq, hr⟩ := rv
    cases (show u = Value.ref q from ru)
    obtain ⟨its, rv, p, hz⟩ := I.list (show SqL X.K H q ys by rw [G.hK]; exact hq.sql)
    refine wpAny_pyIter_list p.isList ?_
    exact pi_one (tk := s.toks) I _ (turn_list q _) ⟨_, Heap.get?_push_size _ rfl, rfl, rfl⟩ (by rw [G.hK]; exact Aft.now hA hR (yr_ro hq hr))
  | loc n =>
    have hw' := hw
    unfold walkV at hw
    cases hs : S[n]? with
    | none => simp only [hs] at hw; cases hw
    | some cl =>
      cases cl with
      | lst xs =>
        simp only [hs] at hw
        cases hw
        obtain ⟨q, ys, rfl, hn, hq, hr⟩ := rv.lst hR hs
        cases (show u = Value.ref q from ru)
        obtain ⟨its, rv, p, hz⟩ := I.list (show SqL X.K H q ys from SqL.of hq)
        refine wpAny_pyIter_list p.isList ?_
        exact pi_one (tk := s.toks) I _ (turn_list q _) ⟨_, Heap.get?_push_size _ rfl, rfl, rfl⟩ (by rw [G.hK]; exact Aft.now hA hR (yr_list hn))
      | dct ep kvs =>
        simp only [hs] at hw
        cases hw
        obtain ⟨d, es, rfl, hn, hd, hds, hz, nd, hr⟩ := rv.dct hR hs
        cases (show u = Value.ref d from ru)
        obtain ⟨o, ho, hc, hdt⟩ := dx_get I.hok hd
        have hl : es.size = (kvs.map (·.1)).length := by rw [List.length_map, hr.length]; simp
        refine iter_keys hds ho hc hdt ?_
        exact pi_one (tk := s.toks) I _ (turn_dx _) ⟨_, Heap.get?_push_size _ rfl, rfl, by rw [hl]; rfl⟩ (Aft.now hA hR (yr_dct hn))
      | obj cc fs => simp only [hs] at hw; cases hw
  | _ => cases hw
theorem of_some {α : Type} {o : Option α} {S : Store} {ρ : List Addr} {H : Hp} {σ : St} {β : Type} {Rv : List Addr → Hp → α → β → Prop} {Q : β → Hp → Prop} (h : Aft L ρ H σ W Rv Q (Res.of o S)) : ∃ a, o = some a ∧ Aft L ρ H σ W Rv Q (.ok a S) := by
  cases o with
  | none => exact h.elim
  | some a => exact ⟨a, rfl, h⟩
/-- for .. in e -/
theorem m_iter (G : Good X L Γ W k) (ha : PE X a (tM L W (ev Γ ea))) : PI X tg a (iM L W (srcM Γ 0 [ea])) := by
  refine ⟨fun pins s σ H R I ⟨ρ, S, env, hR, er, hA⟩ => ?_⟩
  have hA : Aft L ρ H σ W (YR L) R ((ev Γ ea env S).bind fun v S1 => Res.of (walkV Γ v S1) S1) := by
    unfold srcM evs evs at hA
    revert hA
    cases ev Γ ea env S with
    | ok v S1 => exact id
    | exc c fs S1 => exact id
    | bad => exact id
  refine thn (ha.run pins s σ H _ I ⟨ρ, S, env, hR, er, Aft.split (Ru := VR L.K) hA⟩) fun u s1 ⟨y, H1, I1, ry, ρ1, S1, v, p1, k1, R1, rv, h1⟩ => ?_
  obtain ⟨sr, hw, h2⟩ := of_some h1
  exact iter_val G I1 R1 rv ry hw h2
theorem m_rng1 (G : Good X L Γ W k) (hg : Gl X "range") (hm : L.mg "range" = none) (ha : PA X [a] (tMs L W (evs Γ ms))) (hs : starEach [a] X.env = [(false, eval a X.env)] := by rfl) : PI X tg (.Call (.Name "range" p) [a] [] pos) (iM L W (srcM Γ 1 ms)) := by
  refine ⟨fun pins s σ H R I ⟨ρ, S, env, hR, er, hA⟩ => (pi_range1 (tg := tg) (p := p) (pos := pos) hg (by rw [G.hm]; exact hm) ha hs).run pins s σ H R I ⟨ρ, S, env, hR, er, ?_⟩⟩
  refine (Aft.split (Ru := VRs L.K) hA).imp ?_
  rintro xs H1 ⟨ρ1, S1, vs, p1, k1, R1, rv, h1⟩
  obtain ⟨sr, hw0, h2⟩ := of_some h1
  have hw : rng1V vs = some sr := hw0
  clear hw0
  unfold rng1V at hw
  split at hw
  · rename_i j
    split at hw
    · rename_i hc
      cases hw
      simp only [Bool.and_eq_true, decide_eq_true_eq] at hc
      obtain ⟨y, rfl, rfl⟩ := rv.one
      exact ⟨j, rfl, hc.1, hc.2, Aft.now h2 R1 (yr_rng (by simp))⟩
    · cases hw
  · cases hw
theorem m_rng2 (G : Good X L Γ W k) (hg : Gl X "range") (hm : L.mg "range" = none) (ha : PA X [a, b] (tMs L W (evs Γ ms))) (hs : starEach [a, b] X.env = [(false, eval a X.env), (false, eval b X.env)] := by rfl) (hs2 : starEach [b] X.env = [(false, eval b X.env)] := by rfl) :
    PI X tg (.Call (.Name "range" p) [a, b] [] pos) (iM L W (srcM Γ 2 ms)) := by
  refine ⟨fun pins s σ H R I ⟨ρ, S, env, hR, er, hA⟩ => (pi_range2 (tg := tg) (p := p) (pos := pos) hg (by rw [G.hm]; exact hm) ha hs hs2).run pins s σ H R I ⟨ρ, S, env, hR, er, ?_⟩⟩
  refine (Aft.split (Ru := VRs L.K) hA).imp ?_
  rintro xs H1 ⟨ρ1, S1, vs, p1, k1, R1, rv, h1⟩
  obtain ⟨sr, hw0, h2⟩ := of_some h1
  have hw : rng2V vs = some sr := hw0
  clear hw0
  unfold rng2V at hw
  split at hw
  · rename_i i j
    split at hw
    · rename_i hc
      cases hw
      simp only [Bool.and_eq_true, decide_eq_true_eq] at hc
      obtain ⟨y, z, rfl, rfl, rfl⟩ := rv.two
      exact ⟨i, j, rfl, ⟨hc.1.1.1, hc.1.1.2, hc.1.2, hc.2⟩, Aft.now h2 R1 (yr_rng rfl)⟩
    · cases hw
  · cases hw
end
end C
end
section
set_option Elab.async false
set_option linter.all false
set_option maxRecDepth 100000
set_option maxHeartbeats 1000000
/-! C10: targets, comprehensions. -/
namespace C
open PySem PySem.Spec L2 ItX
open PyProof.Rows hiding St

theorem Res.bind_assoc {α β γ : Type} (r : Res α) (f : α → Store → Res β) (g : β → Store → Res γ) : (r.bind f).bind g = r.bind fun a S => (f a S).bind g := by cases r <;> rfl
/-- nothing is raised -/
abbrev W0 : WX := fun _ _ _ _ => False
section
variable {L : Lk} {ρ ρ1 : List Addr} {H H1 : Hp} {σ σ' : St} {W : WX} {α β γ δ : Type} {Rv : List Addr → Hp → α → β → Prop} {Ru : List Addr → Hp → γ → δ → Prop} {Q : β → Hp → Prop}
theorem Aft.calm {r : Res γ} {f : γ → Store → Res α} (h : Aft L ρ H σ W Rv Q (r.calm.bind f)) :
    Aft L ρ H σ' W0 Ru (fun (x : δ) H1 => ∃ ρ1 S1 v, ρ <+: ρ1 ∧ Keep H H1 ∧ Rel L ρ1 S1 H1 ∧ Ru ρ1 H1 v x ∧ Aft L ρ1 H1 σ W Rv Q (f v S1)) r := by
  cases r with
  | ok v S => exact fun ρ' H' x p k R r => ⟨ρ', S, v, p, k, R, r, Aft.mono p k h⟩
  | exc c fs S => exact h.elim
  | bad => exact h
theorem Aft.calmB {r : Res Val} {f g : Store → Res α} (h : Aft L ρ H σ W Rv Q (r.calm.onB f g)) :
    Aft L ρ H σ' W0 BR (fun b H1 => ∃ ρ1 S1, ρ <+: ρ1 ∧ Keep H H1 ∧ Rel L ρ1 S1 H1 ∧ Aft L ρ1 H1 σ W Rv Q (if b = true then f S1 else g S1)) (toB r) := by
  cases r with
  | ok v S =>
    cases v with
    | bl b =>
      rintro ρ' H' x p k R rfl
      refine ⟨ρ', S, p, k, R, Aft.mono p k ?_⟩
      cases b <;> exact h
    | _ => exact h.elim
  | exc c fs S => exact h.elim
  | bad => exact h
end

/-! ### targets -/
/-- the names is take the value -/
def gM (L : Lk) (is : List Nat) : TG := fun v σ H Q => ∃ ρ S env x env', Rel L ρ S H ∧ ER L ρ H env σ ∧ VR L.K ρ H x v ∧ setN is x env = some env' ∧
  ∀ σ', ER L ρ H env' σ' → (∀ vs, (∀ i ∈ is, i ∈ vs) → L2.wipe σ' vs = L2.wipe σ vs) → Q σ' H
theorem wipeC {σ : St} {i : Nat} {x : Option V} : ∀ {vs : List Nat}, i ∉ vs → L2.wipe (σ.set i x) vs = (L2.wipe σ vs).set i x
  | [], _ => rfl
  | w :: ws, hn => by
    simp only [List.mem_cons, not_or] at hn
    unfold L2.wipe
    rw [wipeC hn.2, List.set_comm _ _ hn.1]
theorem wipe_set {σ : St} {i : Nat} {x : Option V} : ∀ {vs : List Nat}, i ∈ vs → L2.wipe (σ.set i x) vs = L2.wipe σ vs
  | [], h => by cases h
  | v :: vs, h => by
    unfold L2.wipe
    by_cases e : i = v
    · subst e
      by_cases hm : i ∈ vs
      · rw [wipe_set hm]
      · rw [show L2.wipe (σ.set i x) vs = (L2.wipe σ vs).set i x from wipeC hm, List.set_set]
    · rcases List.mem_cons.mp h with z | z
      · exact absurd z e
      · rw [wipe_set z]
theorem wipe_wipe (σ : St) : ∀ vs : List Nat, L2.wipe (L2.wipe σ vs) vs = L2.wipe σ vs
  | [] => rfl
  | v :: vs => by
    have e : L2.wipe σ (v :: vs) = (L2.wipe σ vs).set v none := rfl
    rw [e]
    show (L2.wipe ((L2.wipe σ vs).set v none) vs).set v none = _
    by_cases h : v ∈ vs
    · rw [wipe_set h, wipe_wipe σ vs]
    · rw [wipeC h, wipe_wipe σ vs, List.set_set]
section
variable {X : L2.Cx} {L : Lk} {W : WX} {Γ : Cx} {k : Nat} {a b c e o tg iter elt key : Expr} {es : List Expr} {ea eb ec : E} {ms : List E} {pos p apos cpos : Pos} {x : Str}
theorem g_one {i : Nat} (h : PG X tg (gName i)) : PG X tg (gM L [i]) := by
  refine ⟨fun pins s σ H v u Q I r ⟨ρ, S, env, x, env', R, er, rv, hs, q⟩ => h.run pins s σ H v u Q I r ?_⟩
  have : env' = env.set i (some x) := by
    unfold setN at hs
    exact (Option.some.inj hs).symm
  subst this
  exact q _ (er.set rv) fun vs hi => wipe_set (hi i (by simp))
/-- several names, one after another -/
def gMs (L : Lk) (is : List Nat) : TGs := fun vs σ H Q => ∃ ρ S env xs env', Rel L ρ S H ∧ ER L ρ H env σ ∧ VRs L.K ρ H xs vs ∧ setAll is xs env = some env' ∧
  ∀ σ', ER L ρ H env' σ' → (∀ vs, (∀ i ∈ is, i ∈ vs) → L2.wipe σ' vs = L2.wipe σ vs) → Q σ' H
theorem g_nil : PGs X [] (gMs L []) := by
  refine ⟨fun pins s σ H vs us Q I r ⟨ρ, S, env, xs, env', R, er, rv, hs, q⟩ => pgs_nil.run pins s σ H vs us Q I r ?_⟩
  cases xs with
  | nil =>
    cases hs
    cases rv
    exact ⟨rfl, q σ er fun _ _ => rfl⟩
  | cons x xs => cases hs
theorem g_cons {i : Nat} {is : List Nat} (h : PG X tg (gName i)) (h2 : PGs X es (gMs L is)) (hs : (assignEach (tg :: es) X.env).map (·.2) = assign tg X.env :: (assignEach es X.env).map (·.2) := by rfl) : PGs X (tg :: es) (gMs L (i :: is)) := by
  refine ⟨fun pins s σ H vs us Q I r ⟨ρ, S, env, xs, env', R, er, rv, hs', q⟩ => (pgs_cons h h2 hs).run pins s σ H vs us Q I r ?_⟩
  cases xs with
  | nil => cases hs'
  | cons x xs =>
    obtain ⟨y, ys, rfl, h1, h2⟩ := rv
    refine ⟨y, ys, rfl, ρ, S, _, xs, env', R, er.set h1, h2, hs', fun σ' er' hw => q σ' er' fun vs hv => ?_⟩
    rw [hw vs fun j hj => hv j (List.mem_cons_of_mem _ hj)]
    exact wipe_set (hv i List.mem_cons_self)
theorem g_tup {kk n : Nat} {i j : Nat} {r : List Nat} (hK : X.K = L.K) (hc : X.calm = true) (h : PGs X es (gMs L (i :: j :: r))) (hl : r.length + 2 = n) (hn : (assignEach es X.env).length = n := by rfl) (hst : (assignEach es X.env).findIdx? (·.1) = none := by rfl) :
    PG X (.Tuple es kk pos) (gM L (i :: j :: r)) := by
  refine ⟨fun pins s σ H v u Q I rr ⟨ρ, S, env, x, env', R, er, rv, hs, q⟩ => (pg_tup hc h hn hst).run pins s σ H v u Q I rr ?_⟩
  unfold setN at hs
  cases x with
  | tup xs =>
    obtain ⟨a, ys, rfl, hq, hr⟩ := rv
    refine ⟨a, ys, rfl, by rw [hK]; exact hq, ?_, ρ, S, env, xs, env', R, er, hr, hs, q⟩
    have : ∀ (is : List Nat) (xs : List Val) (env : Env), setAll is xs env = some env' → is.length = xs.length := by
      intro is
      induction is with
      | nil => intro xs env h; cases xs with
        | nil => rfl
        | cons _ _ => cases h
      | cons i is ih => intro xs env h; cases xs with
        | nil => cases h
        | cons x xs => simp [ih xs _ h]
    rw [← hr.length, ← this _ _ _ hs]
    simp [hl]
  | _ => cases hs

/-! ### a comprehension's block -/
theorem Good.blk (G : Good X L Γ W k) {s : Shared} {H : Hp} {scope : Scope} {cenv : PySem.Env} {fp : List Addr} : Good (X.blk s H scope cenv fp) L Γ W0 k :=
  ⟨G.hP, G.hw, G.hK, G.hm, G.hT, G.link, G.fn, G.cool, G.hot, G.hu, G.deep, G.it, fun u s' ⟨_, _, _, _, _, _, _, _, _, _, _, _, _, _, _, _, z⟩ => z.elim⟩
/-- what a comprehension's parts are in every block -/
def InBlk (X : L2.Cx) (scope : Scope) (P : L2.Cx → Prop) : Prop := ∀ (s : Shared) (H : Hp) (C : Addr) (cl : List (Str × Addr)) (fp : List Addr), P (X.blk s H scope (compEnvC scope cl C X.env) fp)

theorem addL_set {D : Nat} {y : Val} {S : Store} {f : Store → Res Val} {ρ : List Addr} {H : Hp} {σ : St} {Q : VK} (h : AftV L ρ H σ W Q (addL D y S f)) : ∃ acc, S[D]? = some (.lst acc) ∧ acc.length < lineC ∧ AftV L ρ H σ W Q (f (S.set D (.lst (acc ++ [y])))) := by
  unfold addL at h
  split at h
  · rename_i acc e
    split at h
    · rename_i hl
      exact ⟨acc, e, hl, h⟩
    · exact h.elim
  · exact h.elim
theorem addD_set {D : Nat} {kk y : Val} {S : Store} {f : Store → Res Val} {ρ : List Addr} {H : Hp} {σ : St} {Q : VK} (h : AftV L ρ H σ W Q (addD D kk y S f)) : ∃ ep kvs, S[D]? = some (.dct ep kvs) ∧ keyOk kk kvs = true ∧ kvs.length < lineC ∧ AftV L ρ H σ W Q (f (S.set D (putD kk y ep kvs))) := by
  unfold addD at h
  split at h
  · rename_i ep kvs e
    split at h
    · rename_i hl
      simp only [Bool.and_eq_true, decide_eq_true_eq] at hl
      exact ⟨ep, kvs, e, hl.1, hl.2, h⟩
    · exact h.elim
  · exact h.elim
theorem ite_true {c : Prop} [Decidable c] {r : Res Val} {ρ : List Addr} {H : Hp} {σ : St} {Q : VK} (h : AftV L ρ H σ W Q (if c then r else .bad)) : c ∧ AftV L ρ H σ W Q r := by
  split at h
  · exact ⟨‹_›, h⟩
  · exact h.elim

theorem lc_read {vs tgs : List Nat} {kk : Nat} (hn : L.hx = none) (hown : ∀ i ∈ tgs, i ∈ vs) (σ : St) (H : Hp) (Q : VK) (h : tM L W (ev Γ (.lc vs tgs kk ms ec ea)) σ H Q) :
    tLc (iM L W (srcM Γ kk ms)) (gM L tgs) (tMT L W0 (ev Γ ec)) (tM L W0 (ev Γ ea)) vs σ H Q := by
  obtain ⟨ρ, S, env, R, er, hA⟩ := h
  refine ⟨ρ, S, env, R, er, ?_⟩
  unfold ev at hA
  have hA : AftV L ρ H σ W Q ((srcM Γ kk ms env S).bind fun s S1 => lcGo (fun e S => ev Γ ec e S) (fun e S => ev Γ ea e S) vs tgs s S1.length env s.items (S1 ++ [.lst []])) := by
    rw [Res.bind_assoc]
    exact hA
  refine (Aft.split (Ru := YR L) hA).imp ?_
  rintro J H1 ⟨ρ1, S1, sr, p1, k1, R1, yr, h1⟩ D hD
  have k2 : Keep H1 (upd H1 D (.lst [])) := Keep.new hD
  have R2 : Rel L (ρ1 ++ [D]) (S1 ++ [.lst []]) (upd H1 D (.lst [])) := R1.alloc hD ⟨[], upd_same, VRs.nil⟩
  have hD2 : (ρ1 ++ [D])[S1.length]? = some D := by rw [← R1.len, List.getElem?_append_right (Nat.le_refl _)]; simp
  generalize hcg : (fun e S => ev Γ ec e S) = cf at h1
  generalize heg : (fun e S => ev Γ ea e S) = ef at h1
  refine ⟨fun i m H => m = sr.items.length - i ∧ i ≤ sr.items.length ∧ ∃ ρ' S', (ρ1 ++ [D]) <+: ρ' ∧ Keep (upd H1 D (.lst [])) H ∧ Rel L ρ' S' H ∧ AftV L ρ' H σ W Q (lcGo cf ef vs tgs sr S1.length env (sr.items.drop i) S'), ⟨_, rfl, Nat.zero_le _, ρ1 ++ [D], _, List.prefix_refl _, Keep.refl _, R2, by
    rw [List.drop_zero]
    exact Aft.mono (List.prefix_append _ _) k2 h1⟩, ?_⟩
  rintro i m H3 ⟨rfl, hle, ρ3, S3, p3, k3, R3, h3⟩
  have pp : ρ1 <+: ρ3 := (List.prefix_append ρ1 [D]).trans p3
  have kk3 : Keep H1 H3 := k2.trans k3
  by_cases hlt : i < sr.items.length
  · rw [List.drop_eq_getElem_cons hlt] at h3
    unfold lcGo at h3
    obtain ⟨hok, h3⟩ := ite_true h3
    obtain ⟨hgo, hy⟩ := (yr ρ3 H3 S3 pp kk3 R3 hok i).2 _ (List.getElem?_eq_getElem hlt)
    refine .inr ⟨hgo, _, fun H' h' => ⟨sr.items.length - (i + 1), by omega, h'⟩, fun x H4 hy4 => ?_⟩
    obtain ⟨k4, R4, rx⟩ := hy x H4 hy4
    cases hs1 : setN tgs sr.items[i] (wipeE env vs) with
    | none => rw [hs1] at h3; exact h3.elim
    | some env1 =>
      rw [hs1] at h3
      have h3 := Aft.mono (List.prefix_refl _) k4 h3
      have er4 : ER L ρ3 H4 env σ := er.mono (p1.trans pp) (k1.trans (kk3.trans k4))
      refine ⟨ρ3, S3, _, _, env1, R4, er4.wipe hn _, rx, hs1, fun σ' er' hw => ⟨(hw _ hown).trans (wipe_wipe _ _), ρ3, S3, env1, R4, er', ?_⟩⟩
      have h3' : AftV L ρ3 H4 σ W Q ((cf env1 S3).calm.onB (fun S1' => (ef env1 S1').calm.bind fun y S2 => addL S1.length y S2 fun S3 => lcGo cf ef vs tgs sr S1.length env (sr.items.drop (i + 1)) S3) (fun S1' => lcGo cf ef vs tgs sr S1.length env (sr.items.drop (i + 1)) S1')) := h3
      subst hcg heg
      refine (Aft.calmB (σ' := σ') h3').imp ?_
      rintro bb H5 ⟨ρ5, S5, p5, k5, R5, h5⟩
      cases bb with
      | false =>
        rw [if_neg Bool.false_ne_true] at h5 ⊢
        exact ⟨rfl, hlt, ρ5, S5, p3.trans p5, k3.trans (k4.trans k5), R5, h5⟩
      | true =>
        rw [if_pos rfl] at h5 ⊢
        refine ⟨ρ5, S5, env1, R5, er'.mono p5 k5, (Aft.calm (Ru := VR L.K) h5).imp ?_⟩
        rintro y H6 ⟨ρ6, S6, v, p6, k6, R6, rv, h6⟩
        obtain ⟨acc, e6, hl6, h6⟩ := addL_set h6
        have hD6 : ρ6[S1.length]? = some D := pre_get ((p3.trans p5).trans p6) hD2
        obtain ⟨ys, hH6, hr6⟩ := R6.at_ _ _ D e6 hD6
        have k7 := R6.keep (o := .lst (ys ++ [y])) hD6
        refine ⟨ys, hH6, by rw [← hr6.length, ← lineC_eq]; exact hl6, rfl, hlt, ρ6, _, (p3.trans p5).trans p6, (k3.trans (k4.trans (k5.trans k6))).trans k7, R6.set (c := .lst (acc ++ [v])) hD6 ⟨_, upd_same, (hr6.append (VRs.cons rv VRs.nil)).mono (List.prefix_refl _) k7⟩, Aft.mono (List.prefix_refl _) k7 h6⟩
  · have e : i = sr.items.length := by omega
    subst e
    rw [List.drop_length] at h3
    unfold lcGo at h3
    obtain ⟨hok, h3⟩ := ite_true h3
    refine .inl ⟨(yr ρ3 H3 S3 pp kk3 R3 hok _).1 rfl, Aft.now h3 R3 ⟨D, rfl, pre_get p3 hD2⟩⟩
/-- [elt for tg in iter if c] -/
theorem m_lc {ifs : List Expr} {scope : Scope} {own : List (Str × Nat)} {tgs : List Nat} {kk : Nat} (G : Good X L Γ W k) (hN : X.N.Nodup) (hi : PI X tg iter (iM L W (srcM Γ kk ms))) (ok : BlkOk X.N X.env.scope scope own) (hown : ∀ i ∈ tgs, i ∈ own.map (·.2))
    (hg : InBlk X scope fun X' => PG X' tg (gM L tgs)) (ht : InBlk X scope fun X' => PTs X' ifs (tMT L W0 (ev Γ ec))) (he : InBlk X scope fun X' => PE X' elt (tM L W0 (ev Γ ea))) (hs : ∀ x, foldedSetIterable iter X.env x = pure x := by intro _; rfl) (hc : X.calm = true := by rfl) :
    PE X (.ListComp elt [⟨tg, iter, ifs, 0⟩] scope pos) (tM L W (ev Γ (.lc (own.map (·.2)) tgs kk ms ec ea))) := PE.mono (pe_lc hc hN hi ok hg ht he hs) (lc_read (G.nohx hc) hown)
/-- name = [..] on one line -/
theorem m_setLc {j : Nat} {y : Str} {py spos : Pos} {ifs : List Expr} {scope : Scope} {own : List (Str × Nat)} {tgs : List Nat} {kk : Nat} (G : Good X L Γ W k) (hN : X.N.Nodup) (hy : X.N[j]? = some y) (hyl : X.env.scope.names.lookup y = some .local)
    (hsw : swapsWith (.ListComp elt [⟨tg, iter, ifs, 0⟩] scope pos) (some (.Name y py)) spos.line X.env = pure true) (hi : PI X tg iter (iM L W (srcM Γ kk ms))) (ok : BlkOk X.N X.env.scope scope own) (hown : ∀ i ∈ tgs, i ∈ own.map (·.2))
    (hg : InBlk X scope fun X' => PG X' tg (gM L tgs)) (ht : InBlk X scope fun X' => PTs X' ifs (tMT L W0 (ev Γ ec))) (he : InBlk X scope fun X' => PE X' elt (tM L W0 (ev Γ ea))) (hs : ∀ x, foldedSetIterable iter X.env x = pure x := by intro _; rfl) (hc : X.calm = true := by rfl) :
    PS X (.Assign [.Name y py] (.ListComp elt [⟨tg, iter, ifs, 0⟩] scope pos) spos) (tAsg (tM L W (ev Γ (.lc (own.map (·.2)) tgs kk ms ec ea))) (gName j)) :=
  PS.mono (ps_setLc hc hN hy hyl hsw hi ok hg ht he hs) fun D σ H h => lc_read (G.nohx hc) hown σ H _ h
end
end C
end
section
set_option Elab.async false
set_option linter.all false
set_option maxRecDepth 100000
set_option maxHeartbeats 1000000
/-! C11: dict comprehensions. -/
namespace C
open PySem PySem.Spec L2 ItX
open PyProof.Rows hiding St

/-- the new dict takes a row: what is asked ahead of it -/
def PutD (K : PySem.W.Frag) (w : World) (D : Addr) (y z : V) (H : Hp) (Nx : Hp → Prop) : Prop :=
  ∃ (ρ : List Addr) (kvs : List (Val × Val)) (es : Array DictEntry) (ep : Nat) (key : Val), H D = some (DX D es ep) ∧ EnR K w ρ H kvs es.toList ∧ (kvs.map (·.1)).Nodup ∧ keyOk key kvs = true ∧ VR K ρ H key y ∧ kvs.length < sizeLine ∧
    ∀ u r, RelV y u → RelV z r → (∀ i, (kvs.findIdx? fun p => decide (p.1 = key)) = some i → Nx (upd H D (DX D (es.modify i fun e => { e with val := r }) ep))) ∧
      ((kvs.findIdx? fun p => decide (p.1 = key)) = none → Nx (upd H D (DX D (es.push ⟨(nk key).hash w, u, r⟩) (ep + 1))))
theorem putD_ok {X : L2.Cx} {pins : List (Addr × Obj)} {σ : St} {H : Hp} {s : Shared} {D : Addr} {y z : V} {u r : Value} {Nx : Hp → Prop} {A : Around} {E : Value → Shared → Prop} {Q : Unit → Shared → Prop} (hu : A.units + 8 < cLine) (I : Inv X pins σ H s) (ry : RelV y u) (rz : RelV z r) (h : PutD X.K X.w D y z H Nx)
    (hQ : ∀ H' s', Inv X pins σ H' s' → Nx H' → Q () s') : wpAny (model X.prog X.w) A (dictSet D u r) Q E s := by
  obtain ⟨ρ, kvs, es, ep, key, hd, hr, nd, hk, vk, hz, nx⟩ := h
  obtain ⟨n1, n2⟩ := nx u r ry rz
  obtain ⟨k1, k2⟩ := keyOk_key hk
  have DD : DAt X s D es ep kvs key u := ⟨dx_get I.hok hd, enN_of (ρ := ρ) I k2 hr, keyAt_of (ρ := ρ) I k1 vk ry⟩
  have hl : es.size = kvs.length := by rw [hr.length]; simp
  refine set_raw (kvs := kvs) hu DD nd hk (by omega) (fun i hi h' tk o sb e c dd => ?_) (fun hi h' tk o sb e c dd => ?_)
  · exact hQ _ _ (Inv.dset I hd sb e c dd) (n1 i hi)
  · exact hQ _ _ (Inv.dset I hd sb e c dd) (n2 hi)

def tDcx (K : PySem.W.Frag) (w : World) (wi : TI) (g : TG) (tk tv : TE) (vs : List Nat) : TE := fun σ H Q => wi σ H fun J H1 => ∀ D, H1 D = none → (D == sysModules) = false → ∃ Wv : Nat → Nat → Hp → Prop, (∃ m, Wv 0 m (upd H1 D (DX D #[] 0))) ∧ ∀ i m H, Wv i m H →
  (J.stop i H ∧ Q (.ref D) H) ∨ (J.go i H ∧ ∃ Nx : Hp → Prop, (∀ H', Nx H' → ∃ m', m' < m ∧ Wv (i + 1) m' H') ∧ ∀ x H', J.yld i H x H' → g x (L2.wipe σ vs) H' fun σ2 H2 => L2.wipe σ2 vs = L2.wipe σ vs ∧
    tk σ2 H2 fun y H4 => tv σ2 H4 fun z H5 => PutD K w D y z H5 Nx)
section
variable {X : L2.Cx}
theorem dcx_core {pins : List (Addr × Obj)} {s : Shared} {σ : St} {H : Hp} {Q : VK} {kx vx tg iter : Expr} {scope : Scope} {own : List (Str × Nat)} {pos pos' : Pos} {wi : TI} {g : TG} {tk tv : TE} {use : Option (Value → Sem Unit)} {Qf : Value → Shared → Prop}
    (hu : X.A.units + 20 < cLine) (hc : X.calm = true) (hN : X.N.Nodup) (I : Inv X pins σ H s) (hi : PI X tg iter wi) (ok : BlkOk X.N X.env.scope scope own)
    (hg : InBlk X scope fun X' => PG X' tg g) (hk : InBlk X scope fun X' => PE X' kx tk) (hv : InBlk X scope fun X' => PE X' vx tv) (hs : ∀ x, foldedSetIterable iter X.env x = pure x) (h : tDcx X.K X.w wi g tk tv (own.map (·.2)) σ H Q)
    (hRR : ∀ D B s' m H', Inv X pins σ H' s' → Q (.ref D) H' → s'.heap.Ns B m → FpOk X pins H' B → compPost (model X.prog X.w) X.A X.xe use Qf (.ref D) B (.ok .next) s') :
    wpAny (model X.prog X.w) X.A (comprehension (.DictComp kx vx [⟨tg, iter, [], 0⟩] scope pos) scope X.env pos' newDict false (eval iter X.env) use) Qf X.xe s := by
  have caught : ∀ y ∈ scope.names, y.2 = .free → ∃ c, X.env.cells.lookup y.1 = some c := by
    intro y hy e
    rcases ok.free y hy e with q | q
    · exact I.ok.has _ (.inl q)
    · exact I.ok.has _ (.inr q)
  refine wpAny_comprehension_free (use := use) rfl hs (closure_ok caught) ok.kind (fun y hy e => by rw [ok.uniq y hy, e]) ?_
  refine thn (hi.run pins s σ H _ I h) fun itble z1 hx => thn hx fun iv z2 pie => ?_
  obtain ⟨it, fp, tn, J, Ha, ei, Ia, T, sta, fa, q⟩ := pie
  subst ei
  refine wpAny_newObj_type (newEnv_comp ?_)
  generalize hD : z2.heap.objs.size = D
  have free0 : Ha D = none := Ia.hok.fresh (Nat.le_of_eq hD)
  have nsys : (D == sysModules) = false := by
    have q1 := dk_empty (P := X.prog) (w := X.w) (H := upd Ha z2.heap.objs.size (.dK [])) z2.heap Ia.big
    rw [← hD]
    exact q1.2.1
  obtain ⟨Wv, ⟨m0, w0⟩, turn⟩ := q D free0 nsys
  -- the new dict stands
  generalize hz3 : ({ z2 with heap := z2.heap.push { cls := .type "dict", data := .dict #[] } } : Shared) = z3
  generalize hHb : upd Ha D (DX D #[] 0) = Hb at w0
  have h3 : z3.heap = z2.heap.push { cls := .type "dict", data := .dict #[] } := by rw [← hz3]
  have Ib : Inv X pins σ Hb z3 := by
    rw [← hz3, ← hHb]
    refine Ia.laid (t' := z2.toks) (fun b o e => Heap.get?_push_of_some _ e) (Nat.le_of_eq hD) ?_
    rw [← hD]
    exact dx_ok (Heap.get?_push_size _ rfl) ⟨rfl, rfl, rfl⟩ rfl
  have low : ∀ b ∈ fp, b < z2.heap.objs.size := by
    intro b hb
    obtain ⟨o, e, _⟩ := T.obj _ _ sta b hb
    exact Heap.lt_size e
  have fb : ∀ b ∈ fp, FpOk X pins Hb b ∧ b < z3.heap.objs.size := by
    intro b hb
    have l1 := low b hb
    have l2 : b ≠ D := by rw [← hD]; exact Nat.ne_of_lt l1
    refine ⟨⟨by rw [← hHb, upd_ne l2]; exact (fa b hb).1, (fa b hb).2⟩, ?_⟩
    rw [h3, Heap.size_push]
    exact Nat.lt_succ_of_lt l1
  have stb : tn 0 z3.heap := T.keep _ _ _ sta fun b _ o e => by rw [h3]; exact Heap.get?_push_of_some _ e
  have Ic := block_start Ib ok hN fb
  have pg := hg z3 Hb z3.heap.objs.size (cellsFrom (z3.heap.objs.size + 1) scope.names (cloFrom X.env.cells scope.names [])) fp
  have pk := hk z3 Hb z3.heap.objs.size (cellsFrom (z3.heap.objs.size + 1) scope.names (cloFrom X.env.cells scope.names [])) fp
  have pv := hv z3 Hb z3.heap.objs.size (cellsFrom (z3.heap.objs.size + 1) scope.names (cloFrom X.env.cells scope.names [])) fp
  show codeAny _ _ (.compStart (.DictComp kx vx [⟨tg, iter, [], 0⟩] scope pos) 0 (.ref it) (.ref D) (compEnvC scope (cellsFrom (z3.heap.objs.size + 1) scope.names (cloFrom X.env.cells scope.names [])) z3.heap.objs.size X.env)) (compPost (model X.prog X.w) X.A X.xe use Qf (.ref D) z3.heap.objs.size) { z3 with heap := pushCells (z3.heap.push { cls := .type "dict", data := .dict #[] }) scope.names }
  have free3 : ∀ b ∈ fp, Hb b = none := fun b hb => (fb b hb).1.1
  generalize hce : compEnvC scope (cellsFrom (z3.heap.objs.size + 1) scope.names (cloFrom X.env.cells scope.names [])) z3.heap.objs.size X.env = ce at Ic pg pk pv ⊢
  have cL : ce.locals = z3.heap.objs.size := by rw [← hce]; rfl
  generalize hz4 : ({ z3 with heap := pushCells (z3.heap.push { cls := .type "dict", data := .dict #[] }) scope.names } : Shared) = z4 at Ic ⊢
  have stc : tn 0 z4.heap := T.keep _ _ _ stb fun b _ o e => by rw [← hz4]; exact pushCells_keeps _ _ _ _ (Heap.get?_push_of_some _ e)
  have fpok : ∀ {σ' : St} {H' : Hp} {s' : Shared}, Inv (X.blk z3 Hb scope ce fp) [] σ' H' s' → (∀ b ∈ fp, H' b = none) → ∀ b ∈ fp, FpOk (X.blk z3 Hb scope ce fp) [] H' b := by
    intro σ' H' s' I' hn b hb
    exact ⟨hn b hb, (I'.ok.exf b hb).1, I'.ok.exfs b hb, .inl hb, fun x c e => (I'.ok.exf b hb).2 x c e, fun p hp => absurd (show p ∈ ([] : List (Addr × Obj)) ++ [] from hp) (by simp)⟩
  have loop : codeAny (model X.prog X.w) X.A (.compLoop (.DictComp kx vx [⟨tg, iter, [], 0⟩] scope pos) 0 (.ref it) (.ref D) ce) (compPost (model X.prog X.w) X.A X.xe use Qf (.ref D) z3.heap.objs.size) z4 := by
    refine compLoop_anyD (fun n s' => ∃ i H', Inv (X.blk z3 Hb scope ce fp) [] (L2.wipe σ (own.map (·.2))) H' s' ∧ tn i s'.heap ∧ (∀ b ∈ fp, H' b = none) ∧ Wv i n H') ?_ m0 ⟨0, Hb, Ic, stc, free3, w0⟩
    rintro n z5 ⟨i, H5, I5, st5, n5, w5⟩
    rcases turn i n H5 w5 with ⟨stop, qq⟩ | ⟨go, Nx, hNx, step⟩
    · refine thnF (T.done (X.blk z3 Hb scope ce fp) rfl rfl rfl hc i [] z5 _ H5 (fun _ _ => False) I5 (fpok I5 n5) st5 stop) fun r z6 ⟨hr, I6⟩ => ?_
      subst hr
      have I7 : Inv X pins σ H5 z6 := Ib.call' (ch := fp) I6.os I6.base I6.hok I6.bare fun b hb => ⟨(fb b hb).1.2.2.2.1, (fb b hb).1.2.1, (fb b hb).1.2.2.2.2.1, (fb b hb).1.2.2.2.2.2⟩
      have nB : H5 z3.heap.objs.size = none := by rw [← cL]; exact I6.free
      obtain ⟨m, hn, _⟩ := I6.loc
      have hn : z6.heap.Ns z3.heap.objs.size m := by rw [← cL]; exact hn
      exact hRR D z3.heap.objs.size z6 m H5 I7 qq hn (Ib.fpOk (Nat.le_refl _) nB)
    · refine thnF (T.item (X.blk z3 Hb scope ce fp) rfl rfl rfl hc i [] z5 _ H5 (fun _ _ => False) I5 (fpok I5 n5) st5 go) fun r z6 ⟨u, hr, h6⟩ => ?_
      subst hr
      refine thnF h6 fun _ z7 ⟨x, H7, I7, r7, y7, st7, n7⟩ => ?_
      have I8 := I7.pinned (fpok I7 n7) (T.obj _ _ st7)
      refine thnF (pg.run _ z7 _ H7 x u _ I8 r7 (step x H7 y7)) fun _ z8 ⟨σ8, H8, I9, hw8, q8⟩ => ?_
      have fin : ∀ {s' : Shared} {H' : Hp}, Inv (X.blk z3 Hb scope ce fp) ([] ++ pinsAt fp z7.heap) σ8 H' s' → Nx H' → ∃ m, m < n ∧ ∃ i H', Inv (X.blk z3 Hb scope ce fp) [] (L2.wipe σ (own.map (·.2))) H' s' ∧ tn i s'.heap ∧ (∀ b ∈ fp, H' b = none) ∧ Wv i m H' := by
        intro s' H' I' nx
        obtain ⟨m', hm, w'⟩ := hNx H' nx
        have still : ∀ b ∈ fp, ∀ o, z7.heap.get? b = some o → s'.heap.get? b = some o ∧ H' b = none := by
          intro b hb o e
          have z := I'.pin (b, o) (List.mem_append_right _ (List.mem_append_right _ (mem_pinsAt hb e)))
          exact ⟨z.1, z.2.1⟩
        have hl : (L2.wipe σ (own.map (·.2))).length = σ8.length := by rw [← hw8, wipe_length]
        refine ⟨m', hm, i + 1, H', (I'.unpinned (pins := [])).weak hl (fun j v e => ?_), T.keep _ _ _ st7 fun b hb o e => (still b hb o e).1, fun b hb => ?_, w'⟩
        · rw [← hw8] at e
          exact (wipe_some e).1
        · obtain ⟨o, e, _⟩ := T.obj _ _ st7 b hb
          exact (still b hb o e).2
      refine thnF ((pts_nil (X := X.blk z3 Hb scope ce fp)).run _ z8 σ8 H8 (fun b H' => b = true ∧ H' = H8) I9 ⟨rfl, rfl⟩) fun b z9 ⟨H9, I10, eb, eH⟩ => ?_
      subst eb eH
      rw [if_pos rfl]
      refine thnF (pk.run _ z9 σ8 _ _ I10 q8) fun ku z10 ⟨yk, H10, I11, r10, q10⟩ => ?_
      refine thnF (pv.run _ z10 σ8 H10 _ I11 q10) fun vu z11 ⟨yv, H11, I12, r11, pd⟩ => ?_
      exact putD_ok (X := X.blk z3 Hb scope ce fp) (by show X.A.units + 8 < _; omega) I12 r10 r11 pd fun H12 s' I13 nx => fin I13 nx
  exact codeAny_compStart_dict loop (T.self X.A 0 _ _ _ stc loop)
theorem pe_dcx {kx vx tg iter : Expr} {scope : Scope} {own : List (Str × Nat)} {pos : Pos} {wi : TI} {g : TG} {tk tv : TE} (hu : X.A.units + 20 < cLine) (hc : X.calm = true) (hN : X.N.Nodup) (hi : PI X tg iter wi) (ok : BlkOk X.N X.env.scope scope own)
    (hg : InBlk X scope fun X' => PG X' tg g) (hk : InBlk X scope fun X' => PE X' kx tk) (hv : InBlk X scope fun X' => PE X' vx tv) (hs : ∀ x, foldedSetIterable iter X.env x = pure x := by intro _; rfl)  :
    PE X (.DictComp kx vx [⟨tg, iter, [], 0⟩] scope pos) (tDcx X.K X.w wi g tk tv (own.map (·.2))) := by
  refine ⟨fun pins s σ H Q I h => ?_⟩
  rw [arm_eval_DictComp]
  refine dcx_core hu hc hN I hi ok hg hk hv hs h fun D B s' m H' I' q hn f => ⟨m, hn, fun h'' sb => ?_⟩
  obtain ⟨f0, f1, f2, f3, f4, f5⟩ := f
  exact ⟨.ref D, H', I'.turned (t' := s'.toks) (fun b o hb e => (sb.2 b hb).trans e) f0 f1 f3 f4 f5, rfl, q⟩
variable {L : Lk} {W : WX} {Γ : Cx} {k : Nat} {tg iter kx vx : Expr} {ek ea : E} {ms : List E} {pos : Pos}
theorem dc_read {vs tgs : List Nat} {kk : Nat} (hn : L.hx = none) (hK : X.K = L.K) (hXw : X.w = L.w) (hown : ∀ i ∈ tgs, i ∈ vs) (σ : St) (H : Hp) (Q : VK) (h : tM L W (ev Γ (.dc vs tgs kk ms ek ea)) σ H Q) :
    tDcx X.K X.w (iM L W (srcM Γ kk ms)) (gM L tgs) (tM L W0 (ev Γ ek)) (tM L W0 (ev Γ ea)) vs σ H Q := by
  obtain ⟨ρ, S, env, R, er, hA⟩ := h
  refine ⟨ρ, S, env, R, er, ?_⟩
  unfold ev at hA
  have hA : AftV L ρ H σ W Q ((srcM Γ kk ms env S).bind fun s S1 => dcGo (fun e S => ev Γ ek e S) (fun e S => ev Γ ea e S) vs tgs s S1.length env s.items (S1 ++ [.dct 0 []])) := by
    rw [Res.bind_assoc]
    exact hA
  refine (Aft.split (Ru := YR L) hA).imp ?_
  rintro J H1 ⟨ρ1, S1, sr, p1, k1, R1, yr, h1⟩ D hD hds
  have k2 : Keep H1 (upd H1 D (DX D #[] 0)) := Keep.new hD
  have R2 : Rel L (ρ1 ++ [D]) (S1 ++ [.dct 0 []]) (upd H1 D (DX D #[] 0)) := R1.alloc hD ⟨#[], upd_same, hds, Nat.zero_le _, List.nodup_nil, rfl⟩
  have hD2 : (ρ1 ++ [D])[S1.length]? = some D := by rw [← R1.len, List.getElem?_append_right (Nat.le_refl _)]; simp
  generalize hcg : (fun e S => ev Γ ek e S) = cf at h1
  generalize heg : (fun e S => ev Γ ea e S) = ef at h1
  refine ⟨fun i m H => m = sr.items.length - i ∧ i ≤ sr.items.length ∧ ∃ ρ' S', (ρ1 ++ [D]) <+: ρ' ∧ Keep (upd H1 D (DX D #[] 0)) H ∧ Rel L ρ' S' H ∧ AftV L ρ' H σ W Q (dcGo cf ef vs tgs sr S1.length env (sr.items.drop i) S'), ⟨_, rfl, Nat.zero_le _, ρ1 ++ [D], _, List.prefix_refl _, Keep.refl _, R2, by
    rw [List.drop_zero]
    exact Aft.mono (List.prefix_append _ _) k2 h1⟩, ?_⟩
  rintro i m H3 ⟨rfl, hle, ρ3, S3, p3, k3, R3, h3⟩
  have pp : ρ1 <+: ρ3 := (List.prefix_append ρ1 [D]).trans p3
  have kk3 : Keep H1 H3 := k2.trans k3
  by_cases hlt : i < sr.items.length
  · rw [List.drop_eq_getElem_cons hlt] at h3
    unfold dcGo at h3
    obtain ⟨hok, h3⟩ := ite_true h3
    obtain ⟨hgo, hy⟩ := (yr ρ3 H3 S3 pp kk3 R3 hok i).2 _ (List.getElem?_eq_getElem hlt)
    refine .inr ⟨hgo, _, fun H' h' => ⟨sr.items.length - (i + 1), by omega, h'⟩, fun x H4 hy4 => ?_⟩
    obtain ⟨k4, R4, rx⟩ := hy x H4 hy4
    cases hs1 : setN tgs sr.items[i] (wipeE env vs) with
    | none => rw [hs1] at h3; exact h3.elim
    | some env1 =>
      rw [hs1] at h3
      have h3 := Aft.mono (List.prefix_refl _) k4 h3
      have er4 : ER L ρ3 H4 env σ := er.mono (p1.trans pp) (k1.trans (kk3.trans k4))
      refine ⟨ρ3, S3, _, _, env1, R4, er4.wipe hn _, rx, hs1, fun σ' er' hw => ⟨(hw _ hown).trans (wipe_wipe _ _), ρ3, S3, env1, R4, er', ?_⟩⟩
      have h3' : AftV L ρ3 H4 σ W Q ((cf env1 S3).calm.bind fun kv S1' => (ef env1 S1').calm.bind fun y S2 => addD S1.length kv y S2 fun S3 => dcGo cf ef vs tgs sr S1.length env (sr.items.drop (i + 1)) S3) := h3
      subst hcg heg
      refine (Aft.calm (σ' := σ') (Ru := VR L.K) h3').imp ?_
      rintro kv H5 ⟨ρ5, S5, key, p5, k5, R5, rk, h5⟩
      refine ⟨ρ5, S5, env1, R5, er'.mono p5 k5, (Aft.calm (Ru := VR L.K) h5).imp ?_⟩
      rintro y H6 ⟨ρ6, S6, v, p6, k6, R6, rv, h6⟩
      obtain ⟨ep, kvs, e6, hk6, hl6, h6⟩ := addD_set h6
      have hD6 : ρ6[S1.length]? = some D := pre_get ((p3.trans p5).trans p6) hD2
      obtain ⟨es, hH6, hds6, hz6, nd6, hr6⟩ := R6.at_ _ _ D e6 hD6
      have rk6 := rk.mono p6 k6
      have hl : kvs.length < sizeLine := by rw [← lineC_eq]; exact hl6
      refine ⟨ρ6, kvs, es, ep, key, hH6, by rw [hK, hXw]; exact hr6, nd6, hk6, by rw [hK]; exact rk6, hl, fun u r ru rr => ?_⟩
      obtain ⟨s1, s2⟩ := set_rel (ep := ep) R6 hD6 hds6 hl nd6 hr6 rk6 ru rv rr
      rw [hXw]
      refine ⟨fun j hj => ?_, fun hj => ?_⟩
      · have k7 := R6.keep (o := DX D (es.modify j fun e => { e with val := r }) ep) hD6
        exact ⟨rfl, hlt, ρ6, _, (p3.trans p5).trans p6, (k3.trans (k4.trans (k5.trans k6))).trans k7, s1 j hj, Aft.mono (List.prefix_refl _) k7 h6⟩
      · have k7 := R6.keep (o := DX D (es.push ⟨(nk key).hash L.w, u, r⟩) (ep + 1)) hD6
        exact ⟨rfl, hlt, ρ6, _, (p3.trans p5).trans p6, (k3.trans (k4.trans (k5.trans k6))).trans k7, s2 hj, Aft.mono (List.prefix_refl _) k7 h6⟩
  · have e : i = sr.items.length := by omega
    subst e
    rw [List.drop_length] at h3
    unfold dcGo at h3
    obtain ⟨hok, h3⟩ := ite_true h3
    refine .inl ⟨(yr ρ3 H3 S3 pp kk3 R3 hok _).1 rfl, Aft.now h3 R3 ⟨D, rfl, pre_get p3 hD2⟩⟩
/-- {k: v for tg in iter} -/
theorem m_dc {scope : Scope} {own : List (Str × Nat)} {tgs : List Nat} {kk : Nat} (G : Good X L Γ W k) (hN : X.N.Nodup) (hi : PI X tg iter (iM L W (srcM Γ kk ms))) (ok : BlkOk X.N X.env.scope scope own) (hown : ∀ i ∈ tgs, i ∈ own.map (·.2))
    (hg : InBlk X scope fun X' => PG X' tg (gM L tgs)) (hk : InBlk X scope fun X' => PE X' kx (tM L W0 (ev Γ ek))) (he : InBlk X scope fun X' => PE X' vx (tM L W0 (ev Γ ea))) (hs : ∀ x, foldedSetIterable iter X.env x = pure x := by intro _; rfl) (hc : X.calm = true := by rfl) :
    PE X (.DictComp kx vx [⟨tg, iter, [], 0⟩] scope pos) (tM L W (ev Γ (.dc (own.map (·.2)) tgs kk ms ek ea))) := PE.mono (pe_dcx (by have := G.hu; omega) hc hN hi ok hg hk he hs) (dc_read (G.nohx hc) G.hK G.hw hown)
theorem m_setDc {j : Nat} {y : Str} {py spos : Pos} {scope : Scope} {own : List (Str × Nat)} {tgs : List Nat} {kk : Nat} (G : Good X L Γ W k) (hN : X.N.Nodup) (hy : X.N[j]? = some y) (hyl : X.env.scope.names.lookup y = some .local)
    (hsw : swapsWith (.DictComp kx vx [⟨tg, iter, [], 0⟩] scope pos) (some (.Name y py)) spos.line X.env = pure true) (hi : PI X tg iter (iM L W (srcM Γ kk ms))) (ok : BlkOk X.N X.env.scope scope own) (hown : ∀ i ∈ tgs, i ∈ own.map (·.2))
    (hg : InBlk X scope fun X' => PG X' tg (gM L tgs)) (hk : InBlk X scope fun X' => PE X' kx (tM L W0 (ev Γ ek))) (he : InBlk X scope fun X' => PE X' vx (tM L W0 (ev Γ ea))) (hs : ∀ x, foldedSetIterable iter X.env x = pure x := by intro _; rfl) (hc : X.calm = true := by rfl) :
    PS X (.Assign [.Name y py] (.DictComp kx vx [⟨tg, iter, [], 0⟩] scope pos) spos) (tAsg (tM L W (ev Γ (.dc (own.map (·.2)) tgs kk ms ek ea))) (gName j)) := by
  refine ⟨fun pins s σ H D I h => ?_⟩
  have h := dc_read (X := X) (G.nohx hc) G.hK G.hw hown σ H _ h
  rw [exec_Assign_Name_used _ _ _ _ hsw]
  refine wpAny_bind (wpAny_standAt (wpAny_bind ?_))
  show wpAny _ X.A (do let _ ← comprehension (.DictComp kx vx [⟨tg, iter, [], 0⟩] scope pos) scope X.env (firstIterPos [⟨tg, iter, [], 0⟩] pos) newDict false (eval iter X.env) (some (assign (.Name y py) X.env))) _ _ s
  refine wpAny_bind (thn (dcx_core (Qf := fun _ s' => SP X pins D .next s') (by have := G.hu; omega) hc hN I hi ok hg hk he hs h fun B C s' m H' I' q hn f => ?_) fun _ s' hq => wpAny_pure (wpAny_pure hq))
  show wpAny _ _ (assign (.Name y py) X.env (.ref B)) _ _ _
  refine wpAny_assign_Name (store_ok2 (v := V.ref B) I' hN hy (.inl hyl) rfl (fun s2 I2 ⟨a, sb, ha⟩ => ?_) (.inr hyl))
  obtain ⟨f0, f1, f2, f3, f4, f5⟩ := f
  have haC : C ≠ a := by
    rcases ha with z | z
    · rw [z]; exact f1
    · exact fun e => f4 y a z e.symm
  refine ⟨m, hn.sameBut sb haC, fun h3 sb3 => ?_⟩
  exact ⟨_, H', I2.turned (t' := s2.toks) (fun b o hb e => (sb3.2 b hb).trans e) f0 f1 f3 f4 f5, q⟩
end
end C
end
section
set_option Elab.async false
set_option linter.all false
set_option maxRecDepth 100000
set_option maxHeartbeats 1000000
/-! C12: statements. -/
namespace C
open PySem PySem.Spec L2 ItX
open PyProof.Rows hiding St

/-- behind a statement -/
def AftF (L : Lk) (ρ : List Addr) (H : Hp) (W : WX) (D : Ends) : Fl → Prop
  | .nx env S => ∀ (ρ' : List Addr) (H' : Hp) (σ' : St), ρ <+: ρ' → Keep H H' → Rel L ρ' S H' → ER L ρ' H' env σ' → D.nx σ' H'
  | .rt v S => ∀ (ρ' : List Addr) (H' : Hp) (x : V), ρ <+: ρ' → Keep H H' → Rel L ρ' S H' → VR L.K ρ' H' v x → D.rt x H'
  | .bk env S => ∀ (ρ' : List Addr) (H' : Hp) (σ' : St), ρ <+: ρ' → Keep H H' → Rel L ρ' S H' → ER L ρ' H' env σ' → D.bk σ' H'
  | .exc c fs env S => ∀ (ρ' : List Addr) (H' : Hp) (σ' : St) (cls : Value) (d : Option Addr), ρ <+: ρ' → Keep H H' → Rel L ρ' S H' → ER L ρ' H' env σ' → ExR L ρ' H' c fs cls d → W cls d σ' H'
  | .bad => False
/-- the reading of a statement that means m -/
def tS (L : Lk) (W : WX) (m : Env → Store → Fl) : TS := fun D σ H => ∃ ρ S env, Rel L ρ S H ∧ ER L ρ H env σ ∧ AftF L ρ H W D (m env S)

section
variable {L : Lk} {ρ ρ1 : List Addr} {H H1 : Hp} {σ : St} {W : WX} {D D' : Ends} {α β : Type} {Rv : List Addr → Hp → α → β → Prop}
theorem AftF.mono {r : Fl} (p : ρ <+: ρ1) (k : Keep H H1) (h : AftF L ρ H W D r) : AftF L ρ1 H1 W D r := by
  cases r with
  | nx env S => exact fun ρ' H' x p' k' R r => h ρ' H' x (p.trans p') (k.trans k') R r
  | rt v S => exact fun ρ' H' x p' k' R r => h ρ' H' x (p.trans p') (k.trans k') R r
  | bk env S => exact fun ρ' H' x p' k' R r => h ρ' H' x (p.trans p') (k.trans k') R r
  | exc c fs env S => exact fun ρ' H' x cl d p' k' R e r => h ρ' H' x cl d (p.trans p') (k.trans k') R e r
  | bad => exact h
theorem AftF.nx {env : Env} {S : Store} (h : AftF L ρ H W D (.nx env S)) (R : Rel L ρ S H) (er : ER L ρ H env σ) : D.nx σ H := h ρ H σ (List.prefix_refl _) (Keep.refl H) R er
theorem AftF.rt {v : Val} {S : Store} {x : V} (h : AftF L ρ H W D (.rt v S)) (R : Rel L ρ S H) (r : VR L.K ρ H v x) : D.rt x H := h ρ H x (List.prefix_refl _) (Keep.refl H) R r
theorem AftF.bk {env : Env} {S : Store} (h : AftF L ρ H W D (.bk env S)) (R : Rel L ρ S H) (er : ER L ρ H env σ) : D.bk σ H := h ρ H σ (List.prefix_refl _) (Keep.refl H) R er
/-- a value first -/
theorem AftF.fl {r : Res α} {env : Env} {f : α → Store → Fl} (er : ER L ρ H env σ) (h : AftF L ρ H W D (r.fl env f)) :
    Aft L ρ H σ W Rv (fun (x : β) H1 => ∃ ρ1 S1 v, ρ <+: ρ1 ∧ Keep H H1 ∧ Rel L ρ1 S1 H1 ∧ Rv ρ1 H1 v x ∧ AftF L ρ1 H1 W D (f v S1)) r := by
  cases r with
  | ok v S => exact fun ρ' H' x p k R r => ⟨ρ', S, v, p, k, R, r, AftF.mono p k h⟩
  | exc c fs S => exact fun ρ' H' cl d p k R e => h ρ' H' σ cl d p k R (er.mono p k) e
  | bad => exact h
theorem AftF.flB {r : Res Val} {env : Env} {f g : Store → Fl} (er : ER L ρ H env σ) (h : AftF L ρ H W D (r.flB env f g)) :
    Aft L ρ H σ W BR (fun b H1 => ∃ ρ1 S1, ρ <+: ρ1 ∧ Keep H H1 ∧ Rel L ρ1 S1 H1 ∧ AftF L ρ1 H1 W D (if b = true then f S1 else g S1)) (toB r) := by
  cases r with
  | ok v S =>
    cases v with
    | bl b =>
      rintro ρ' H' x p k R rfl
      refine ⟨ρ', S, p, k, R, AftF.mono p k ?_⟩
      cases b <;> exact h
    | _ => exact h.elim
  | exc c fs S => exact fun ρ' H' cl d p k R e => h ρ' H' σ cl d p k R (er.mono p k) e
  | bad => exact h
/-- the ends of the first of two statements -/
theorem AftF.seq {r : Fl} {f : Env → Store → Fl} {D2 : Ends} (h : AftF L ρ H W D (r.seq f)) (hrt : D2.rt = D.rt) (hbk : D2.bk = D.bk)
    (hn : ∀ (ρ' : List Addr) (H' : Hp) (σ' : St) (env : Env) (S : Store), ρ <+: ρ' → Keep H H' → Rel L ρ' S H' → ER L ρ' H' env σ' → AftF L ρ' H' W D (f env S) → D2.nx σ' H') : AftF L ρ H W D2 r := by
  cases r with
  | nx env S => exact fun ρ' H' x p k R r => hn ρ' H' x env S p k R r (AftF.mono p k h)
  | rt v S => exact fun ρ' H' x p k R r => by rw [hrt]; exact h ρ' H' x p k R r
  | bk env S => exact fun ρ' H' x p k R r => by rw [hbk]; exact h ρ' H' x p k R r
  | exc c fs env S => exact h
  | bad => exact h
/-- a turn's ends -/
theorem AftF.turn {r : Fl} {f : Env → Store → Fl} {D2 : Ends} (h : AftF L ρ H W D (r.turn f)) (hrt : D2.rt = D.rt) (hbk : D2.bk = D.nx)
    (hn : ∀ (ρ' : List Addr) (H' : Hp) (σ' : St) (env : Env) (S : Store), ρ <+: ρ' → Keep H H' → Rel L ρ' S H' → ER L ρ' H' env σ' → AftF L ρ' H' W D (f env S) → D2.nx σ' H') : AftF L ρ H W D2 r := by
  cases r with
  | nx env S => exact fun ρ' H' x p k R r => hn ρ' H' x env S p k R r (AftF.mono p k h)
  | rt v S => exact fun ρ' H' x p k R r => by rw [hrt]; exact h ρ' H' x p k R r
  | bk env S => exact fun ρ' H' x p k R r => by rw [hbk]; exact h ρ' H' x p k R r
  | exc c fs env S => exact h
  | bad => exact h
end

section
variable {X : L2.Cx} {L : Lk} {W : WX} {Γ : Cx} {k : Nat} {a b c e o i tg iter : Expr} {es : List Expr} {ea eb ec : E} {ms : List E} {sa sb : S} {as bs : List S} {st : Stmt} {sts bts : List Stmt} {pos p apos cpos : Pos} {x : Str}
theorem s_nil : PSs X [] (tS L W (exs Γ [])) := by
  refine PSs.mono pss_nil fun D σ H ⟨ρ, S, env, R, er, h⟩ => ?_
  unfold exs at h
  exact AftF.nx h R er
theorem s_cons (h1 : PS X st (tS L W (ex Γ sa))) (h2 : PSs X sts (tS L W (exs Γ as))) : PSs X (st :: sts) (tS L W (exs Γ (sa :: as))) := by
  refine PSs.mono (pss_cons h1 h2) fun D σ H ⟨ρ, S, env, R, er, h⟩ => ⟨ρ, S, env, R, er, ?_⟩
  unfold exs at h
  exact AftF.seq (D2 := { D with nx := tS L W (exs Γ as) D }) h rfl rfl fun ρ' H' σ' env' S' p k R' er' h' => ⟨ρ', S', env', R', er', h'⟩
theorem s_pass : PS X (.Pass pos) (tS L W (ex Γ .pass)) := by
  refine PS.mono ps_pass fun D σ H ⟨ρ, S, env, R, er, h⟩ => ?_
  unfold ex at h
  exact AftF.nx h R er
theorem s_brk : PS X (.Break pos) (tS L W (ex Γ .brk)) := by
  refine PS.mono ps_break fun D σ H ⟨ρ, S, env, R, er, h⟩ => ?_
  unfold ex at h
  exact AftF.bk h R er
theorem s_expr (he : PE X e (tM L W (ev Γ ea))) (hs : swapsWith e none pos.line X.env = pure false := by rfl) : PS X (.Expr e pos) (tS L W (ex Γ (.expr ea))) := by
  refine PS.mono (ps_expr he hs) fun D σ H ⟨ρ, S, env, R, er, h⟩ => ⟨ρ, S, env, R, er, ?_⟩
  unfold ex at h
  refine (AftF.fl (Rv := VR L.K) er h).imp ?_
  rintro x H1 ⟨ρ1, S1, v, p, k, R1, r, h1⟩
  exact AftF.nx h1 R1 (er.mono p k)
theorem s_ret (he : PE X e (tM L W (ev Γ ea))) : PS X (.Return (some e) pos) (tS L W (ex Γ (.ret ea))) := by
  refine PS.mono (ps_ret he) fun D σ H ⟨ρ, S, env, R, er, h⟩ => ⟨ρ, S, env, R, er, ?_⟩
  unfold ex at h
  refine (AftF.fl (Rv := VR L.K) er h).imp ?_
  rintro x H1 ⟨ρ1, S1, v, p, k, R1, r, h1⟩
  exact AftF.rt h1 R1 r
theorem s_retN : PS X (.Return none pos) (tS L W (ex Γ .retN)) := by
  refine PS.mono ps_retN fun D σ H ⟨ρ, S, env, R, er, h⟩ => ?_
  unfold ex at h
  exact AftF.rt h R rfl
theorem s_if (hc : PT X c (tMT L W (ev Γ ec))) (ha : PSs X sts (tS L W (exs Γ as))) (hb : PSs X bts (tS L W (exs Γ bs))) : PS X (.If c sts bts pos) (tS L W (ex Γ (.ifs ec as bs))) := by
  refine PS.mono (ps_if hc ha hb) fun D σ H ⟨ρ, S, env, R, er, h⟩ => ⟨ρ, S, env, R, er, ?_⟩
  unfold ex at h
  refine (AftF.flB er h).imp ?_
  rintro bb H1 ⟨ρ1, S1, p, k, R1, h1⟩
  cases bb with
  | true => exact ⟨ρ1, S1, env, R1, er.mono p k, h1⟩
  | false => exact ⟨ρ1, S1, env, R1, er.mono p k, h1⟩
/-- name = e -/
theorem s_asg {j : Nat} (h : ∀ {te : TE}, PE X e te → PS X st (tAsg te (gName j))) (he : PE X e (tM L W (ev Γ ea))) : PS X st (tS L W (ex Γ (.asg j ea))) := by
  refine PS.mono (h he) fun D σ H ⟨ρ, S, env, R, er, h⟩ => ⟨ρ, S, env, R, er, ?_⟩
  unfold ex at h
  refine (AftF.fl (Rv := VR L.K) er h).imp ?_
  rintro x H1 ⟨ρ1, S1, v, p, k, R1, r, h1⟩
  exact AftF.nx h1 R1 ((er.mono p k).set r)
/-- (a, b) = e -/
theorem s_asgT {is : List Nat} (he : PE X e (tM L W (ev Γ ea))) (hg : PG X tg (gM L is)) (hs : swapsWithSole [tg] e pos.line X.env = pure false := by rfl) (hw : swappedStores [tg] e X.env = pure none := by rfl)
    (h1 : (assignEach [tg] X.env).map (·.2) = [assign tg X.env] := by rfl) : PS X (.Assign [tg] e pos) (tS L W (ex Γ (.asgT is ea))) := by
  refine PS.mono (ps_asg he hg hs hw h1) fun D σ H ⟨ρ, S, env, R, er, h⟩ => ⟨ρ, S, env, R, er, ?_⟩
  unfold ex at h
  refine (AftF.fl (Rv := VR L.K) er h).imp ?_
  rintro x H1 ⟨ρ1, S1, v, p, k, R1, r, h1⟩
  cases hs : setN is v env with
  | none => rw [hs] at h1; exact h1.elim
  | some env1 =>
    rw [hs] at h1
    exact ⟨ρ1, S1, env, v, env1, R1, er.mono p k, r, hs, fun σ' er' _ => AftF.nx h1 R1 er'⟩
/-- o.f = e -/
theorem s_fld {f : Nat} {nm : Str} {pos' : Pos} (G : Good X L Γ W k) (hn : L.names[f]? = some nm) (ho : PE X o (tM L W (ev Γ eb))) (he : PE X e (tM L W (ev Γ ea))) (hs : swapsWith e (some (.Attribute o nm pos')) pos.line X.env = pure false := by rfl) :
    PS X (.Assign [.Attribute o nm pos'] e pos) (tS L W (ex Γ (.setF eb f ea))) := by
  refine PS.mono (ps_fld ho he hs) fun D σ H ⟨ρ, S, env, R, er, h⟩ => ⟨ρ, S, env, R, er, ?_⟩
  unfold ex at h
  refine (AftF.fl (Rv := VR L.K) er h).imp ?_
  rintro y H1 ⟨ρ1, S1, v, p1, k1, R1, rv, h1⟩
  refine ⟨ρ1, S1, env, R1, er.mono p1 k1, (AftF.fl (Rv := VR L.K) (er.mono p1 k1) h1).imp ?_⟩
  rintro q H2 ⟨ρ2, S2, z, p2, k2, R2, rz, h2⟩
  cases hs : setFV Γ z f v S2 with
  | none => rw [hs] at h2; exact h2.elim
  | some S3 =>
    rw [hs] at h2
    have h2 : AftF L ρ2 H2 W D (.nx env S3) := h2
    unfold setFV at hs
    cases z with
    | loc n =>
      simp only at hs
      cases hob : objAt S2 n with
      | none => rw [hob] at hs; cases hs
      | some pr =>
        obtain ⟨cc, fs⟩ := pr
        rw [hob] at hs
        simp only at hs
        obtain ⟨q', Ca, dx, gs, ci, rfl, hq, h0, hH, hF, hc, hfs⟩ := rz.obj R2 (objAt_some hob)
        rw [G.hT, hc] at hs
        simp only at hs
        split at hs
        · rename_i hcond
          cases hs
          simp only [Bool.and_eq_true, decide_eq_true_eq, List.contains_iff_mem] at hcond
          obtain ⟨C', hC, cl, _, _, hno, _⟩ := G.link.cls cc ci hc
          rw [h0] at hC; cases hC
          obtain ⟨nm', hn', no⟩ := hno f hcond.1
          rw [hn] at hn'; cases hn'
          have kk := R2.keep (o := .ins Ca dx (putF nm y gs)) hq
          have rv2 := rv.mono p2 k2
          refine ⟨q', Ca, dx, gs, rfl, hH, by rw [G.hK]; exact cl, by rw [G.hK]; exact no, by rw [← hF.length]; omega, ?_⟩
          have h3 := AftF.mono (List.prefix_refl _) kk h2
          refine AftF.nx h3 (R2.set hq ⟨Ca, dx, _, ci, h0, upd_same, (FR.put G.link.nd hn rv2 hF).mono (List.prefix_refl _) kk, hc, ?_⟩) (((er.mono p1 k1).mono p2 k2).mono (List.prefix_refl _) kk)
          have mem : ∀ (l : List (Nat × Val)) (pr : Nat × Val), pr ∈ C.put f v l → pr.1 = f ∨ ∃ q ∈ l, q.1 = pr.1 := by
            intro l
            induction l with
            | nil =>
              intro pr hp
              simp only [C.put, List.mem_singleton] at hp
              exact .inl (by rw [hp])
            | cons g l ih =>
              intro pr hp
              obtain ⟨g1, g2⟩ := g
              by_cases hg : g1 = f
              · simp only [C.put, if_pos hg] at hp
                rcases List.mem_cons.mp hp with z | z
                · exact .inl (by rw [z]; exact hg)
                · exact .inr ⟨pr, List.mem_cons_of_mem _ z, rfl⟩
              · simp only [C.put, if_neg hg] at hp
                rcases List.mem_cons.mp hp with z | z
                · exact .inr ⟨_, List.mem_cons_self, by rw [z]⟩
                · rcases ih pr z with z | ⟨q, hq, e⟩
                  · exact .inl z
                  · exact .inr ⟨q, List.mem_cons_of_mem _ hq, e⟩
          intro pr hp
          rcases mem fs pr hp with z | ⟨q, hq, e⟩
          · rw [z]; exact hcond.1
          · rw [← e]; exact hfs q hq
        · cases hs
    | _ => cases hs
/-- for .. in .. -/
theorem s_for {tgs : List Nat} {kk : Nat} (hc : X.calm = true) (hp : PassesOwn (model X.prog X.w) X.A X.env X.xe) (hi : PI X tg iter (iM L W (srcM Γ kk ms))) (hg : PG X tg (gM L tgs)) (hb : PSs X sts (tS L W (exs Γ as))) (hs : ∀ x, foldedSetIterable iter X.env x = pure x := by intro _; rfl) :
    PS X (.For tg iter sts [] pos) (tS L W (ex Γ (.for_ tgs kk ms as))) := by
  refine PS.mono (ps_for hp hc hi hg hb hs) fun D σ H ⟨ρ, S, env, R, er, h⟩ => ⟨ρ, S, env, R, er, ?_⟩
  unfold ex at h
  refine (AftF.fl (Rv := YR L) er h).imp ?_
  rintro J H1 ⟨ρ1, S1, sr, p1, k1, R1, yr, h1⟩
  refine ⟨fun i m σ H => m = sr.items.length - i ∧ i ≤ sr.items.length ∧ ∃ ρ' S' env', ρ1 <+: ρ' ∧ Keep H1 H ∧ Rel L ρ' S' H ∧ ER L ρ' H env' σ ∧ AftF L ρ' H W D (forGo (fun e S => exs Γ as e S) tgs sr (sr.items.drop i) env' S'),
    ⟨_, rfl, Nat.zero_le _, ρ1, S1, env, List.prefix_refl _, Keep.refl _, R1, er.mono p1 k1, by rw [List.drop_zero]; exact h1⟩, ?_⟩
  rintro i m σ3 H3 ⟨rfl, hle, ρ3, S3, env3, p3, k3, R3, er3, h3⟩
  by_cases hlt : i < sr.items.length
  · rw [List.drop_eq_getElem_cons hlt] at h3
    unfold forGo at h3
    split at h3
    · rename_i hok
      obtain ⟨hgo, hy⟩ := (yr ρ3 H3 S3 p3 k3 R3 hok i).2 _ (List.getElem?_eq_getElem hlt)
      refine .inr ⟨hgo, _, fun σ' H' h' => ⟨sr.items.length - (i + 1), by omega, h'⟩, fun x H4 hy4 => ?_⟩
      obtain ⟨k4, R4, rx⟩ := hy x H4 hy4
      cases hs1 : setN tgs sr.items[i] env3 with
      | none => rw [hs1] at h3; exact h3.elim
      | some env1 =>
        rw [hs1] at h3
        have h3 := AftF.mono (List.prefix_refl _) k4 h3
        refine ⟨ρ3, S3, env3, _, env1, R4, er3.mono (List.prefix_refl _) k4, rx, hs1, fun σ' er' _ => ⟨ρ3, S3, env1, R4, er', ?_⟩⟩
        refine AftF.turn h3 rfl rfl fun ρ5 H5 σ5 env5 S5 p5 k5 R5 er5 h5 => ?_
        exact ⟨rfl, hlt, ρ5, S5, env5, p3.trans p5, k3.trans (k4.trans k5), R5, er5, h5⟩
    · exact h3.elim
  · have e : i = sr.items.length := by omega
    subst e
    rw [List.drop_length] at h3
    unfold forGo at h3
    split at h3
    · rename_i hok
      exact .inl ⟨(yr ρ3 H3 S3 p3 k3 R3 hok _).1 rfl, AftF.nx h3 R3 er3⟩
    · exact h3.elim
/-- while -/
theorem s_while (hp : PassesOwn (model X.prog X.w) X.A X.env X.xe) (hc : PT X c (tMT L W (ev Γ ec))) (hb : PSs X sts (tS L W (exs Γ as))) : PS X (.While c sts [] pos) (tS L W (ex Γ (.while_ ec as))) := by
  refine PS.mono (ps_while hp hc hb) fun D σ H ⟨ρ, S, env, R, er, h⟩ => ?_
  unfold ex at h
  refine ⟨fun m σ H => ∃ ρ' S' env', Rel L ρ' S' H ∧ ER L ρ' H env' σ ∧ AftF L ρ' H W D (whileGo (fun e S => ev Γ ec e S) (fun e S => exs Γ as e S) m env' S'), ⟨_, ρ, S, env, R, er, h⟩, ?_⟩
  rintro m σ3 H3 ⟨ρ3, S3, env3, R3, er3, h3⟩
  cases m with
  | zero => exact h3.elim
  | succ m =>
    unfold whileGo at h3
    refine ⟨ρ3, S3, env3, R3, er3, (AftF.flB er3 h3).imp ?_⟩
    rintro bb H4 ⟨ρ4, S4, p4, k4, R4, h4⟩
    cases bb with
    | true =>
      rw [if_pos rfl] at h4 ⊢
      refine ⟨_, fun σ' H' h' => ⟨m, Nat.lt_succ_self m, h'⟩, ρ4, S4, env3, R4, er3.mono p4 k4, ?_⟩
      exact AftF.turn h4 rfl rfl fun ρ5 H5 σ5 env5 S5 p5 k5 R5 er5 h5 => ⟨ρ5, S5, env5, R5, er5, h5⟩
    | false =>
      rw [if_neg Bool.false_ne_true] at h4 ⊢
      exact AftF.nx h4 R4 (er3.mono p4 k4)
end
end C
end
section
set_option Elab.async false
set_option linter.all false
set_option maxRecDepth 100000
set_option maxHeartbeats 1000000
/-! C13: o[i] = e, op=; every def keeps its promise. -/
namespace C
open PySem PySem.Spec L2 ItX
open PyProof.Rows hiding St

section
variable {X : L2.Cx} {L : Lk} {W : WX} {Γ : Cx} {k : Nat} {a b c e o i tg iter : Expr} {es : List Expr} {ea eb ec : E} {ms : List E} {sa sb : S} {as bs : List S} {st : Stmt} {sts bts : List Stmt} {pos p apos cpos pos' : Pos} {x : Str}
theorem setItem_raw {A : Around} {E : Value → Shared → Prop} {d : Addr} {es : Array DictEntry} {ep : Nat} {kvs : List (Val × Val)} {key : Val} {u v : Value} {s : Shared} {Q : Unit → Shared → Prop} (hu : A.units + 9 < cLine) (D : DAt X s d es ep kvs key u) (nd : (kvs.map (·.1)).Nodup) (hk : keyOk key kvs = true)
    (hz : es.size ≤ sizeLine)
    (h1 : ∀ i, (kvs.findIdx? fun p => decide (p.1 = key)) = some i → ∀ h' tk o, Heap.SameBut d s.heap h' → h'.get? d = some o → o.ExactDict → o.data = .dict (es.modify i fun e => { e with val := v }) ep → Q () { s with heap := h', toks := tk })
    (h2 : (kvs.findIdx? fun p => decide (p.1 = key)) = none → ∀ h' tk o, Heap.SameBut d s.heap h' → h'.get? d = some o → o.ExactDict → o.data = .dict (es.push ⟨(nk key).hash X.w, u, v⟩) (ep + 1) → Q () { s with heap := h', toks := tk }) :
    wpAny (model X.prog X.w) A (setItem (.ref d) u v) Q E s := by
  obtain ⟨o, ho, hc, hd⟩ := D.ob
  have hT := dx_type ho hc
  unfold setItem
  refine wpAny_holding ?_
  refine wpAny_bind (wpAny_sequenceKey hT (by decide) ?_)
  refine wpAny_bind (wpAny_callSpecial?_slot (name := Str.ofString "__setitem__") hT PySem.F.slot_dict_setitem
    (wpAny_call_entry PySem.F.slot_dict_setitem hT PySem.F.entry_dict_setitem ?_ (PySem.F.args_dict_setitem_3 _ _ _)))
  show wpAny _ _ (Builtin.Dict.notOrdered "__setitem__" ⟨[.ref d, u, v], []⟩ >>= _) _ _ s
  refine wpAny_bind (wpAny_notOrdered_dict hT ?_)
  show wpAny _ _ (dictSet d u v >>= _) _ _ s
  exact wpAny_bind (set_raw (by show A.units + 1 + 8 < _; omega) D nd hk hz (fun i hi h' tk o sb e c dd => wpAny_pure ⟨.none, rfl, wpAny_pure (h1 i hi h' tk o sb e c dd)⟩) fun hi h' tk o sb e c dd => wpAny_pure ⟨.none, rfl, wpAny_pure (h2 hi h' tk o sb e c dd)⟩)
/-- o[i] = e on an instance -/
def OwnSet (X : L2.Cx) (L : Lk) (W : WX) (Γ : Cx) : Prop :=
  ∀ (pins : List (Addr × Obj)) (s : Shared) (σ : St) (H : Hp) (ρ : List Addr) (S : Store) (n : Nat) (vi vv : Val) (y yi yv : V) (ov iv u : Value) (Q : Hp → Prop), Inv X pins σ H s → Rel L ρ S H → VR L.K ρ H (.loc n) y → VR L.K ρ H vi yi → VR L.K ρ H vv yv → RelV y ov → RelV yi iv → RelV yv u →
    (∃ c fs, S[n]? = some (.obj c fs)) → Aft L ρ H σ W (fun _ _ (_ : Unit) (_ : Unit) => True) (fun _ H' => Q H') (setIV Γ (.loc n) vi vv S) → wpAny (model X.prog X.w) X.A (setItem ov iv u) (fun _ s' => ∃ H', Inv X pins σ H' s' ∧ Q H') X.xe s
def setT (L : Lk) (W : WX) (Γ : Cx) (σ : St) : TSet := fun o i v H Q => ∃ ρ S x y z, Rel L ρ S H ∧ VR L.K ρ H x o ∧ VR L.K ρ H y i ∧ VR L.K ρ H z v ∧ Aft L ρ H σ W (fun _ _ (_ : Unit) (_ : Unit) => True) (fun _ H' => Q H') (setIV Γ x y z S)
/-- pg_sub, the context's names known -/
theorem s_setI (G : Good X L Γ W k) (ow : OwnSet X L W Γ) (ho : PE X o (tM L W (ev Γ ea))) (hi : PE X i (tM L W (ev Γ eb))) (he : PE X e (tM L W (ev Γ ec)))
    (ha : ∀ v, assign (.Subscript o i pos') X.env v = (do
      let ov ← holding [v] (eval o X.env)
      let iv ← holding [v, ov] (eval i X.env)
      standAt pos'
      holding [v, ov, iv] (setItem ov iv v)
      release [v, ov, iv] []) := by intro _; rfl) (hs : swapsWithSole [.Subscript o i pos'] e pos.line X.env = pure false := by rfl) (hw : swappedStores [.Subscript o i pos'] e X.env = pure none := by rfl)
    (h1 : (assignEach [.Subscript o i pos'] X.env).map (·.2) = [assign (.Subscript o i pos') X.env] := by rfl) :
    PS X (.Assign [.Subscript o i pos'] e pos) (tS L W (ex Γ (.setI ea eb ec))) := by
  refine ⟨fun pins s σ H D I ⟨ρ, S, env, R, er, h⟩ => ?_⟩
  unfold ex at h
  refine wpAny_Assign_stores (thn (he.run pins s σ H _ I ⟨ρ, S, env, R, er, AftF.fl (Rv := VR L.K) er h⟩) fun u s1 ⟨yv, H1, I1, ru, ρ1, S1, vv, p1, k1, R1, rv, hA1⟩ => ?_) hs hw
  rw [h1]
  have er1 := er.mono p1 k1
  show wpAny _ _ (assign (.Subscript o i pos') X.env u) _ _ _
  rw [ha]
  refine wpAny_bind (wpAny_holding (thn (ho.run pins s1 σ H1 _ I1 ⟨ρ1, S1, env, R1, er1, AftF.fl (Rv := VR L.K) er1 hA1⟩) fun ov s2 ⟨y, H2, I2, ro, ρ2, S2, vo, p2, k2, R2, rvo, hA2⟩ => ?_))
  have er2 := er1.mono p2 k2
  refine wpAny_bind (wpAny_holding (thn (hi.run pins s2 σ H2 _ I2 ⟨ρ2, S2, env, R2, er2, AftF.fl (Rv := VR L.K) er2 hA2⟩) fun iv s3 ⟨yi, H3, I3, ri, ρ3, S3, vi, p3, k3, R3, rvi, hA3⟩ => ?_))
  have er3 := er2.mono p3 k3
  have rvo3 := rvo.mono p3 k3
  have rv3 := (rv.mono p2 k2).mono p3 k3
  have hB := AftF.fl (Rv := fun _ _ (_ : Unit) (_ : Unit) => True) er3 hA3
  have fin : wpAny (model X.prog X.w) X.A (setItem ov iv u) (fun _ s' => ∃ H', Inv X pins σ H' s' ∧ ∃ ρ4 S4, ρ3 <+: ρ4 ∧ Keep H3 H' ∧ Rel L ρ4 S4 H' ∧ AftF L ρ4 H' W D (.nx env S4)) X.xe s3 := by
    have hC : Aft L ρ3 H3 σ W (fun _ _ (_ : Unit) (_ : Unit) => True) (fun _ H' => ∃ ρ4 S4, ρ3 <+: ρ4 ∧ Keep H3 H' ∧ Rel L ρ4 S4 H' ∧ AftF L ρ4 H' W D (.nx env S4)) (setIV Γ vo vi vv S3) := hB.imp fun _ H' ⟨ρ4, S4, _, p4, k4, R4, _, h4⟩ => ⟨ρ4, S4, p4, k4, R4, h4⟩
    cases vo with
    | loc n =>
      cases ec : S3[n]? with
      | none => unfold setIV at hC; simp only [ec] at hC; exact hC.elim
      | some cl =>
        cases cl with
        | lst xs =>
          unfold setIV at hC
          simp only [ec] at hC
          cases vi with
          | int j =>
            simp only at hC
            by_cases hj : (decide (0 ≤ j) && decide (j < xs.length)) = true
            · rw [if_pos hj] at hC
              simp only [Bool.and_eq_true, decide_eq_true_eq] at hj
              cases rvi
              obtain ⟨q, ys, rfl, hn, hq, hr⟩ := rvo3.lst R3 ec
              have hl := hr.length
              have hx : ixN ys.length j = some j.toNat := by
                unfold ixN
                rw [← hl, if_pos hj.1, if_pos (by omega)]
              refine thn (set_list pins s3 σ H3 (.ref q) (.int j) yv ov iv u _ I3 ro ri ru ⟨q, ys, j, j.toNat, rfl, rfl, hq, hx, ?_⟩) fun _ s4 h => h
              have kk := R3.keep (o := .lst (ys.set j.toNat yv)) hn
              exact hC ρ3 _ () (List.prefix_refl _) kk (R3.set (c := .lst (xs.set j.toNat vv)) hn ⟨_, upd_same, (hr.set rv3 j.toNat).mono (List.prefix_refl _) kk⟩) trivial
            · rw [if_neg hj] at hC
              exact hC.elim
          | _ => exact hC.elim
        | dct ep kvs =>
          unfold setIV at hC
          simp only [ec] at hC
          by_cases hk : (keyOk vi kvs && decide (kvs.length < lineC)) = true
          · rw [if_pos hk] at hC
            simp only [Bool.and_eq_true, decide_eq_true_eq] at hk
            obtain ⟨d, des, rfl, hn, hd, hds, hz, nd, hr⟩ := rvo3.dct R3 ec
            cases (show ov = Value.ref d from ro)
            have DA := dAt_of G.hK G.hw I3 hd hr hk.1 rvi ri
            have hl : des.size = kvs.length := by rw [hr.length]; simp
            have hz2 : kvs.length < sizeLine := by rw [← lineC_eq]; exact hk.2
            obtain ⟨r1, r2⟩ := set_rel (ep := ep) R3 hn hds hz2 nd hr rvi ri rv3 ru
            refine setItem_raw (by have := G.hu; omega) DA nd hk.1 (by omega) (fun j hj h' tk o sb e c dd => ?_) fun hj h' tk o sb e c dd => ?_
            · exact ⟨_, Inv.dset I3 hd sb e c dd, hC ρ3 _ () (List.prefix_refl _) (R3.keep hn) (r1 j hj) trivial⟩
            · exact ⟨_, Inv.dset I3 hd sb e c dd, hC ρ3 _ () (List.prefix_refl _) (R3.keep hn) (by rw [G.hw]; exact r2 hj) trivial⟩
          · rw [if_neg hk] at hC
            exact hC.elim
        | obj cc fs => exact ow pins s3 σ H3 ρ3 S3 n vi vv y yi yv ov iv u _ I3 R3 rvo3 rvi rv3 ro ri ru ⟨cc, fs, ec⟩ hC
    | _ => exact hC.elim
  refine wpAny_bind (wpAny_standAt (wpAny_bind (wpAny_holding (thn fin fun _ s4 ⟨H4, I4, ρ4, S4, p4, k4, R4, h4⟩ => ?_))))
  exact wpAny_release ⟨σ, H4, I4, AftF.nx h4 R4 (er3.mono p4 k4)⟩
end

/-! ### every def -/
theorem res_aft {L : Lk} {ρ : List Addr} {H : Hp} {σ : St} {E : XK} {Q : VK} {r : Fl} (h : Aft L ρ H σ (fun cls d _ H' => E cls d H') (VR L.K) Q r.res) : AftF L ρ H (fun cls d _ H' => E cls d H') { nx := fun _ H' => Q .non H', rt := Q } r := by
  cases r with
  | nx env S => exact fun ρ' H' σ' p k R _ => h ρ' H' .non p k R rfl
  | rt v S => exact h
  | bk env S => exact h.elim
  | exc c fs env S => exact fun ρ' H' σ' cl d p k R _ e => h ρ' H' cl d p k R e
  | bad => exact h.elim
/-- the context of a def's body -/
abbrev XB (L : Lk) (base : Heap) (N : List Str) (qual : Str) (st : Stmt) (f : Addr) (cdv : Value) (A : Around) (outer : List PySem.Env) (s : Shared) (H : Hp) (E : XK) : L2.Cx :=
  cxOf (L2.CX L.P L.w) L.P L.w L.K L.mg base N qual (defScope st) f cdv A outer s H E
/-- a def without defaults -/
theorem Fun.toD {K : PySem.W.Frag} {x qual : Str} {st : Stmt} {f : Addr} {fd : FuncData} (F : Fun K x qual st f fd) : FunD K x qual (defArgs st) (defBody st) (defScope st) [] [] f fd := by
  obtain ⟨oc, od, kV, doc, pm, an, cdv, ct, osl, e, lk, hcd⟩ := F.ex
  exact ⟨⟨oc, od, .none, kV, doc, pm, an, cdv, ct, osl, e, lk, hcd, .inl ⟨rfl, rfl⟩, .inl rfl⟩, F.kp⟩
/-- what is to be shown of a def -/
structure DefOk (L : Lk) (base : Heap) (f : Nat) (d : Def) : Prop where
  ex : ∃ (x qual : Str) (st : Stmt) (N : List Str) (dvs : List V), FunD L.K x qual (defArgs st) (defBody st) (defScope st) dvs [] (L.fn f).a (L.fn f).fd ∧ FnScope N (L.fn f).ps (defScope st) ∧ (L.fn f).ps.length = d.np ∧ N.length = d.nv ∧
    ∀ (Γ : Cx) (W : WX) (k : Nat) (cdv : Value) (A : Around) (outer : List PySem.Env) (s : Shared) (H : Hp) (E : XK), Good (XB L base N qual st (L.fn f).a cdv A outer s H E) L Γ W k →
      PSs (XB L base N qual st (L.fn f).a cdv A outer s H E) (defBody st) (tS L W (exs Γ d.body))
theorem all_ok {L : Lk} {base : Heap} {fuel : Nat} (hx : L.hx = none) (hl : LkOk L) (hi : ItOk L base) (hd : ∀ f d, L.T.defs f = some d → DefOk L base f d) :
    ∀ (n f : Nat) (d : Def), L.T.defs f = some d → FnOk L.P L.w L.K L.mg base (L2.CX L.P L.w) (2 * n + 6) (L.fn f).a (L.fn f).fd (L.fn f).ps (spM L (callM L.T fuel n) f)
  | 0, f, d, hf => ⟨fun vs H Q E ⟨_, _, _, _, _, h⟩ => by unfold callM at h; exact h.elim, fun A outer s H args us vs Q E _ _ _ _ ⟨_, _, _, _, _, h⟩ => by unfold callM at h; exact h.elim⟩
  | n + 1, f, d, hf => by
    obtain ⟨x, qual, st, N, dvs, F, Sc, hnp, hnv, body⟩ := (hd f d hf).ex
    have ih := all_ok (fuel := fuel) hx hl hi hd n
    have run : ∀ {args : List Val} {S : Store} {ρ : List Addr} {H : Hp} {σ : St} {Q : VK} {E : XK}, Aft L ρ H σ (fun cls d _ H' => E cls d H') (VR L.K) Q (callM L.T fuel (n + 1) f args S) →
        args.length = d.np ∧ Aft L ρ H σ (fun cls d _ H' => E cls d H') (VR L.K) Q (exs ⟨L.T, callM L.T fuel n, fuel⟩ d.body (args.map some ++ List.replicate (d.nv - d.np) none) S).res := by
      intro args S ρ H σ Q E h
      unfold callM at h
      rw [hf] at h
      simp only at h
      unfold runDef at h
      split at h
      · exact ⟨‹_›, h⟩
      · exact h.elim
    refine FunD.ok F Sc (fun vs H Q E ⟨ρ, S, args, R, ra, h⟩ => ?_) (fun cdv A outer s H vs Q E hr ⟨ρ, S, args, R, ra, h⟩ => ?_)
    · rw [← ra.length, (run h).1, hnp]
    · have h2 := (run h).2
      have G : Good (XB L base N qual st (L.fn f).a cdv A outer s H E) L ⟨L.T, callM L.T fuel n, fuel⟩ (fun cls d _ H' => E cls d H') (2 * n + 6) :=
        ⟨rfl, rfl, rfl, rfl, rfl, hl, ih, fun _ => ⟨hr, hx⟩, (fun z => Bool.noConfusion (show true = false from z)), (show (A.deeper (envOfC qual (defScope st) s.heap.objs.size (L.fn f).a cdv)).units + 70 < cLine by have := hr.un; omega), by omega, hi, takes_of rfl rfl rfl rfl⟩
      refine ⟨_, body _ _ _ cdv A outer s H E G, ρ, S, _, R, ER.start (N := N) hx ra ?_, res_aft (h2.imp fun _ _ q => q)⟩
      rw [hnv, (run h).1]
end C
end
section
set_option Elab.async false
set_option linter.all false
set_option maxRecDepth 100000
set_option maxHeartbeats 1000000
/-! C14: list(o), in a tuple. -/
namespace C
open PySem PySem.Spec L2 ItX
open PyProof.Rows hiding St

section
variable {X : L2.Cx} {L : Lk} {W : WX} {Γ : Cx} {k : Nat} {a b c e o tg : Expr} {es : List Expr} {ea eb ec : E} {ms : List E} {pos p apos cpos : Pos} {x : Str}
theorem iterOf_some {S : Store} {c m : Nat} {fs : List (Nat × Val)} {ys : List Val} (h : iterOf Γ c fs S = some (m, ys)) : ∃ ci f, Γ.T.cls c = some ci ∧ ci.itf = some f ∧ fs.lookup f = some (.loc m) ∧ lstAt S m = some ys := by
  unfold iterOf at h
  cases h1 : Γ.T.cls c with
  | none => rw [h1] at h; cases h
  | some ci =>
    rw [h1] at h
    simp only [Option.bind_some] at h
    cases h2 : ci.itf with
    | none => rw [h2] at h; cases h
    | some f =>
      rw [h2] at h
      simp only at h
      cases h3 : fs.lookup f with
      | none => rw [h3] at h; cases h
      | some v =>
        rw [h3] at h
        cases v with
        | loc m' =>
          simp only at h
          cases h4 : lstAt S m' with
          | none => rw [h4] at h; cases h
          | some zs =>
            rw [h4] at h
            cases h
            exact ⟨ci, f, rfl, h2, h3, h4⟩
        | _ => cases h
theorem lstAt_some {S : Store} {m : Nat} {ys : List Val} (h : lstAt S m = some ys) : S[m]? = some (.lst ys) := by
  unfold lstAt at h
  split at h
  · rename_i e; cases h; exact e
  · cases h
/-- the call of an own __iter__ -/
theorem own_pyIter {A : Around} {n : Nat} {pins : List (Addr × Obj)} {σ : St} {H : Hp} {s : Shared} {cc f : Nat} {Ca fi dx q l m : Addr} {fd : FuncData} {nm : Str} {gs : List (Str × V)} {xs : List V} (G : Good X L Γ W k) (F : ItF L X.base cc f Ca fi fd nm) (hr : Room 1 A) (hfr : A.frames = X.A.frames)
    (I : Inv X pins σ H s) (hH : H q = some (.ins Ca dx gs)) (cl : Cls L.K Ca) (no : NoAttr L.K Ca nm) (hl : gs.lookup nm = some (.ref l)) (hq : SqL L.K H l xs) (hm : H m ≠ none) (hy : X.s_0.heap.objs.size ≤ m) {Q : Value → Shared → Prop}
    (h : ∀ it s', Inv X pins σ H s' → s'.heap.IsListIter it l 0 → FpOk X pins H it → m < it → Q (.ref it) s') : wpAny (model X.prog X.w) A (pyIter (.ref q)) Q X.xe s := by
  obtain ⟨mA, J, _⟩ := ins_get I.hok hH
  obtain ⟨od, J, _⟩ := J.look
  obtain ⟨mm, hF⟩ := I.fr
  refine PySem.W.owit_iter hF I.ok.mod.kin J (by rw [G.hK]; exact F.it) (by rw [G.hK]; exact F.itF) ?_
  have e0 : Env0 X.prog X.w X.K X.mg X.base A X.stack s H := by
    have e := I.env0
    exact ⟨by rw [hfr]; exact e.frames, e.mod, e.bs, e.bsz, e.funs, e.frf, e.hok, e.bare⟩
  have hsp : spIter L.K nm [.ref q] H (fun v H' => ∃ it, v = .ref it ∧ H it = none ∧ m < it ∧ H' = upd H it (ItO l it 0)) (fun cls d H => W cls d σ H) :=
    ⟨q, Ca, dx, gs, l, xs, rfl, hH, cl, no, hl, hq, m, hm, fun it e1 e2 => ⟨it, rfl, e1, e2, rfl⟩⟩
  have FI := F.fn
  rw [← G.hP, ← G.hw, ← G.hK, ← G.hm] at FI
  have r2 : Vals [V.ref q] [Value.ref q] := .cons rfl .nil
  have hln := FI.len _ _ _ _ (by rw [G.hK]; exact hsp)
  refine wpAny_call (codeAny_mono (FI.run A X.stack s H ⟨[.ref q], []⟩ [.ref q] [.ref q] _ (fun cls d H => W cls d σ H) hr e0 (by
    have := (show Binds X.K fd ["self"] [] by rw [G.hK]; exact F.hb) s [.ref q] I.kIn (by simpa using hln)
    simpa using this) r2 (by rw [G.hK]; exact hsp)) fun r s' hq' => ?_)
  cases r with
  | error e => exact G.takes e s' (XE.of_call I (fun _ _ _ h => h) hq')
  | ok fl =>
    cases fl with
    | next => exact False.elim hq'
    | brk => exact False.elim hq'
    | cont => exact False.elim hq'
    | ret u =>
      obtain ⟨v, H', I', rv, it, ev, hn, hlt, eH⟩ := I.after hq'
      subst ev eH
      obtain rfl : u = Value.ref it := rv
      have hi : upd H it (ItO l it 0) it = some (ItO l it 0) := upd_same
      have eo := itO_get I' hi
      have hi' := hi
      unfold ItO at hi'
      have I2 := inv_drop I' hi'
      unfold ItO at I2
      rw [dropH_upd hn] at I2
      have fp := inv_fp I' hi (Nat.le_trans hy (Nat.le_of_lt hlt))
      rw [dropH_upd hn] at fp
      unfold PySem.W.OwitIt
      have hT : s'.TypeIs (.ref it) "list_iterator" := ⟨_, eo, rfl⟩
      exact wpAny_specialOf (name := Str.ofString "__next__") hT slot_listiter_next.lookup (h it s' I2 ⟨_, eo, rfl, rfl⟩ fp hlt)
/-- the rest of the iterator's items go to the list at q -/
theorem own_loopL {A1 : Around} {pins : List (Addr × Obj)} {σ : St} {H : Hp} {l q it : Addr} {ys : List V} {Rs : Result → Shared → Prop} (hh : A1.in1.handled = none) (hlq : l ≠ q) (hiq : it ≠ q) (hl : H l = some (.lst ys)) (hfp : FpOk X pins H it)
    (hdone : ∀ s, Inv X pins σ (upd H q (.lst ys)) s → Rs (.ok (.ret .none)) s) :
    ∀ (n i : Nat) (s : Shared), n = ys.length - i → i ≤ ys.length → Inv X pins σ (upd H q (.lst (ys.take i))) s → s.heap.IsListIter it l i → codeAny (model X.prog X.w) A1 (.builtin "list.extend.loop" ⟨[.ref q, .ref it, .none], []⟩) Rs s := by
  intro n
  induction n with
  | zero =>
    intro i s hn hi I st
    have e : i = ys.length := by omega
    subst e
    rw [List.take_length] at I
    have hl1 : (upd H q (.lst ys)) l = some (.lst ys) := by rw [upd_ne hlq]; exact hl
    obtain ⟨its, rv, p, hz⟩ := I.list (SqL.of hl1)
    have hln := rv.length
    refine codeAny_builtin PySem.F.entry_extend_loop ?_
    rw [Around.under_plainId PySem.F.plain_extend_loop _]
    show wpAny _ A1.in1 (pyNext (.ref it) >>= _) _ _ s
    obtain ⟨f0, f1, f2, f3, f4, f5⟩ := hfp
    refine wpAny_bind (wpAny_pyNext_list_end hh st p.isList (by simp; omega) fun h' eb => ?_)
    exact wpAny_pure (hdone _ (I.turned (t' := s.toks) (fun b o hb e => eb b o hb e) (by rw [upd_ne hiq]; exact f0) f1 f3 f4 f5))
  | succ n ih =>
    intro i s hn hi I st
    have hlt : i < ys.length := by omega
    have hl1 : (upd H q (.lst (ys.take i))) l = some (.lst ys) := by rw [upd_ne hlq]; exact hl
    obtain ⟨its, rv, p, hz⟩ := I.list (SqL.of hl1)
    obtain ⟨u, hu, ru⟩ := rv.get (List.getElem?_eq_getElem hlt)
    refine codeAny_builtin PySem.F.entry_extend_loop ?_
    rw [Around.under_plainId PySem.F.plain_extend_loop _]
    show wpAny _ A1.in1 (pyNext (.ref it) >>= _) _ _ s
    have hfp' := hfp
    obtain ⟨f0, f1, f2, f3, f4, f5⟩ := hfp
    refine wpAny_bind (wpAny_pyNext_list_item st p.isList (x := u) (by simpa using hu) fun h' st' sb => ?_)
    have I1 : Inv X pins σ (upd H q (.lst (ys.take i))) { s with heap := h' } := I.turned (t' := s.toks) (fun b o hb e => (sb.2 b hb).trans e) (by rw [upd_ne hiq]; exact f0) f1 f3 f4 f5
    obtain ⟨z, its2, kk, r2, hl2, e2⟩ := I1.lstM upd_same
    show wpAny _ A1.in1 (updateSeq q (·.push u) >>= _) _ _ _
    have htl : (ys.take i).length = i := by rw [List.length_take]; omega
    have sz1 : its2.toArray.size = its2.length := by simp
    have sz2 : (its2.toArray.push u).size = its2.length + 1 := by simp
    refine wpAny_bind (wpAny_updateSeq e2 rfl (wpAny_pure ⟨plainId_quiet PySem.F.plain_extend_loop _, ?_⟩) (by omega) (by show (its2.toArray.push u).size ≤ sizeLine + 1; omega))
    have I2 := I1.lset (f := (·.push u)) (its' := its2 ++ [u]) (t' := s.toks) upd_same e2 (by simp) (r2.append (.cons ru .nil)) (by rw [List.length_append, List.length_singleton]; omega)
    have et : ys.take i ++ [ys[i]] = ys.take (i + 1) := by rw [List.take_succ, List.getElem?_eq_getElem hlt]; rfl
    rw [upd_upd, et] at I2
    refine ih (i + 1) _ (by omega) hlt I2 ?_
    exact st'.at fun o e => (Heap.get?_update_other _ _ (Ne.symm hiq)).trans e
/-- list(o) -/
theorem own_list {pins : List (Addr × Obj)} {σ : St} {H : Hp} {s : Shared} {cc f : Nat} {Ca fi dx q l : Addr} {fd : FuncData} {nm : Str} {gs : List (Str × V)} {ys : List V} (G : Good X L Γ W k) (F : ItF L X.base cc f Ca fi fd nm) (hr : Room 4 X.A)
    (I : Inv X pins σ H s) (hH : H q = some (.ins Ca dx gs)) (cl : Cls L.K Ca) (no : NoAttr L.K Ca nm) (hl : gs.lookup nm = some (.ref l)) (hq : H l = some (.lst ys)) {Q : VK} (h : ∀ p, H p = none → Q (.ref p) (upd H p (.lst ys))) :
    wpAny (model X.prog X.w) X.A (call (.type "list") [.ref q]) (EP X pins σ Q) X.xe s := by
  refine callType_codes (Q₁ := fun obj s₁ => obj = .ref s.heap.objs.size ∧ s₁ = { s with heap := s.heap.push { cls := .type "list", data := .seq #[] } }) PySem.F.called_list (PySem.F.typeCall_list_1 _) PySem.F.entry_list_init
    (code_list_new _ ⟨rfl, rfl⟩) fun obj s₁ h₁ => ?_
  obtain ⟨rfl, rfl⟩ := h₁
  generalize hp : s.heap.objs.size = p
  have hS : (s.heap.push { cls := .type "list", data := .seq #[] }).get? p = some { cls := .type "list", data := .seq #[] } := by rw [← hp]; exact Heap.get?_push_size _ rfl
  refine ⟨⟨_, hS, rfl⟩, PySem.F.args_list_init_2 _ _, ?_⟩
  have fr : H p = none := by rw [← hp]; exact I.hok.fresh (Nat.le_refl _)
  have I1 : Inv X pins σ (upd H p (.lst [])) { s with heap := s.heap.push { cls := .type "list", data := .seq #[] } } := by
    have := I.lnew (its := []) (ys := []) (t' := s.toks) .nil (Nat.zero_le _)
    rw [hp] at this
    exact this
  show wpAny _ _ (do let old ← Builtin.List.listItems (.ref p); Builtin.List.listUpdate (.ref p) (fun _ => #[]); letGo old.toList.reverse; Builtin.List.listExtendWith (.ref p) (.ref q) .none) _ _ _
  refine wpAny_bind ?_
  unfold Builtin.List.listItems
  refine wpAny_bind (wpAny_seqItems hS rfl (wpAny_pure ?_))
  show wpAny _ _ (updateSeq p (fun _ => #[]) >>= fun _ => letGo (#[] : Array Value).toList.reverse >>= fun _ => Builtin.List.listExtendWith (.ref p) (.ref q) .none) _ _ _
  refine wpAny_bind (wpAny_updateSeq hS rfl ?_)
  have I2 := I1.lset (f := fun _ => #[]) (its := []) (its' := []) (ys := []) (t' := s.toks) upd_same hS rfl .nil (Nat.zero_le _)
  rw [upd_upd] at I2
  refine wpAny_bind (wpAny_letGo ?_)
  have hq2 : upd H p (.lst []) q = some (.ins Ca dx gs) := by rw [upd_ne (ne_of_none hH fr)]; exact hH
  have hlp : l ≠ p := ne_of_none hq fr
  have hl2 : upd H p (.lst []) l = some (.lst ys) := by rw [upd_ne hlp]; exact hq
  have hne : p ≠ q := (ne_of_none hH fr).symm
  generalize hs2 : ({ heap := Heap.update _ _ _, gens := _, drawn := _, toks := _, os := _ } : Shared) = s2 at I2 ⊢
  have hy : X.s_0.heap.objs.size ≤ p := by rw [← hp]; exact I.sz
  clear hs2 hS I1
  obtain ⟨mA, J, _⟩ := ins_get I2.hok hq2
  obtain ⟨od, J, _⟩ := J.look
  unfold Builtin.List.listExtendWith
  refine wpAny_bind (J.type.here ?_)
  have h1 : Builtin.List.listSameRef (.ref p) (.ref q) = false := by simp [Builtin.List.listSameRef, hne]
  have h2 : (Value.ref Ca == Value.type "list") = false := rfl
  have h3 : (Value.ref Ca == Value.type "tuple") = false := rfl
  simp only [h1, h2, h3, Bool.or_false, Bool.false_eq_true, if_false]
  have r1 : Room 1 X.A.in1.in1 := hr.in1.in1.mono (by omega)
  refine wpAny_bind (own_pyIter (n := 0) (m := p) G F r1 rfl I2 hq2 cl no hl (SqL.of hl2) (by rw [upd_same]; exact fun z => nomatch z) hy fun it s3 I3 st fp hlt => ?_)
  obtain ⟨mB, J3, _⟩ := ins_get I3.hok hq2
  obtain ⟨od3, J3, _⟩ := J3.look
  refine wpAny_bind (wpAny_holding ?_)
  unfold Builtin.List.listLengthHint
  refine wpAny_bind (wpAny_bind (J3.type.here ((PySem.W.looks_findIn I3.kIn (by rw [G.hK]; exact F.nolen)).here ?_)))
  refine PySem.W.KFB.if_not rfl ?_
  refine PySem.W.KFB.if_not rfl ?_
  refine wpAny_bind (wpAny_bind (J3.type.here ((PySem.W.looks_findIn I3.kIn (by rw [G.hK]; exact F.nohint)).here ?_)))
  refine wpAny_pure ?_
  have hip : it ≠ p := Nat.ne_of_gt hlt
  have hh : X.A.in1.in1.handled = none := hr.hd
  have fpH : FpOk X pins H it := by
    obtain ⟨f0, f1⟩ := fp
    rw [upd_ne hip] at f0
    exact ⟨f0, f1⟩
  have go : ∀ s4, Inv X pins σ (upd H p (.lst [])) s4 → s4.heap.IsListIter it l 0 → codeAny (model X.prog X.w) X.A.in1 (.builtin "list.extend.loop" ⟨[.ref p, .ref it, .none], []⟩) (wants (fun r s₂ => r = .none ∧ EP X pins σ Q (.ref p) s₂) X.xe) s4 := fun s4 I4 st4 =>
    own_loopL (H := H) (q := p) hh hlp hip hq fpH (fun s5 I5 => ⟨rfl, .ref p, _, I5, rfl, h p fr⟩) ys.length 0 s4 rfl (Nat.zero_le _) I4 st4
  obtain ⟨z, its, kk, r3, hl3, e3⟩ := I3.lstM upd_same
  cases r3
  refine wpAny_ite_split (fun _ => ?_) (fun _ => wpAny_pure ⟨plainId_quiet PySem.F.plain_extend_loop _, go s3 I3 st⟩)
  refine wpAny_bind (wpAny_rule ?_)
  refine wpAny_bind ?_
  show wpAny _ _ (updateSeq p (·.push .none) >>= fun _ => updateSeq p (·.pop)) _ _ _
  refine wpAny_bind (wpAny_updateSeq e3 rfl ?_)
  have I4 := I3.lset (f := (·.push Value.none)) (its' := [Value.none]) (ys := [.non]) (t' := s3.toks) upd_same e3 (by simp) (.cons rfl .nil) (by rw [List.length_singleton, sizeLine_eq]; decide)
  obtain ⟨z4, its4, k4, r4, hl4, e4⟩ := I4.lstM upd_same
  obtain ⟨u4, rfl, ru4⟩ := r4.one
  refine wpAny_updateSeq e4 rfl ?_ (by show 1 ≤ sizeLine; rw [sizeLine_eq]; decide) (by show 0 ≤ sizeLine + 1; exact Nat.zero_le _)
  refine wpAny_pure ⟨plainId_quiet PySem.F.plain_extend_loop _, go _ ?_ ?_⟩
  · have I5 := I4.lset (f := (·.pop)) (its := [u4]) (its' := []) (ys := []) (t' := s3.toks) upd_same e4 (by rfl) .nil (Nat.zero_le _)
    rw [upd_upd, upd_upd] at I5
    exact I5
  · have st2 : (s3.heap.update p (Obj.mapSeq (·.push Value.none))).IsListIter it l 0 := st.at fun o e => (Heap.get?_update_other _ _ (Ne.symm hip)).trans e
    exact st2.at fun o e => (Heap.get?_update_other _ _ (Ne.symm hip)).trans e
end
end C
end
section
set_option Elab.async false
set_option linter.all false
set_option maxRecDepth 100000
set_option maxHeartbeats 1000000
/-! C15: list(..), in. -/
namespace C
open PySem PySem.Spec L2 ItX
open PyProof.Rows hiding St

section
variable {X : L2.Cx} {L : Lk} {W : WX} {Γ : Cx} {k : Nat} {a b c e o tg : Expr} {es : List Expr} {ea eb ec : E} {ms : List E} {pos p apos cpos : Pos} {x : Str}
/-- an own class that is walked: what of the heap it is -/
theorem Good.iter (G : Good X L Γ W k) {S : Store} {ρ : List Addr} {H : Hp} {n cc m : Nat} {fs : List (Nat × Val)} {ys : List Val} {y : V} (R : Rel L ρ S H) (r : VR L.K ρ H (.loc n) y) (e : S[n]? = some (.obj cc fs)) (h : iterOf Γ cc fs S = some (m, ys)) :
    ∃ q Ca fi dx l fd nm gs zs f, y = .ref q ∧ ItF L X.base cc f Ca fi fd nm ∧ H q = some (.ins Ca dx gs) ∧ Cls L.K Ca ∧ NoAttr L.K Ca nm ∧ gs.lookup nm = some (.ref l) ∧ ρ[m]? = some l ∧ H l = some (.lst zs) ∧ VRs L.K ρ H ys zs := by
  obtain ⟨ci, f, h1, h2, h3, h4⟩ := iterOf_some h
  obtain ⟨q, Ca, dx, gs, ci', rfl, hq, h0, hH, hF, hc, hfs⟩ := r.obj R e
  rw [G.hT, hc] at h1; cases h1
  obtain ⟨Ca', fi, fd, nm, F⟩ := G.it cc ci f hc h2
  have hC := F.hC
  rw [h0] at hC; cases hC
  obtain ⟨C', hC', cl, _, _, hno, _⟩ := G.link.cls cc ci hc
  rw [h0] at hC'; cases hC'
  have hmem : (f, Val.loc m) ∈ fs := by
    have : ∀ (l : List (Nat × Val)), l.lookup f = some (.loc m) → (f, Val.loc m) ∈ l := by
      intro l
      induction l with
      | nil => intro h; cases h
      | cons a l ih =>
        intro h
        obtain ⟨g, u⟩ := a
        by_cases e : f = g
        · subst e
          simp [List.lookup] at h
          subst h
          exact List.mem_cons_self
        · have b1 : (f == g) = false := beq_eq_false_iff_ne.mpr e
          simp only [List.lookup, b1] at h
          exact List.mem_cons_of_mem _ (ih h)
    exact this fs h3
  obtain ⟨nm', hn', no⟩ := hno f (hfs _ hmem)
  rw [F.hn] at hn'; cases hn'
  have hl := hF.look G.link.nd F.hn
  rw [h3] at hl
  obtain ⟨z, hz, l, rfl, hl⟩ := hl
  obtain ⟨zs, h5, h6⟩ := R.at_ m _ l (lstAt_some h4) hl
  exact ⟨q, Ca, fi, dx, l, fd, nm, gs, zs, f, rfl, F, hH, cl, no, hz, hl, h5, h6⟩
theorem b_list (G : Good X L Γ W k) (hc : X.calm = true := by rfl) : BltS X L W Γ (.type "list") .list := by
  intro pins s σ H ρ S vs xs us Q I r R hv hA
  have hA : AftV L ρ H σ W Q (listV Γ vs S) := hA
  unfold listV at hA
  split at hA
  · rename_i n
    obtain ⟨y, rfl, hl⟩ := hv.one
    split at hA
    · rename_i ys e
      obtain ⟨q, zs, rfl, _, hq, hr⟩ := hl.lst R e
      exact call_list_of pins s σ H _ us Q I r ⟨q, zs, rfl, .inl (SqL.of hq), (Aft.newL hA R hr).2⟩
    · rename_i cc fs e
      split at hA
      · rename_i m ys hi
        obtain ⟨q, Ca, fi, dx, l, fd, nm, gs, zs, f, rfl, F, hH, cl, no, hz, hl2, h5, h6⟩ := G.iter R hl e hi
        obtain ⟨u, rfl, ru⟩ := vals1 r
        cases (show u = Value.ref q from ru)
        exact own_list G F ((G.room hc).mono (by have := G.deep; omega)) I hH cl no hz h5 (Aft.newL hA R h6).2
      · exact hA.elim
    · exact hA.elim
  · rename_i ys
    obtain ⟨y, rfl, a, zs, rfl, hq, hr⟩ := hv.one
    exact call_list_of pins s σ H _ us Q I r ⟨a, zs, rfl, .inl (by rw [G.hK]; exact hq.sql), (Aft.newL hA R hr).2⟩
  · rename_i ys
    obtain ⟨y, rfl, a, zs, rfl, hq, hr⟩ := hv.one
    exact call_list_of pins s σ H _ us Q I r ⟨a, zs, rfl, .inr (by rw [G.hK]; exact hq), (Aft.newL hA R hr).2⟩
  · exact hA.elim

theorem in_tup_ok {neg : Bool} {op : CmpOp} (hop : (neg = false ∧ op = .In) ∨ (neg = true ∧ op = .NotIn)) (G : Good X L Γ W k) (pins : List (Addr × Obj)) (s : Shared) (σ : St) (H : Hp) (ρ : List Addr) (S : Store) (vx : Val) (xs : List Val) (x y : V) (v u : Value) (Q : VK)
    (I : Inv X pins σ H s) (R : Rel L ρ S H) (rx : RelV x v) (ry : RelV y u) (hx : VR L.K ρ H vx x) (hy : VR L.K ρ H (.tup xs) y) (hA : AftV L ρ H σ W Q (inL neg vx xs S)) : wpAny (model X.prog X.w) X.A (compareOp op v u) (EP X pins σ Q) X.xe s := by
  unfold inL at hA
  obtain ⟨q, ys, rfl, hq, hv⟩ := hy
  by_cases hc : inOk vx xs = true
  · rw [if_pos hc] at hA
    obtain ⟨c1, c2, c3, c4, c5⟩ := inOk_facts hc
    have hd : Dp X.K H x (dat vx) := by rw [G.hK]; exact Dp.of (c1) hx
    have hl : Dp X.K H (.ref q) (.tuple (dats xs)) := by rw [G.hK]; exact .tup hq (DpAll.of (c2) hv)
    have hu := G.hu
    obtain ⟨as, r1⟩ := Dp.reads I (dat vx) x v hd rx
    obtain ⟨bs, r2⟩ := Dp.reads I (.tuple (dats xs)) (.ref q) u hl ry
    have h1 : PyData.canLayAll0 (dats xs) = true := SeqAt.canLay_of_shaped (c4)
    have h2 := SeqAt.canLay_of_shaped (c3)
    have h3 : X.A.units + 1 + min (PyData.depthAll (dats xs)) (dat vx).depth < cLine := room_in_shaped (c3) (by omega)
    rcases hop with ⟨rfl, rfl⟩ | ⟨rfl, rfl⟩
    · refine SeqAt.in_tuple_reads r2 r1 h1 h2 h3 ⟨.bl _, H, I, rfl, ?_⟩
      rw [c5]
      exact Aft.now hA R rfl
    · refine SeqAt.notIn_tuple_reads r2 r1 h1 h2 h3 ⟨.bl _, H, I, rfl, ?_⟩
      rw [c5]
      exact Aft.now hA R rfl
  · rw [if_neg hc] at hA
    exact hA.elim
theorem o_in (G : Good X L Γ W k) (hn : L.names[mContains]? = some "__contains__") : OpS X L W (compareOp .In) (cmpV Γ .isin) := o_inG (.inl ⟨rfl, rfl⟩) (fun _ _ _ => rfl) G hn (in_tup_ok (.inl ⟨rfl, rfl⟩) G)
theorem o_notin (G : Good X L Γ W k) (hn : L.names[mContains]? = some "__contains__") : OpS X L W (compareOp .NotIn) (cmpV Γ .notin) := o_inG (.inr ⟨rfl, rfl⟩) (fun _ _ _ => rfl) G hn (in_tup_ok (.inr ⟨rfl, rfl⟩) G)
end
end C
end
section
set_option Elab.async false
set_option linter.all false
set_option maxRecDepth 100000
set_option maxHeartbeats 1000000
/-! C16: small things for the printed derivations. -/
namespace C
open PySem PySem.Spec L2 ItX
open PyProof.Rows hiding St

section
variable {X : L2.Cx} {L : Lk} {W : WX} {Γ : Cx} {k : Nat} {a b c e o tg : Expr} {es : List Expr} {ea eb ec : E} {ms : List E} {pos p apos cpos : Pos} {x : Str} {st : Stmt}
theorem noGet (G : Good X L Γ W k) (h : ∀ c ci, L.T.cls c = some ci → ci.meths.lookup mGet = none) (pins : List (Addr × Obj)) (s : Shared) (σ : St) (H : Hp) (ρ : List Addr) (S : Store) (n : Nat) (vy : Val) (x y : V) (v u : Value) (Q : VK) (_ : Inv X pins σ H s) (_ : RelV x v) (_ : RelV y u) (R : Rel L ρ S H) (hx : VR L.K ρ H (.loc n) x) (_ : VR L.K ρ H vy y)
    (hc : ∃ c fs, S[n]? = some (.obj c fs)) (hA : AftV L ρ H σ W Q (subV Γ (.loc n) vy S)) : wpAny (model X.prog X.w) X.A (subscriptTail a b v u) (EP X pins σ Q) X.xe s := by
  obtain ⟨cc, fs, e⟩ := hc
  unfold subV at hA
  simp only [e] at hA
  obtain ⟨q, C, dx, gs, ci, _, _, _, _, _, h3, _⟩ := hx.obj R e
  unfold methOf at hA
  rw [G.hT, h3] at hA
  simp only [Option.bind_some, h cc ci h3] at hA
  exact hA.elim
theorem noSet (G : Good X L Γ W k) (h : ∀ c ci, L.T.cls c = some ci → ci.meths.lookup mSet = none) : OwnSet X L W Γ := by
  intro pins s σ H ρ S n vi vv y yi yv ov iv u Q I R hx _ _ _ _ _ hc hA
  obtain ⟨cc, fs, e⟩ := hc
  unfold setIV at hA
  simp only [e] at hA
  obtain ⟨q, C, dx, gs, ci, _, _, _, _, _, h3, _⟩ := hx.obj R e
  unfold methOf at hA
  rw [G.hT, h3] at hA
  simp only [Option.bind_some, h cc ci h3] at hA
  exact hA.elim
theorem m_pc {op : CmpOp} {oc : Cop} (ho : OpS X L W (compareOp op) (cmpV Γ oc)) (A : PE X a (tM L W (ev Γ ea))) (B : PE X b (tM L W (ev Γ eb))) : PC X op a b (tM L W (ev Γ (.cmp oc ea eb))) := by
  refine ⟨fun pins s σ H Q I ⟨ρ, S, env, R, er, hA⟩ => ?_⟩
  unfold ev at hA
  exact run2 A B I R er hA fun v u s2 H2 ρ2 S2 vx vy x y I2 rx ry _ _ R2 ex ey h2 => ho pins s2 σ H2 ρ2 S2 vx vy x y v u Q I2 rx ry R2 ex ey h2
theorem mt_of_pc {op : CmpOp} {m : Env → Store → Res Val} (h : PC X op a b (tM L W m)) (h1 : behindInMarks op b = false) : PT X (.Compare a [op] [b] pos) (tMT L W m) :=
  PT.mono (pt_cmp h h1) fun σ H Q ⟨ρ, S, env, R, er, hA⟩ => ⟨ρ, S, env, R, er, Aft.ofB' hA⟩
theorem mt_cmp {op : CmpOp} {oc : Cop} (ho : OpS X L W (compareOp op) (cmpV Γ oc)) (A : PE X a (tM L W (ev Γ ea))) (B : PE X b (tM L W (ev Γ eb))) (h1 : behindInMarks op b = false := by first | exact nobehind _ (by decide) (by decide) | rfl) :
    PT X (.Compare a [op] [b] pos) (tMT L W (ev Γ (.cmp oc ea eb))) := mt_of_pc (m_pc ho A B) h1
theorem none_dec {ρ : List Addr} {H : Hp} {v : Val} {x : V} (r : VR L.K ρ H v x) : decide (x = V.non) = decide (v = Val.non) := by
  cases v with
  | non => cases r; rfl
  | tup vs => obtain ⟨_, _, e, _⟩ := r; subst e; rfl
  | ro vs => obtain ⟨_, _, e, _⟩ := r; subst e; rfl
  | loc n => obtain ⟨_, e, _⟩ := r; subst e; rfl
  | _ => cases r; rfl
theorem mt_isN {j pos'} (ha : PE X a (tM L W (ev Γ ea))) : PT X (.Compare a [.Is] [.Constant .none j pos'] pos) (tMT L W (ev Γ (.isN ea))) := by
  refine PT.mono (pt_cmp (pc_isN ha) rfl) fun σ H Q ⟨ρ, S, env, R, er, hA⟩ => ⟨ρ, S, env, R, er, ?_⟩
  unfold ev toB at hA
  rw [Res.bind_assoc] at hA
  refine (Aft.split (Ru := VR L.K) hA).imp ?_
  rintro x H' ⟨ρ1, S1, v, p, k, R1, r, h1⟩
  exact ⟨_, rfl, by rw [none_dec r]; exact Aft.now (Rv := BR) h1 R1 rfl⟩
theorem mt_notN {j pos'} (ha : PE X a (tM L W (ev Γ ea))) : PT X (.Compare a [.IsNot] [.Constant .none j pos'] pos) (tMT L W (ev Γ (.notN ea))) := by
  refine PT.mono (pt_cmp (pc_notN ha) rfl) fun σ H Q ⟨ρ, S, env, R, er, hA⟩ => ⟨ρ, S, env, R, er, ?_⟩
  unfold ev toB at hA
  rw [Res.bind_assoc] at hA
  refine (Aft.split (Ru := VR L.K) hA).imp ?_
  rintro x H' ⟨ρ1, S1, v, p, k, R1, r, h1⟩
  exact ⟨_, rfl, by rw [none_dec r]; exact Aft.now (Rv := BR) h1 R1 rfl⟩
/-- name = [..], swapped -/
theorem s_asgP {j : Nat} (h : PS X st (tAsg (tM L W (ev Γ ea)) (gName j))) : PS X st (tS L W (ex Γ (.asg j ea))) := by
  refine PS.mono h fun D σ H ⟨ρ, S, env, R, er, h⟩ => ⟨ρ, S, env, R, er, ?_⟩
  unfold ex at h
  refine (AftF.fl (Rv := VR L.K) er h).imp ?_
  rintro x H1 ⟨ρ1, S1, v, p, k, R1, r, h1⟩
  exact AftF.nx h1 R1 ((er.mono p k).set r)
/-- name = e -/
theorem s_set {j : Nat} {y : Str} {py : Pos} (hN : X.N.Nodup) (he : PE X e (tM L W (ev Γ ea))) (hi : X.N[j]? = some y := by rfl) (hx : Loc X.env.scope y := by first | exact Or.inl rfl | exact Or.inr rfl) (hs : swapsWith e (some (.Name y py)) pos.line X.env = pure false := by rfl)
    (hf : X.fn y = true ∨ X.env.scope.names.lookup y = some .local := by first | exact .inl rfl | exact .inr rfl) : PS X (.Assign [.Name y py] e pos) (tS L W (ex Γ (.asg j ea))) := s_asgP (ps_set hN hi hx he hs hf)
/-- -e -/
theorem m_neg (ha : PE X a (tM L W (ev Γ ea))) : PE X (.UnaryOp .USub a pos) (tM L W (ev Γ (.neg ea))) := by
  refine PE.mono (pe_un un_neg ha) fun σ H Q ⟨ρ, S, env, R, er, hA⟩ => ⟨ρ, S, env, R, er, ?_⟩
  unfold ev at hA
  refine (Aft.split (Ru := VR L.K) hA).imp ?_
  rintro x H' ⟨ρ1, S1, v, p, k, R1, r, h1⟩
  cases v with
  | int i =>
    cases r
    exact ⟨i, rfl, Aft.now h1 R1 rfl⟩
  | _ => exact h1.elim
theorem blk_by {scope : Scope} {own : List (Str × Nat)} (N : List Str) (sc : Scope) (h : blkC N sc scope own = true) (hN : X.N = N := by rfl) (hs : X.env.scope = sc := by rfl) : BlkOk X.N X.env.scope scope own := by
  rw [hN, hs]
  exact blkOk_by h
theorem pts0 : PTs X [] (tMT L W (ev Γ (.cst (.bl true)))) := by
  refine ⟨fun pins s σ H Q I ⟨ρ, S, env, R, er, h⟩ => pts_nil.run pins s σ H Q I ?_⟩
  unfold ev at h
  exact Aft.now (Rv := BR) (show Aft L ρ H σ W BR Q (.ok true S) from h) R rfl
end
theorem passX {L : Lk} {base : Heap} {N : List Str} {qual : Str} {st : Stmt} {f : Addr} {cdv : Value} {A : Around} {outer : List PySem.Env} {s : Shared} {H : Hp} {E : XK} :
    PassesOwn (model (XB L base N qual st f cdv A outer s H E).prog (XB L base N qual st f cdv A outer s H E).w) (XB L base N qual st f cdv A outer s H E).A (XB L base N qual st f cdv A outer s H E).env (XB L base N qual st f cdv A outer s H E).xe := passes_of rfl
theorem bt_len : bootBuiltins "len" = some (.builtin "len") := by decide +kernel
theorem bt_max : bootBuiltins "max" = some (.builtin "max") := by decide +kernel
theorem bt_min : bootBuiltins "min" = some (.builtin "min") := by decide +kernel
theorem bt_sorted : bootBuiltins "sorted" = some (.builtin "sorted") := by decide +kernel
theorem bt_int : bootBuiltins "int" = some (.type "int") := by decide +kernel
theorem bt_bool : bootBuiltins "bool" = some (.type "bool") := by decide +kernel
theorem bt_str : bootBuiltins "str" = some (.type "str") := by decide +kernel
theorem bt_list : bootBuiltins "list" = some (.type "list") := by decide +kernel
theorem bt_tuple : bootBuiltins "tuple" = some (.type "tuple") := by decide +kernel
theorem bt_iter : bootBuiltins "iter" = some (.builtin "iter") := by decide +kernel

/-! ### the end -/
theorem lookAll {l : List (Nat × Nat)} {P : Nat → Nat → Prop} (h : ∀ p ∈ l, P p.1 p.2) {m f : Nat} (hm : l.lookup m = some f) : P m f := by
  induction l with
  | nil => cases hm
  | cons a l ih =>
    obtain ⟨g, u⟩ := a
    by_cases e : m = g
    · subst e
      simp [List.lookup] at hm
      subst hm
      exact h (m, u) List.mem_cons_self
    · have b1 : (m == g) = false := beq_eq_false_iff_ne.mpr e
      simp only [List.lookup, b1] at hm
      exact ih (fun p hp => h p (List.mem_cons_of_mem _ hp)) hm
/-- iter(xs): the iterator is younger than all that is known -/
def rIterM (K : PySem.W.Frag) : List V → Hp → VK → Prop := fun xs H Q => ∃ (l : Addr) (zs : List V), xs = [.ref l] ∧ SqL K H l zs ∧ ∀ it, H it = none → (∀ m, H m ≠ none → m < it) → Q (.ref it) (upd H it (ItO l it 0))
theorem call_iterM {X : L2.Cx} : CallR X (.builtin "iter") (rIterM X.K) := by
  intro pins s σ H xs us Q I r h
  obtain ⟨l, zs, rfl, hq, q⟩ := h
  obtain ⟨u, rfl, ru⟩ := vals1 r
  cases ru
  obtain ⟨its, rv, pl, hz⟩ := I.list hq
  refine GNX.call_iter pl.isList ⟨.ref s.heap.objs.size, _, I.laid (t' := s.toks) (fun b u e => Heap.get?_push_of_some _ e) (Nat.le_refl _) (itO_ok (Heap.get?_push_size _ rfl)), rfl, q _ (I.hok.fresh (Nat.le_refl _)) fun m hm => ?_⟩
  cases e : H m with
  | none => exact absurd e hm
  | some o => exact (I.hok m o e).lt
theorem it_ok {P : Program} {w : World} {K : PySem.W.Frag} {mg : Str → Option Value} {base : Heap} {qual : Str} {st : Stmt} {f : Addr} {fd : FuncData} {nm : Str} (F : Fun K "__iter__" qual st f fd) (S : FnScope ["self"] ["self"] (defScope st))
    (hb : ∀ (cdv : Value) (A : Around) (outer : List PySem.Env) (s : Shared) (H : Hp) (E : XK), PSs (cxOf (L2.CX P w) P w K mg base ["self"] qual (defScope st) f cdv A outer s H E) (defBody st) (tRet (tCB (rIterM K) (tCons (tFld K (tVar 0) nm) tNil)))) :
    FnOk P w K mg base (L2.CX P w) 1 f fd ["self"] (spIter K nm) := by
  refine Fun.okX F S (fun vs H Q E ⟨a, Ca, dx, gs, l, xs, e, _⟩ => by rw [e]; rfl) (fun cdv A outer s H vs Q E hr ⟨a, Ca, dx, gs, l, xs, e, hH, cl, no, hl, hq, m, hm, q⟩ => ?_)
  subst e
  refine ⟨_, hb cdv A outer s H E, ?_⟩
  exact ⟨.ref a, rfl, a, Ca, dx, gs, .ref l, rfl, hH, cl, no, hl, l, xs, rfl, hq, fun it h1 h2 => q it h1 (h2 m hm)⟩
theorem no_exc {P : Program} {w : World} {H : Hp} {s s' : Shared} {e : Value} (z : L2.CX P w [] H s (fun _ _ _ => False) e s') : False := by
  obtain ⟨_, _, _, _, _, _, _, _, _, _, _, _, z⟩ := z
  exact z
theorem law_sp {L : Lk} {call : Nat → List Val → Store → Res Val} {f : Nat} {vs : List V} {H : Hp} {Q : VK} {E : XK} {a : Addr} {ns : List Int} {S : Store} (ev : vs = [.ref a]) (hq : SqL L.K H a (ns.map V.int)) (hO : Only H) (hS : call f [.ro (ns.map Val.int)] [] = .ok (.bl true) S) (q : ∀ H', Q (.bl true) H') :
    spM L call f vs H Q E := by
  subst ev
  refine ⟨[], [], [.ro (ns.map Val.int)], ⟨rfl, List.nodup_nil, fun n c a h => by simp at h⟩, VRs.cons ⟨a, ns.map V.int, rfl, SqR.of hq ?_, VRs.map (f := Val.int) (g := V.int) (fun i => rfl) ns⟩ VRs.nil, ?_⟩
  · intro z
    rcases hO a with h | ⟨o, xs, h⟩
    · rw [h] at z; cases z
    · rw [h] at z; cases z
  · rw [hS]
    intro ρ' H' x _ _ _ r
    cases r
    exact q H'
end C
end
section
set_option Elab.async false
set_option linter.all false
set_option maxRecDepth 100000
set_option maxHeartbeats 1000000
/-! C17: enumerate of lists and of tuples. -/
namespace C
open PySem PySem.Spec L2 ItX
open PyProof.Rows hiding St

theorem meets_enum1 {v : Value} {o : Obj} {H : Heap → Prop} (B : Begins v o H) :
    Meets (Builtin.«enumerate.__new__» ⟨[.type "enumerate", v], []⟩) (fun _ R s => H s.heap ∧
      R (.ok (.ret (.ref (s.heap.push o).objs.size))) { s with heap := (s.heap.push o).push { cls := .type "enumerate", data := .fields #[.none, .bool false, .ref s.heap.objs.size, rawInt 0, .none, .none] } }) :=
  .of_wp fun prog w A R s h => by
    obtain ⟨hp, g, d, tk, os⟩ := s; obtain ⟨h1, h⟩ := h
    have hsub := sub_enumerate
    have q1 : ∀ {A' : Around} {E : Value → Shared → Prop} {Q : Value → Shared → Prop}, Q (.ref hp.objs.size) ⟨hp.push o, g, d, tk, os⟩ → wpAny (model prog w) A' (pyIter v) Q E ⟨hp, g, d, tk, os⟩ :=
      fun q => B.iter prog w _ _ ⟨hp, g, d, tk, os⟩ _ h1 q
    wp_walk using q1
    refine wpAny_stack_any fun st => wpAny_pure ?_
    split
    · rename_i c _ _ _ _ _
      cases (c == Value.type "enumerate")
      · wp_walk using q1
        exact ⟨_, rfl, h⟩
      · wp_walk using q1
        exact ⟨_, rfl, h⟩
    · wp_walk using q1
      exact ⟨_, rfl, h⟩
theorem call_enumB {prog : Program} {w : World} {A : Around} {E : Value → Shared → Prop} {s : Shared} {v : Value} {o : Obj} {H : Heap → Prop} {Q : Value → Shared → Prop} (B : Begins v o H) (h1 : H s.heap)
    (h : ∀ h', IsEnum h' (s.heap.objs.size + 1) s.heap.objs.size 0 .none → h'.get? s.heap.objs.size = some o → h'.objs.size = s.heap.objs.size + 2 →
      (∀ b o, s.heap.get? b = some o → h'.get? b = some o) → Q (.ref (s.heap.objs.size + 1)) { s with heap := h' }) :
    wpAny (model prog w) A (call (.type "enumerate") [v]) Q E s := by
  refine callType_new F.called_enumerate (by decide) (F.typeCall_enumerate_1 _) (F.newCall_enumerate_1 _) (fun obj => F.args_object_init_2 obj _) F.entry_enumerate_new
    (meets_enum1 B) ⟨h1, ?_⟩
  have hz : (s.heap.push o).objs.size = s.heap.objs.size + 1 := Heap.size_push ..
  show _ ∧ _
  rw [hz]
  have he : IsEnum ((s.heap.push o).push { cls := .type "enumerate", data := .fields #[.none, .bool false, .ref s.heap.objs.size, rawInt 0, .none, .none] }) (s.heap.objs.size + 1) s.heap.objs.size 0 .none := by
    have := Heap.get?_push_size (s.heap.push o) (o := { cls := .type "enumerate", data := .fields #[.none, .bool false, .ref s.heap.objs.size, rawInt 0, .none, .none] }) rfl
    rw [hz] at this; exact this
  refine ⟨⟨_, he, rfl⟩, h _ he (Heap.get?_push_of_some _ (Heap.get?_push_size _ B.free)) (by rw [Heap.size_push, hz]) fun b o x => Heap.get?_push_of_some _ (Heap.get?_push_of_some _ x)⟩

/-- the tuple at a, each item in a new pair -/
def ItEt (K : PySem.W.Frag) (a : Addr) : It :=
  ⟨fun i H => ∃ (xs : List V) (x : V), SqT K H a xs ∧ xs[i]? = some x, fun i H v H' => ∃ T x, v = .ref T ∧ H T = none ∧ H' = upd H T (.tup [.int (i : Nat), x]) ∧ ∀ xs, SqT K H a xs → xs[i]? = some x, fun i H => ∃ xs : List V, SqT K H a xs ∧ xs.length ≤ i⟩
theorem turn_enumT {P : Program} {w : World} {K : PySem.W.Frag} {elts : List Expr} {kk : Nat} {tpos : Pos} (a e it : Addr) :
    Turn P w K (.Tuple elts kk tpos) (ItEt K a) [e, it] e (fun i h => (∃ old, IsEnum h e it ((i : Nat) : Int) old) ∧ h.IsTupleIter it a i ∧ e ≠ it ∧ a ≠ it ∧ e ≠ a) where
  mem := by simp
  obj := fun i h st b hb => by
    obtain ⟨⟨old, he⟩, ⟨o, ho, hc, hd⟩, _⟩ := st
    have e' : b = e ∨ b = it := by simpa using hb
    rcases e' with z | z
    · rw [z]; exact ⟨_, he, fun v q => nomatch q⟩
    · rw [z]; exact ⟨o, ho, fun v q => by rw [hd] at q; cases q⟩
  keep := fun i h h' st k => let ⟨⟨old, he⟩, hi, hne⟩ := st; ⟨⟨old, k e (by simp) _ he⟩, hi.at fun o q => k it (by simp) o q, hne⟩
  item := by
    intro X hP hw hK hc i pins s σ H E I hf st hg
    subst hP hw hK
    obtain ⟨⟨old, he⟩, hit, hne, hai, hea⟩ := st
    obtain ⟨xs, x, hq, hx⟩ := hg
    obtain ⟨its, rv, p, hz⟩ := I.tuple hq
    obtain ⟨u, hu, ru⟩ := rv.get hx
    have hel : e < s.heap.objs.size := Heap.lt_size he
    have hil : it < s.heap.objs.size := by obtain ⟨_, q, _⟩ := hit; exact Heap.lt_size q
    have hlt : i < its.toArray.size := by
      obtain ⟨h1, _⟩ := List.getElem?_eq_some_iff.mp hu
      simpa using h1
    refine wpAny_pyNext_enum_itemD (Draws.tuple (A := X.A.in1) (show X.A.in1.handled = none from I.ok.hd hc) it a hai its.toArray) he ⟨hit, show s.heap.IsTuple a its.toArray from p⟩ hlt hne (by simp [hne, hea]) fun x' h' tk hP ho hst hT hsz hk => ?_
    obtain ⟨hit', _⟩ := hst
    have ex : x' = u := by
      have : its[i]? = some x' := by simpa using hP
      rw [hu] at this; exact (Option.some.inj this).symm
    subst ex
    refine ⟨_, rfl, wpAny_letOwnedTupleGo_enum (s := { s with heap := h', toks := tk + 1 }) ho fun h'' he' sb => ?_⟩
    have hT2 : h''.get? s.heap.objs.size = some { cls := .type "tuple", data := .seq #[.int i tk, x'] } := (sb.2 _ (Nat.ne_of_gt hel)).trans hT
    have new : ObjOk X.prog X.w (upd H s.heap.objs.size (.tup [.int (i : Nat), x])) h'' s.heap.objs.size (.tup [.int (i : Nat), x]) :=
      ⟨by show 2 ≤ sizeLine; decide, [.int i tk, x'], .cons ⟨_, rfl⟩ (.cons ru .nil), ⟨_, hT2, rfl, _, rfl⟩⟩
    have I1 : Inv X pins σ (upd H s.heap.objs.size (.tup [.int (i : Nat), x])) { s with heap := h'', toks := tk + 1 } :=
      I.turnedNew (ch := [e, it]) (fun b ob hb q => (sb.2 b (fun z => hb (by simp [z]))).trans (hk b ob (fun z => hb (by simp [z])) (fun z => hb (by simp [z])) q)) hf (Nat.le_refl _) new
    refine ⟨.ref s.heap.objs.size, _, I1, rfl, ⟨_, x, rfl, I.hok.fresh (Nat.le_refl _), rfl, fun ys hy => by rw [I.tuple_inj hy hq]; exact hx⟩, ⟨⟨x', ?_⟩, hit'.at fun o q => (sb.2 it (Ne.symm hne)).trans q, hne, hai, hea⟩, fun b hb => ?_⟩
    · have e1 : ((i + 1 : Nat) : Int) = (i : Int) + 1 := by omega
      rw [e1]; exact he'
    · have hb' : b < s.heap.objs.size := by
        have e' : b = e ∨ b = it := by simpa using hb
        rcases e' with z | z
        · rw [z]; exact hel
        · rw [z]; exact hil
      rw [upd_ne (Nat.ne_of_lt hb')]
      exact (hf b hb).1
  done := by
    intro X hP hw hK hc i pins s σ H E I hf st hg
    subst hP hw hK
    obtain ⟨⟨old, he⟩, hit, hne, hai, hea⟩ := st
    obtain ⟨xs, hq, hx⟩ := hg
    obtain ⟨its, rv, p, hz⟩ := I.tuple hq
    obtain ⟨f0, f1, f2, f3, f4, f5⟩ := hf it (by simp)
    have hl := rv.length
    have hT : s.TypeIs (.ref e) "enumerate" := ⟨_, he, rfl⟩
    unfold pyNext
    refine wpAny_bind (wpAny_attempt (wpAny_callSpecial?_slot (name := Str.ofString "__next__") hT F.slot_enumerate_next
      (wpAny_call_entry F.slot_enumerate_next hT F.entry_enumerate_next ?_ (F.args_enumerate_next_1 _))))
    show wpAny _ _ (field (.ref e) 2 >>= _) _ _ _
    refine wpAny_bind (wpAny_field he rfl (x := .ref it) rfl ?_)
    refine wpAny_bind (wpAny_nextOf_tuple_end (I.ok.hd hc) hit (show s.heap.IsTuple a its.toArray from p) (by simp; omega) fun h' x he' hx' => ?_)
    obtain ⟨o, ho, hcc⟩ := hx'
    refine wpAny_bind (wpAny_isInstance (T := "StopIteration") (b := true) ⟨o, ho, hcc⟩ isSubtype_stop ?_)
    exact wpAny_pure ⟨rfl, I.turned (t' := s.toks) (fun b o hb q => he' b o hb q) f0 f1 f3 f4 f5⟩
  self := fun A i s Q E st h => let ⟨⟨_, he⟩, _⟩ := st; wpAny_pyIter_enum he h
section
variable {X : L2.Cx} {L : Lk} {W : WX} {Γ : Cx} {k : Nat} {a b c e o tg : Expr} {es : List Expr} {ea eb ec : E} {ms : List E} {pos p apos cpos tpos : Pos} {x : Str} {ρ : List Addr} {H : Hp} {elts : List Expr} {kk : Nat}
theorem enumV_at {xs : List Val} {i : Nat} {v : Val} (h : (enumV xs)[i]? = some v) : ∃ w, xs[i]? = some w ∧ v = .tup [.int (i : Int), w] := by
  unfold enumV at h
  rw [List.getElem?_map, List.getElem?_zipIdx] at h
  cases q : xs[i]? with
  | none => rw [q] at h; cases h
  | some w =>
    rw [q] at h
    simp at h
    exact ⟨w, rfl, h.symm⟩
theorem enumV_len {xs : List Val} : (enumV xs).length = xs.length := by simp [enumV]
theorem pair_new {ρ' : List Addr} {H' : Hp} {S' : Store} {T : Addr} {i : Nat} {w : Val} {y : V} (R : Rel L ρ' S' H') (hT : H' T = none) (r : VR L.K ρ' H' w y) : Keep H' (upd H' T (.tup [.int (i : Nat), y])) ∧ Rel L ρ' S' (upd H' T (.tup [.int (i : Nat), y])) ∧ VR L.K ρ' (upd H' T (.tup [.int (i : Nat), y])) (.tup [.int (i : Int), w]) (.ref T) :=
  ⟨Keep.new hT, R.new hT, T, _, rfl, .inl (.inl upd_same), VRs.cons rfl (VRs.cons (r.mono (List.prefix_refl _) (Keep.new hT)) VRs.nil)⟩
theorem yr_enumL {xs : List Val} {n : Nat} {q : Addr} (hn : ρ[n]? = some q) : YR L ρ H ⟨enumV xs, .lst n xs⟩ (Ite L.K q) := by
  intro ρ' H' S' p k R hs i
  have h1 : lstAt S' n = some xs := by simpa [Src.ok, Held.ok] using hs
  have e : S'[n]? = some (.lst xs) := lstAt_some h1
  obtain ⟨ys, h2, h3⟩ := R.at_ n _ q e (pre_get p hn)
  refine ⟨fun hi => ⟨ys, SqL.of h2, by rw [← h3.length, hi, enumV_len]; exact Nat.le_refl _⟩, fun v hv => ?_⟩
  obtain ⟨w, hw, rfl⟩ := enumV_at hv
  obtain ⟨x, hx, rx⟩ := h3.get hw
  refine ⟨⟨ys, x, SqL.of h2, hx⟩, fun x' H'' y => ?_⟩
  obtain ⟨T, x2, e1, e2, e3, e4⟩ := y
  subst e1 e3
  have := e4 ys (SqL.of h2)
  rw [hx] at this
  cases this
  exact pair_new R e2 rx
theorem yr_enumRo {xs : List Val} {q : Addr} {ys : List V} (hq : SqR L.K H q ys) (hr : VRs L.K ρ H xs ys) : YR L ρ H ⟨enumV xs, .non⟩ (Ite L.K q) := by
  intro ρ' H' S' p k R hs i
  have h2 := (hq.keep k).sql
  have h3 := hr.mono p k
  refine ⟨fun hi => ⟨ys, h2, by rw [← h3.length, hi, enumV_len]; exact Nat.le_refl _⟩, fun v hv => ?_⟩
  obtain ⟨w, hw, rfl⟩ := enumV_at hv
  obtain ⟨x, hx, rx⟩ := h3.get hw
  refine ⟨⟨ys, x, h2, hx⟩, fun x' H'' y => ?_⟩
  obtain ⟨T, x2, e1, e2, e3, e4⟩ := y
  subst e1 e3
  have := e4 ys h2
  rw [hx] at this
  cases this
  exact pair_new R e2 rx
theorem yr_enumT {xs : List Val} {q : Addr} {ys : List V} (hq : SqT L.K H q ys) (hr : VRs L.K ρ H xs ys) : YR L ρ H ⟨enumV xs, .non⟩ (ItEt L.K q) := by
  intro ρ' H' S' p k R hs i
  have h2 := SqT.keep k hq
  have h3 := hr.mono p k
  refine ⟨fun hi => ⟨ys, h2, by rw [← h3.length, hi, enumV_len]; exact Nat.le_refl _⟩, fun v hv => ?_⟩
  obtain ⟨w, hw, rfl⟩ := enumV_at hv
  obtain ⟨x, hx, rx⟩ := h3.get hw
  refine ⟨⟨ys, x, h2, hx⟩, fun x' H'' y => ?_⟩
  obtain ⟨T, x2, e1, e2, e3, e4⟩ := y
  subst e1 e3
  have := e4 ys h2
  rw [hx] at this
  cases this
  exact pair_new R e2 rx
def iEnum2 (K : PySem.W.Frag) (ta : TA) : TI := fun σ H R => ta σ H fun vs H1 => ∃ a xs, vs = [.ref a] ∧ ((SqL K H1 a xs ∧ R (Ite K a) H1) ∨ (SqT K H1 a xs ∧ R (ItEt K a) H1))
theorem pi_enum2 {ta : TA} (hg : Gl X "enumerate") (hm : X.mg "enumerate" = none) (ha : PA X [e] ta) (hs : starEach [e] X.env = [(false, eval e X.env)] := by rfl) :
    PI X (.Tuple elts kk tpos) (.Call (.Name "enumerate" p) [e] [] pos) (iEnum2 X.K ta) := by
  refine ⟨fun pins s σ H R I h => ?_⟩
  refine Call_ (ld_blt I hg hm boot_enumerate (PyProof.Rows.callWith_type1 (thn (ha.run pos pins s σ H _ I h) fun us s1 ⟨vs, H1, I1, r1, q1⟩ => ?_) hs rfl))
  obtain ⟨a, xs, ex, q1⟩ := q1
  subst ex
  obtain ⟨u, rfl, r⟩ := vals1 r1
  cases r
  have fpo : ∀ {h' : Heap}, (∀ b o, s1.heap.get? b = some o → h'.get? b = some o) → ∀ b ∈ [s1.heap.objs.size + 1, s1.heap.objs.size], FpOk X pins H1 b := by
    intro h' hk b hb
    have e' : b = s1.heap.objs.size + 1 ∨ b = s1.heap.objs.size := by simpa using hb
    have hle : s1.heap.objs.size ≤ b := by
      rcases e' with z | z
      · rw [z]; exact Nat.le_add_right _ _
      · rw [z]; exact Nat.le_refl _
    exact I1.fpOk hle (I1.hok.fresh hle)
  rcases q1 with ⟨hq, q⟩ | ⟨hq, q⟩
  · obtain ⟨its, rv, p', hz⟩ := I1.list hq
    refine call_enumerate_list p'.isList fun h' he hit hsz hk => wpAny_pyIter_enum he ?_
    have I2 : Inv X pins σ H1 { s1 with heap := h' } := I1.kept (t' := s1.toks) hk
    exact ⟨s1.heap.objs.size + 1, [s1.heap.objs.size + 1, s1.heap.objs.size], _, _, H1, rfl, I2, turn_enum a (s1.heap.objs.size + 1) s1.heap.objs.size, ⟨⟨.none, he⟩, hit, Nat.succ_ne_self _⟩, fpo hk, q⟩
  · obtain ⟨its, rv, p', hz⟩ := I1.tuple hq
    have pT : s1.heap.IsTuple a its.toArray := p'
    have hal : a < s1.heap.objs.size := by obtain ⟨o, ho, _⟩ := pT; exact Heap.lt_size ho
    refine call_enumB (begins_tuple a its.toArray) pT fun h' he hit hsz hk => wpAny_pyIter_enum he ?_
    have I2 : Inv X pins σ H1 { s1 with heap := h' } := I1.kept (t' := s1.toks) hk
    exact ⟨s1.heap.objs.size + 1, [s1.heap.objs.size + 1, s1.heap.objs.size], _, _, H1, rfl, I2, turn_enumT a (s1.heap.objs.size + 1) s1.heap.objs.size, ⟨⟨.none, he⟩, ⟨_, hit, rfl, rfl⟩, Nat.succ_ne_self _, Nat.ne_of_lt hal, Nat.ne_of_gt (Nat.lt_succ_of_lt hal)⟩, fpo hk, q⟩
theorem m_enum (G : Good X L Γ W k) (hg : Gl X "enumerate") (hm : L.mg "enumerate" = none) (ha : PA X [a] (tMs L W (evs Γ ms))) (hs : starEach [a] X.env = [(false, eval a X.env)] := by rfl) :
    PI X (.Tuple elts kk tpos) (.Call (.Name "enumerate" p) [a] [] pos) (iM L W (srcM Γ 3 ms)) := by
  refine ⟨fun pins s σ H R I ⟨ρ, S, env, hR, er, hA⟩ => (pi_enum2 (p := p) (pos := pos) (elts := elts) (kk := kk) (tpos := tpos) hg (by rw [G.hm]; exact hm) ha hs).run pins s σ H R I ⟨ρ, S, env, hR, er, ?_⟩⟩
  refine (Aft.split (Ru := VRs L.K) hA).imp ?_
  rintro xs H1 ⟨ρ1, S1, vs, p1, k1, R1, rv, h1⟩
  obtain ⟨sr, hw, h2⟩ := of_some h1
  match vs, rv, hw with
  | [v], rv, hw =>
    obtain ⟨s0, hw1, rfl⟩ := Option.map_eq_some_iff.mp (show (walkE v S1).map (fun s => (⟨enumV s.items, s.held⟩ : Src)) = some sr from hw)
    obtain ⟨y, rfl, ry⟩ := rv.one
    rw [G.hK]
    unfold walkE at hw1
    split at hw1
    · rename_i n
      obtain ⟨zs, e1, rfl⟩ := Option.map_eq_some_iff.mp hw1
      obtain ⟨q, ys, rfl, hn, hq, hr⟩ := ry.lst R1 (lstAt_some e1)
      exact ⟨q, ys, rfl, .inl ⟨SqL.of hq, Aft.now h2 R1 (yr_enumL hn)⟩⟩
    · cases hw1
      obtain ⟨q, ys, rfl, hq, hr⟩ := ry
      exact ⟨q, ys, rfl, .inr ⟨hq, Aft.now h2 R1 (yr_enumT hq hr)⟩⟩
    · cases hw1
      obtain ⟨q, ys, rfl, hq, hr⟩ := ry
      exact ⟨q, ys, rfl, .inl ⟨hq.sql, Aft.now h2 R1 (yr_enumRo hq hr)⟩⟩
    · cases hw1
  | [], _, hw => cases hw
  | _ :: _ :: _, _, hw => cases hw
end
end C
end
section
set_option Elab.async false
set_option linter.all false
set_option maxRecDepth 100000
set_option maxHeartbeats 1000000
/-! C18: constants of the module, own subscripts, properties, displays, own classes. -/
namespace C
open PySem PySem.Spec L2 ItX
open PyProof.Rows hiding St

/-! ### constants of the written part -/
mutual
/-- the value u of the written part is the constant v -/
def kvB (K : PySem.W.Frag) : Val → Value → Bool
  | .non, .none => true
  | .bl b, .bool c => b == c
  | .int i, .int j _ => i == j
  | .str s, .str z _ => s == z
  | .tup vs, .ref a => match K.lookup a with
    | some ⟨.type T, _, .seq its _, _⟩ => T == "tuple" && decide (its.size ≤ sizeLine) && kvBs K vs its.toList
    | _ => false
  | _, _ => false
def kvBs (K : PySem.W.Frag) : List Val → List Value → Bool
  | [], [] => true
  | v :: vs, u :: us => kvB K v u && kvBs K vs us
  | _, _ => false
end
mutual
theorem kvB_rel {K : PySem.W.Frag} : ∀ {v : Val} {u : Value}, kvB K v u = true → ∃ x, RelV x u ∧ ∀ ρ H, VR K ρ H v x
  | .non, u, h => by cases u <;> simp [kvB] at h; exact ⟨.non, rfl, fun _ _ => rfl⟩
  | .bl b, u, h => by cases u <;> simp [kvB] at h; subst h; exact ⟨.bl b, rfl, fun _ _ => rfl⟩
  | .int i, u, h => by cases u <;> simp [kvB] at h; subst h; exact ⟨.int i, ⟨_, rfl⟩, fun _ _ => rfl⟩
  | .str i, u, h => by cases u <;> simp [kvB] at h; subst h; exact ⟨.str i, ⟨_, rfl⟩, fun _ _ => rfl⟩
  | .tup vs, u, h => by
    cases u with
    | ref a =>
      unfold kvB at h
      split at h
      · rename_i T dd its n sl hl
        simp only [Bool.and_eq_true, decide_eq_true_eq, beq_iff_eq] at h
        obtain ⟨⟨rfl, h2⟩, h3⟩ := h
        obtain ⟨xs, h4, h5⟩ := kvBs_rel h3
        exact ⟨.ref a, rfl, fun ρ H => ⟨a, xs, rfl, .inr ⟨_, its, n, hl, rfl, rfl, h2, h4⟩, h5 ρ H⟩⟩
      · cases h
    | _ => simp [kvB] at h
  | .loc _, u, h => by cases u <;> simp [kvB] at h
  | .ro _, u, h => by cases u <;> simp [kvB] at h
theorem kvBs_rel {K : PySem.W.Frag} : ∀ {vs : List Val} {us : List Value}, kvBs K vs us = true → ∃ xs, Vals xs us ∧ ∀ ρ H, VRs K ρ H vs xs
  | [], us, h => by cases us <;> simp [kvBs] at h; exact ⟨[], .nil, fun _ _ => rfl⟩
  | v :: vs, us, h => by
    cases us with
    | nil => simp [kvBs] at h
    | cons u us =>
      simp only [kvBs, Bool.and_eq_true] at h
      obtain ⟨x, h1, h2⟩ := kvB_rel h.1
      obtain ⟨xs, h3, h4⟩ := kvBs_rel h.2
      exact ⟨x :: xs, .cons h1 h3, fun ρ H => VRs.cons (h2 ρ H) (h4 ρ H)⟩
end

theorem no_exc' {P : Program} {w : World} {st : List PySem.Env} {H : Hp} {s s' : Shared} {e : Value} (z : L2.CX P w st H s (fun _ _ _ => False) e s') : False := by
  obtain ⟨_, _, _, _, _, _, _, _, _, _, _, _, z⟩ := z
  exact z
section
variable {X : L2.Cx} {L : Lk} {W : WX} {Γ : Cx} {k : Nat} {a b c e o tg : Expr} {es : List Expr} {ea eb ec : E} {ms : List E} {pos p apos cpos : Pos} {x : Str}
/-- a constant of the module -/
theorem m_gcst {v : Val} {u : Value} (G : Good X L Γ W k) (hg : Gl X x) (hm : L.mg x = some u) (hc : kvB L.K v u = true) (hdb : (x == ("__debug__" : Str)) = false := by decide) : PE X (.Name x pos) (tM L W (ev Γ (.cst v))) := by
  obtain ⟨y, r, h⟩ := kvB_rel hc
  exact m_const (pe_glob hg (by rw [G.hm]; exact hm) r hdb) h
/-- a dict of the module: texts to constants -/
def KD (L : Lk) (u : Value) (kvs : List (Str × Val)) : Prop := ∃ a, u = .ref a ∧ ∀ z v, kvs.lookup z = some v → ∃ y, KDct L.K L.w a z y ∧ ∀ ρ H, VR L.K ρ H v y
theorem m_gsub {kvs : List (Str × Val)} {u : Value} (G : Good X L Γ W k) (hg : Gl X x) (hm : L.mg x = some u) (hd : KD L u kvs) (hb : PE X b (tM L W (ev Γ eb))) (hs : PlainIx b) (hdb : (x == ("__debug__" : Str)) = false := by decide) : PE X (.Subscript (.Name x p) b pos) (tM L W (ev Γ (.gsub kvs eb))) := by
  obtain ⟨q, rfl, hd⟩ := hd
  have hn : PE X (.Name x p) (tC (.ref q)) := pe_glob hg (by rw [G.hm]; exact hm) rfl hdb
  refine ⟨fun pins s σ H Q I ⟨ρ, S, env, R, er, hA⟩ => ?_⟩
  unfold ev at hA
  refine Subscript_ (binT hn hb I (R := fun x y H2 => ∃ (z : Str) (v : V), x = .ref q ∧ y = .str z ∧ KDct X.K X.w q z v ∧ Q v H2) ?_ fun v u s2 x y H2 I2 rx ry h => ?_)
  · refine ⟨ρ, S, env, R, er, (Aft.split (Ru := VR L.K) hA).imp ?_⟩
    rintro y H1 ⟨ρ1, S1, v, p1, k1, R1, rv, h1⟩
    cases v with
    | str z =>
      have h1 : AftV L ρ1 H1 σ W Q (Res.of (kvs.lookup z) S1) := h1
      cases hl : kvs.lookup z with
      | none => rw [hl] at h1; exact h1.elim
      | some v =>
        rw [hl] at h1
        obtain ⟨y', hk, hr⟩ := hd z v hl
        exact ⟨z, y', rfl, rv, by rw [G.hK, G.hw]; exact hk, Aft.now h1 R1 (hr _ _)⟩
    | _ => exact h1.elim
  · obtain ⟨z, v0, rfl, rfl, hk, hq⟩ := h
    exact ix_kdict _ b pins s2 σ H2 (.ref q) (.str z) v u Q I2 rx ry ⟨q, z, v0, rfl, rfl, hk, hq⟩ (hs _ _)

/-! ### own subscripts -/
/-- the method at a special name, told by the class alone -/
theorem Good.methC (G : Good X L Γ W k) {ρ : List Addr} {H : Hp} {S : Store} {m n f cc : Nat} {fs : List (Nat × Val)} {y : V} {nm : Str} (hn : L.names[m]? = some nm) (R : Rel L ρ S H) (r : VR L.K ρ H (.loc n) y) (e : S[n]? = some (.obj cc fs)) (h : methOf Γ cc m = some f) :
    ∃ q C dx gs d, y = .ref q ∧ H q = some (.ins C dx gs) ∧ Meth X.K C nm (L.fn f).a ∧ L.T.defs f = some d ∧ PySem.W.noSeq X.K C = true := by
  unfold methOf at h
  obtain ⟨ci, e2, e3⟩ := Option.bind_eq_some_iff.mp h
  obtain ⟨q, C, dx, gs, ci', rfl, hq, h0, h1, h2, h3, h4⟩ := r.obj R e
  rw [G.hT, h3] at e2; cases e2
  obtain ⟨C', hC, cl, _, ns, hf, hme, _⟩ := G.link.cls cc ci h3
  rw [h0] at hC; cases hC
  obtain ⟨nm', hn', me, d, hd⟩ := hme m f e3
  rw [hn] at hn'; cases hn'
  exact ⟨q, C, dx, gs, d, rfl, h1, by rw [G.hK]; exact me, hd, by rw [G.hK]; exact ns⟩
/-- a def is called one frame deeper -/
theorem Good.callIn (G : Good X L Γ W k) {f : Nat} {d : Def} (hd : L.T.defs f = some d) {pins : List (Addr × Obj)} {σ : St} {H : Hp} {s : Shared} {ρ : List Addr} {S : Store} {args : List Val} {vs : List V} {us : List Value} {Q : VK}
    (I : Inv X pins σ H s) (r : Vals vs us) (R : Rel L ρ S H) (ra : VRs L.K ρ H args vs) (h : AftV L ρ H σ W Q (Γ.call f args S)) : wpAny (model X.prog X.w) X.A.in1 (call (.ref (L.fn f).a) us) (EP X pins σ Q) X.xe s := by
  have F := G.fn f d hd
  have hb : Binds X.K (L.fn f).fd (L.fn f).ps [] := by rw [G.hK]; exact G.link.binds f d hd
  have hsp : spM L Γ.call f vs H Q (fun cls d H => W cls d σ H) := by
    refine ⟨ρ, S, args, R, ra, ?_⟩
    cases q : Γ.call f args S with
    | ok v S' => rw [q] at h; exact h
    | exc c fs S' => rw [q] at h; exact h
    | bad => rw [q] at h; exact h.elim
  have hl : (us ++ ([] : List Value)).length = (L.fn f).ps.length := by
    rw [List.append_nil, ← r.length]
    exact F.len _ _ _ _ hsp
  have hb2 := hb s us I.kIn hl
  rw [List.append_nil] at hb2
  refine wpAny_call (codeAny_mono (F.run X.A.in1 X.stack s H ⟨us, []⟩ us vs Q _ (G.room (G.calmA hd h)).in1 I.env0.in1 hb2 r hsp) fun r s' hq => ?_)
  cases r with
  | error e => exact G.pass σ pins H s e s' I hq
  | ok fl =>
    cases fl with
    | ret u => exact I.after hq
    | next => exact False.elim hq
    | brk => exact False.elim hq
    | cont => exact False.elim hq
/-- the subscripts of instances -/
theorem ownGet (G : Good X L Γ W k) (hn : L.names[mGet]? = some "__getitem__") (hfn : ∀ f d, L.T.defs f = some d → PySem.W.fnIn L.K (L.fn f).a = true)
    (hsl : ∀ x i, subscripted b true (.ref x) i = runValue (.builtin "lifetime.subscript" ⟨[.ref x, i], []⟩) := by intro _ _; with_unfolding_all rfl)
    (pins : List (Addr × Obj)) (s : Shared) (σ : St) (H : Hp) (ρ : List Addr) (S : Store) (n : Nat) (vy : Val) (x y : V) (v u : Value) (Q : VK) (I : Inv X pins σ H s) (rx : RelV x v) (ry : RelV y u) (R : Rel L ρ S H) (hx : VR L.K ρ H (.loc n) x) (hy : VR L.K ρ H vy y)
    (hc : ∃ c fs, S[n]? = some (.obj c fs)) (hA : AftV L ρ H σ W Q (subV Γ (.loc n) vy S)) : wpAny (model X.prog X.w) X.A (subscriptTail a b v u) (EP X pins σ Q) X.xe s := by
  obtain ⟨cc, fs, e⟩ := hc
  unfold subV at hA
  simp only [e] at hA
  cases hm : methOf Γ cc mGet with
  | none => rw [hm] at hA; exact hA.elim
  | some f =>
    rw [hm] at hA
    obtain ⟨q, C, dx, gs, d, rfl, hH, me, hd, ns⟩ := G.methC hn R hx e hm
    cases (show v = Value.ref q from rx)
    obtain ⟨od, J⟩ := inst_look I hH
    obtain ⟨mm, F⟩ := I.fr
    have hf : PySem.W.fnIn X.K (L.fn f).a = true := by rw [G.hK]; exact hfn f d hd
    exact PySem.W.sub_K F I.ok.mod.kin J me.at_ hf me.fn (G.callIn (us := [.ref q, u]) (vs := [.ref q, y]) hd I (.cons rfl (.cons ry .nil)) R (VRs.cons hx (VRs.cons hy VRs.nil)) hA) (hsl _ _)
theorem ownSet (G : Good X L Γ W k) (hn : L.names[mSet]? = some "__setitem__") : OwnSet X L W Γ := by
  intro pins s σ H ρ S n vi vv y yi yv ov iv u Q I R hx hi hv ro ri rv hc hA
  obtain ⟨cc, fs, e⟩ := hc
  unfold setIV at hA
  simp only [e] at hA
  cases hm : methOf Γ cc mSet with
  | none => rw [hm] at hA; exact hA.elim
  | some f =>
    rw [hm] at hA
    obtain ⟨q, C, dx, gs, d, rfl, hH, me, hd, ns⟩ := G.methC hn R hx e hm
    cases (show ov = Value.ref q from ro)
    obtain ⟨od, J⟩ := inst_look I hH
    obtain ⟨mm, F⟩ := I.fr
    refine PySem.W.ksp_setItem F I.ok.mod.kin J ns me.at_ me.fn ?_
    refine thn (G.callF (us := [.ref q, iv, u]) (vs := [.ref q, yi, yv]) hd I (.cons rfl (.cons ri (.cons rv .nil))) R (VRs.cons hx (VRs.cons hi (VRs.cons hv VRs.nil))) (Aft.split (Ru := VR L.K) hA)) fun r s' h => ?_
    obtain ⟨z, H', I', rz, ρ1, S1, w, p1, k1, R1, rw', h1⟩ := h
    exact ⟨H', I', h1 ρ1 H' () (List.prefix_refl _) (Keep.refl _) R1 trivial⟩
/-- ~o -/
theorem m_inv (G : Good X L Γ W k) (hn : L.names[mInv]? = some "__invert__") (ha : PE X a (tM L W (ev Γ ea))) : PE X (.UnaryOp .Invert a pos) (tM L W (ev Γ (.inv ea))) := by
  refine ⟨fun pins s σ H Q I ⟨ρ, S, env, R, er, hA⟩ => ?_⟩
  unfold ev at hA
  refine UnaryOp_ (thn (ha.run pins s σ H _ I ⟨ρ, S, env, R, er, Aft.split (Ru := VR L.K) hA⟩) fun v s1 ⟨x, H1, I1, r1, ρ1, S1, vx, p1, k1, R1, rx, h1⟩ => ?_)
  cases vx with
  | loc n =>
    have h1 : AftV L ρ1 H1 σ W Q (match special Γ S1 mInv n with
      | some f => Γ.call f [.loc n] S1
      | none => .bad) := h1
    cases hs : special Γ S1 mInv n with
    | none => rw [hs] at h1; exact h1.elim
    | some f =>
      rw [hs] at h1
      obtain ⟨q, C, dx, gs, d, rfl, hq, hH, cl, me, hl, hd⟩ := G.meth hn R1 rx hs
      cases (show v = Value.ref q from r1)
      obtain ⟨od, J⟩ := inst_look I1 hH
      obtain ⟨mm, F⟩ := I1.fr
      exact PySem.W.ksp_inv F I1.ok.mod.kin J me.at_ me.fn (G.callF (us := [.ref q]) (vs := [.ref q]) hd I1 (.cons rfl .nil) R1 (VRs.cons rx VRs.nil) h1)
  | _ => exact h1.elim

/-! ### properties -/
/-- what the numbers of properties stand for -/
def PrpOk (L : Lk) : Prop := ∀ c ci m f, L.T.cls c = some ci → ci.props.lookup m = some f → ∃ C nm p, L.caddr c = some C ∧ L.names[m]? = some nm ∧ PropOf L.K C nm p (L.fn f).a ∧ ∃ d, L.T.defs f = some d
theorem m_prp {m : Nat} {nm : Str} (G : Good X L Γ W k) (P : PrpOk L) (hn : L.names[m]? = some nm) (ha : PE X o (tM L W (ev Γ ea))) (hab : attributeBase o nm X.env (eval o X.env) = eval o X.env := by rfl) : PE X (.Attribute o nm pos) (tM L W (ev Γ (.prp ea m))) := by
  refine ⟨fun pins s σ H Q I ⟨ρ, S, env, R, er, hA⟩ => ?_⟩
  unfold ev at hA
  refine attr_of hab (thn (ha.run pins s σ H _ I ⟨ρ, S, env, R, er, Aft.split (Ru := VR L.K) hA⟩) fun u s1 ⟨x, H1, I1, r1, ρ1, S1, v, p1, k1, R1, rx, h1⟩ => ?_)
  cases v with
  | loc n =>
    have h1 : AftV L ρ1 H1 σ W Q (match (objAt S1 n).bind fun p => propOf Γ p.1 m with
      | some f => (Γ.call f [.loc n] S1).calm
      | none => .bad) := h1
    cases hs : (objAt S1 n).bind fun p => propOf Γ p.1 m with
    | none => rw [hs] at h1; exact h1.elim
    | some f =>
      rw [hs] at h1
      have h1 : AftV L ρ1 H1 σ W Q (Γ.call f [.loc n] S1).calm := h1
      obtain ⟨⟨c, fs⟩, e1, e2⟩ := Option.bind_eq_some_iff.mp hs
      obtain ⟨q, C, dx, gs, ci, rfl, hq, h0, hH, hF, hc, hfs⟩ := rx.obj R1 (objAt_some e1)
      unfold propOf at e2
      rw [G.hT, hc] at e2
      obtain ⟨C', nm', pa, hC', hn', hp, d, hd⟩ := P c ci m f hc e2
      rw [h0] at hC'; cases hC'
      rw [hn] at hn'; cases hn'
      obtain ⟨C', hC', cl, _⟩ := G.link.cls c ci hc
      rw [h0] at hC'; cases hC'
      cases (show u = Value.ref q from r1)
      have hb : Binds X.K (L.fn f).fd (L.fn f).ps [] := by rw [G.hK]; exact G.link.binds f d hd
      refine getprop_ok (dvs := []) (ds := []) (E := fun _ _ _ => False) I1 hH (by rw [G.hK]; exact cl) (by rw [G.hK]; exact hp) (G.fn f d hd) (G.room (G.calmOf hd rfl fun z => by rw [z] at h1; exact h1.elim)) hb .nil ?_ ⟨ρ1, S1, [.loc n], R1, VRs.cons rx VRs.nil, ?_⟩
      · intro pins σ H s e s' I z
        exact (no_exc' z).elim
      · cases hq2 : Γ.call f [.loc n] S1 with
        | ok v S' => rw [hq2] at h1; exact h1
        | exc c fs S' => rw [hq2] at h1; exact h1.elim
        | bad => rw [hq2] at h1; exact h1.elim
  | _ => exact h1.elim
end
end C
end
section
set_option Elab.async false
set_option linter.all false
set_option maxRecDepth 100000
set_option maxHeartbeats 1000000
/-! C19: calls with defaults, static methods, isinstance of own classes, displays of constants. -/
namespace C
open PySem PySem.Spec L2 ItX
open PyProof.Rows hiding St

/-- the values that fill up a call of f -/
def Dfl (L : Lk) (f : Nat) (dv : List Val) : Prop := ∃ ds xs, Binds L.K (L.fn f).fd (L.fn f).ps ds ∧ Vals xs ds ∧ ∀ ρ H, VRs L.K ρ H dv xs
theorem Dfl.none {L : Lk} (h : LkOk L) {f : Nat} {d : Def} (hd : L.T.defs f = some d) : Dfl L f [] := ⟨[], [], h.binds f d hd, .nil, fun _ _ => rfl⟩
section
variable {X : L2.Cx} {L : Lk} {W : WX} {Γ : Cx} {k : Nat} {a b c e o tg : Expr} {es : List Expr} {ea eb ec : E} {ms : List E} {pos p apos cpos : Pos} {x : Str}
theorem evs_csts {env : Env} {S : Store} : ∀ dv : List Val, evs Γ (dv.map E.cst) env S = .ok dv S
  | [] => by unfold evs; rfl
  | v :: dv => by
    rw [List.map_cons]
    unfold evs
    have e1 : ev Γ (.cst v) env S = .ok v S := by unfold ev; rfl
    rw [e1]
    simp only [Res.bind_ok, evs_csts dv]
theorem evs_app {env : Env} {dv : List Val} : ∀ (ms : List E) (S : Store), evs Γ (ms ++ dv.map E.cst) env S = (evs Γ ms env S).bind fun xs S1 => .ok (xs ++ dv) S1
  | [], S => by
    rw [List.nil_append, evs_csts]
    unfold evs
    rfl
  | m :: ms, S => by
    rw [List.cons_append]
    conv => lhs; unfold evs
    conv => rhs; unfold evs
    cases ev Γ m env S with
    | ok v S1 =>
      simp only [Res.bind_ok]
      rw [evs_app ms S1]
      cases evs Γ ms env S1 with
      | ok xs S2 => rfl
      | exc c fs S2 => rfl
      | bad => rfl
    | exc c fs S1 => rfl
    | bad => rfl
theorem VRs.app {ρ : List Addr} {H : Hp} {vs ws : List Val} {xs ys : List V} (h : VRs L.K ρ H vs xs) (g : VRs L.K ρ H ws ys) : VRs L.K ρ H (vs ++ ws) (xs ++ ys) := h.append g
theorem Good.callD (G : Good X L Γ W k) {f : Nat} {d : Def} {dv : List Val} (hd : L.T.defs f = some d) (hD : Dfl L f dv) {pins : List (Addr × Obj)} {σ : St} {H : Hp} {s : Shared} {ρ : List Addr} {S : Store} {args : List Val} {vs : List V} {us : List Value} {Q : VK}
    (I : Inv X pins σ H s) (r : Vals vs us) (R : Rel L ρ S H) (ra : VRs L.K ρ H args vs) (h : AftV L ρ H σ W Q (Γ.call f (args ++ dv) S)) : wpAny (model X.prog X.w) X.A (call (.ref (L.fn f).a) us) (EP X pins σ Q) X.xe s := by
  have F := G.fn f d hd
  obtain ⟨ds, xs, hb, hv, hr⟩ := hD
  refine run_fnSD (dvs := xs) (ds := ds) (E := fun σ cls d H => W cls d σ H) F (G.room' (G.calmA hd h)) (by rw [G.hK]; exact hb) hv (G.pass σ) I r ?_
  refine ⟨ρ, S, args ++ dv, R, ra.app (hr ρ H), ?_⟩
  cases q : Γ.call f (args ++ dv) S with
  | ok v S' => rw [q] at h; exact h
  | exc c fs S' => rw [q] at h; exact h
  | bad => rw [q] at h; exact h.elim
theorem m_callD (G : Good X L Γ W k) {f : Nat} {d : Def} {dv : List Val} (hd : L.T.defs f = some d) (hD : Dfl L f dv) (hg : Gl X x) (hm : L.mg x = some (.ref (L.fn f).a)) (ha : PA X (e :: es) (tMs L W (evs Γ ms)))
    (hdb : (x == ("__debug__" : Str)) = false := by decide) (he : starEach (e :: es) X.env = (false, eval e X.env) :: starEach es X.env := by rfl) (hpl : (backTo pos (starEach es X.env)).any (·.1) = false := by rfl) :
    PE X (.Call (.Name x p) (e :: es) [] pos) (tM L W (ev Γ (.call f (ms ++ dv.map E.cst)))) := by
  refine ⟨fun pins s σ H Q I ⟨ρ, S, env, R, er, hA⟩ => ?_⟩
  unfold ev at hA
  rw [evs_app, Res.bind_assoc] at hA
  refine wpAny_Call_Name_kw (ld_glob I hg (by rw [G.hm]; exact hm) ?_ hdb)
  refine PySem.W.callWith_K (h₀ := X.base) I.ok.mod.kin (by rw [G.hK]; exact G.link.keep f d hd) (thn (ha.run pos pins s σ H _ I ⟨ρ, S, env, R, er, Aft.split (Ru := VRs L.K) hA⟩) fun us s1 ⟨vs, H1, I1, r, ρ1, S1, args, p1, k1, R1, ra, h1⟩ => ⟨I1.kIn, ?_⟩) he hpl
  exact G.callD hd hD I1 r R1 ra h1
/-- o.m(e, ..), the rest filled up -/
theorem m_methD {pl : Sem Bool} {m : Nat} {nm : Str} {dv : List Val} (G : Good X L Γ W k) (hn : L.names[m]? = some nm) (hD : ∀ c ci f, L.T.cls c = some ci → ci.meths.lookup m = some f → Dfl L f dv) (ho : PE X o (tM L W (ev Γ ea))) (ha : PA X (e :: es) (tMs L W (evs Γ ms)))
    (hst : starEach (e :: es) X.env = (false, eval e X.env) :: starEach es X.env := by rfl) (hpl : (backTo pos (starEach es X.env)).any (·.1) = false := by rfl)
    (ht : eval (.Call (.Attribute o nm apos) (e :: es) [] pos) X.env = (do
      let ov ← eval o X.env
      standAt apos.atName
      let (f, first) ← holding [ov] (getMethod ov nm pl)
      callWith pos f first (backTo pos (starEach (e :: es) X.env)) (backToKw pos (keywordEach [] X.env))) := by rfl) :
    PE X (.Call (.Attribute o nm apos) (e :: es) [] pos) (tM L W (ev Γ (.meth ea m (ms ++ dv.map E.cst)))) := by
  refine ⟨fun pins s σ H Q I ⟨ρ, S, env, R, er, hA⟩ => ?_⟩
  unfold ev at hA
  refine PySem.W.methodCall_KW (pl := pl) (thn (ho.run pins s σ H _ I ⟨ρ, S, env, R, er, Aft.split (Ru := VR L.K) hA⟩) fun u s1 ⟨y, H1, I1, ry, ρ1, S1, v, p1, k1, R1, rv, h1⟩ => ?_) ht
  cases v with
  | loc n =>
    have h1 : AftV L ρ1 H1 σ W Q (match special Γ S1 m n with
      | some f => (evs Γ (ms ++ dv.map E.cst) env S1).bind fun xs S2 => Γ.call f (.loc n :: xs) S2
      | none => .bad) := h1
    cases hs : special Γ S1 m n with
    | none => rw [hs] at h1; exact h1.elim
    | some f =>
      rw [hs] at h1
      have h1 : AftV L ρ1 H1 σ W Q ((evs Γ (ms ++ dv.map E.cst) env S1).bind fun xs S2 => Γ.call f (.loc n :: xs) S2) := h1
      rw [evs_app, Res.bind_assoc] at h1
      obtain ⟨c0, fs0, ci0, e0, _, ec0, em0⟩ := special_some hs
      obtain ⟨q, C, dx, gs, d, rfl, hq, hH, cl, me, hl, hd⟩ := G.meth hn R1 rv hs
      obtain rfl : u = Value.ref q := ry
      refine getmeth_ok I1 hH cl me hl ?_
      refine PySem.W.callWith_K (first := [.ref q]) (h₀ := X.base) I.ok.mod.kin me.kp (thn (ha.run pos pins s1 σ H1 _ I1 ⟨ρ1, S1, env, R1, er.mono p1 k1, Aft.split (Ru := VRs L.K) h1⟩) fun us s2 ⟨vs, H2, I2, r2, ρ2, S2, args, p2, k2, R2, ra, h2⟩ => ⟨I2.kIn, ?_⟩) hst hpl
      exact G.callD (us := .ref q :: us) (vs := .ref q :: vs) (args := .loc n :: args) hd (hD c0 ci0 f (by rw [← G.hT]; exact ec0) em0) I2 (.cons rfl r2) R2 (VRs.cons (rv.mono p2 k2) ra) h2
  | _ => exact h1.elim
/-! ### instances, the rest filled up -/
theorem Good.makeD (G : Good X L Γ W k) {c f : Nat} {ci : ClsI} {dv : List Val} (hc : L.T.cls c = some ci) (hf : ci.init = some f) (hD : Dfl L f dv) {C : Addr} (hC : L.caddr c = some C) {pins : List (Addr × Obj)} {σ : St} {H : Hp} {s : Shared} {ρ : List Addr} {S : Store} {args : List Val} {vs : List V} {us : List Value} {Q : VK}
    (I : Inv X pins σ H s) (r : Vals vs us) (R : Rel L ρ S H) (ra : VRs L.K ρ H args vs)
    (h : AftV L ρ H σ W Q ((Γ.call f (.loc S.length :: (args ++ dv)) (S ++ [.obj c []])).bind fun v S2 => if v = .non then .ok (.loc S.length) S2 else .bad)) : wpAny (model X.prog X.w) X.A (call (.ref C) us) (EP X pins σ Q) X.xe s := by
  obtain ⟨C', hC', cl, _, _, _, _, hi⟩ := G.link.cls c ci hc
  rw [hC] at hC'; cases hC'
  obtain ⟨M, d, hd⟩ := hi f hf
  have M' : Mk X.K C (L.fn f).a := by rw [G.hK]; exact M
  have F := G.fn f d hd
  obtain ⟨ds, xs, hb0, hv, hr⟩ := hD
  have hb : Binds X.K (L.fn f).fd (L.fn f).ps ds := by rw [G.hK]; exact hb0
  have hx : H (s.heap.objs.size + 1) = none := I.hok.fresh (Nat.le_succ _)
  have hdx : H s.heap.objs.size = none := I.hok.fresh (Nat.le_refl _)
  have hne : s.heap.objs.size ≠ s.heap.objs.size + 1 := Nat.ne_of_lt (Nat.lt_succ_self _)
  have I2 := Inv.made (C := C) I
  have k1 : Keep H (upd H s.heap.objs.size (.own (s.heap.objs.size + 1))) := Keep.new hdx
  have R1 : Rel L ρ S (upd H s.heap.objs.size (.own (s.heap.objs.size + 1))) := R.new hdx
  have hx1 : upd H s.heap.objs.size (.own (s.heap.objs.size + 1)) (s.heap.objs.size + 1) = none := by rw [upd_ne (Ne.symm hne)]; exact hx
  have k2 : Keep (upd H s.heap.objs.size (.own (s.heap.objs.size + 1))) (upd (upd H s.heap.objs.size (.own (s.heap.objs.size + 1))) (s.heap.objs.size + 1) (.ins C s.heap.objs.size [])) := Keep.new hx1
  have R2 := R1.alloc (c := .obj c []) (o := .ins C s.heap.objs.size []) hx1 ⟨C, s.heap.objs.size, [], ci, hC, upd_same, rfl, hc, fun p hp => by cases hp⟩
  have kk := k1.trans k2
  have hself : VR L.K (ρ ++ [s.heap.objs.size + 1]) (upd (upd H s.heap.objs.size (.own (s.heap.objs.size + 1))) (s.heap.objs.size + 1) (.ins C s.heap.objs.size [])) (.loc S.length) (.ref (s.heap.objs.size + 1)) := by
    refine ⟨_, rfl, ?_⟩
    rw [← R.len, List.getElem?_append_right (Nat.le_refl _)]
    simp
  have ra2 : VRs L.K (ρ ++ [s.heap.objs.size + 1]) (upd (upd H s.heap.objs.size (.own (s.heap.objs.size + 1))) (s.heap.objs.size + 1) (.ins C s.heap.objs.size [])) (.loc S.length :: (args ++ dv)) (.ref (s.heap.objs.size + 1) :: (vs ++ xs)) := VRs.cons hself ((ra.mono (List.prefix_append _ _) kk).app (hr _ _))
  have h2 := Aft.split (Ru := VR L.K) (Aft.mono (List.prefix_append ρ [s.heap.objs.size + 1]) kk h)
  have hsp : spM L Γ.call f (.ref (s.heap.objs.size + 1) :: (vs ++ xs)) (upd (upd H s.heap.objs.size (.own (s.heap.objs.size + 1))) (s.heap.objs.size + 1) (.ins C s.heap.objs.size [])) (fun v H2 => v = .non ∧ Q (.ref (s.heap.objs.size + 1)) H2) (fun cls d H => W cls d σ H) := by
    refine ⟨_, _, _, R2, ra2, ?_⟩
    have h3 := h2.imp (Q' := fun v H2 => v = .non ∧ Q (.ref (s.heap.objs.size + 1)) H2) (by
      rintro x H' ⟨ρ3, S3, v, p3, k3, R3, rv, hq⟩
      by_cases hv : v = .non
      · rw [if_pos hv] at hq
        subst hv
        obtain rfl : x = .non := rv
        exact ⟨rfl, Aft.now hq R3 (hself.mono p3 k3)⟩
      · rw [if_neg hv] at hq
        exact hq.elim)
    cases q : Γ.call f (.loc S.length :: (args ++ dv)) (S ++ [.obj c []]) with
    | ok v S' => rw [q] at h3; exact h3
    | exc c fs S' => rw [q] at h3; exact h3
    | bad => rw [q] at h3; exact h3.elim
  have r2 : Vals (V.ref (s.heap.objs.size + 1) :: vs) (Value.ref (s.heap.objs.size + 1) :: us) := .cons rfl r
  have r3 : Vals (V.ref (s.heap.objs.size + 1) :: (vs ++ xs)) (Value.ref (s.heap.objs.size + 1) :: (us ++ ds)) := .cons rfl (r.append hv)
  have hl : (Value.ref (s.heap.objs.size + 1) :: us ++ ds).length = (L.fn f).ps.length := by
    rw [List.cons_append, ← r3.length]
    exact F.len _ _ _ _ hsp
  have hb2 := hb _ (Value.ref (s.heap.objs.size + 1) :: us) I2.kIn hl
  rw [List.cons_append] at hb2
  refine wpAny_call (make_map (f := (L.fn f).a) I.kIn M'.makes M'.init (beq_iff_eq.mp M'.fn) (codeAny_mono (F.run _ X.stack _ _ ⟨Value.ref (s.heap.objs.size + 1) :: us, []⟩ (Value.ref (s.heap.objs.size + 1) :: (us ++ ds)) _ _ _ ((G.room (G.calmB hd h)).make C us [])
    (I2.env0.make C us []) hb2 r3 hsp) fun r s' hq' => ?_))
  cases r with
  | error e =>
    exact G.takes e s' (XE.of_call I2 (fun _ _ _ h => h) hq')
  | ok fl =>
    cases fl with
    | ret u =>
      obtain ⟨v, H', I3, rv, ev, q3⟩ := I2.after hq'
      subst ev
      exact ⟨rv, ⟨V.ref (s.heap.objs.size + 1), H', I3, rfl, q3⟩⟩
    | next => exact False.elim hq'
    | brk => exact False.elim hq'
    | cont => exact False.elim hq'
theorem m_makeD (G : Good X L Γ W k) {c f : Nat} {ci : ClsI} {dv : List Val} {Ca : Addr} (hc : L.T.cls c = some ci) (hf : ci.init = some f) (hD : Dfl L f dv) (hC : L.caddr c = some Ca) (hg : Gl X x) (hm : L.mg x = some (.ref Ca)) (ha : PA X (e :: es) (tMs L W (evs Γ ms)))
    (hdb : (x == ("__debug__" : Str)) = false := by decide) (he : starEach (e :: es) X.env = (false, eval e X.env) :: starEach es X.env := by rfl) (hpl : (backTo pos (starEach es X.env)).any (·.1) = false := by rfl) :
    PE X (.Call (.Name x p) (e :: es) [] pos) (tM L W (ev Γ (.make c (ms ++ dv.map E.cst)))) := by
  refine ⟨fun pins s σ H Q I ⟨ρ, S, env, R, er, hA⟩ => ?_⟩
  unfold ev at hA
  rw [evs_app, Res.bind_assoc] at hA
  obtain ⟨C', hC', cl, _, _, _, _, hi⟩ := G.link.cls c ci hc
  rw [hC] at hC'; cases hC'
  refine wpAny_Call_Name_kw (ld_glob I hg (by rw [G.hm]; exact hm) ?_ hdb)
  refine PySem.W.callWith_K (h₀ := X.base) I.ok.mod.kin (by rw [G.hK]; exact (hi f hf).1.kp) (thn (ha.run pos pins s σ H _ I ⟨ρ, S, env, R, er, Aft.split (Ru := VRs L.K) hA⟩) fun us s1 ⟨vs, H1, I1, r, ρ1, S1, args, p1, k1, R1, ra, h1⟩ => ⟨I1.kIn, ?_⟩) he hpl
  refine G.makeD hc hf hD hC I1 r R1 ra ?_
  have e1 : (Γ.T.cls c).bind (·.init) = some f := by rw [G.hT, hc]; exact hf
  have h1 : AftV L ρ1 H1 σ W Q (match (Γ.T.cls c).bind (·.init) with
    | some f => (Γ.call f (.loc S1.length :: (args ++ dv)) (S1 ++ [.obj c []])).bind fun v S2 => if v = .non then .ok (.loc S1.length) S2 else .bad
    | none => .bad) := h1
  rw [e1] at h1
  exact h1
theorem m_makeD0 (G : Good X L Γ W k) {c f : Nat} {ci : ClsI} {dv : List Val} {Ca : Addr} (hc : L.T.cls c = some ci) (hf : ci.init = some f) (hD : Dfl L f dv) (hC : L.caddr c = some Ca) (hg : Gl X x) (hm : L.mg x = some (.ref Ca))
    (hdb : (x == ("__debug__" : Str)) = false := by decide) : PE X (.Call (.Name x p) [] [] pos) (tM L W (ev Γ (.make c (dv.map E.cst)))) := by
  refine ⟨fun pins s σ H Q I ⟨ρ, S, env, R, er, hA⟩ => ?_⟩
  unfold ev at hA
  rw [evs_csts] at hA
  obtain ⟨C', hC', cl, _, _, _, _, hi⟩ := G.link.cls c ci hc
  rw [hC] at hC'; cases hC'
  refine wpAny_Call_Name_kw (ld_glob I hg (by rw [G.hm]; exact hm) ?_ hdb)
  refine PySem.W.callWith_K0 I.kIn (by rw [G.hK]; exact (hi f hf).1.kp) ?_
  refine G.makeD (us := []) (vs := []) (args := []) hc hf hD hC I .nil R VRs.nil ?_
  have e1 : (Γ.T.cls c).bind (·.init) = some f := by rw [G.hT, hc]; exact hf
  have h1 : AftV L ρ H σ W Q (match (Γ.T.cls c).bind (·.init) with
    | some f => (Γ.call f (.loc S.length :: dv) (S ++ [.obj c []])).bind fun v S2 => if v = .non then .ok (.loc S.length) S2 else .bad
    | none => .bad) := hA
  rw [e1] at h1
  exact h1

/-! ### static methods -/
/-- C.m is the def f, a static method of the class at C -/
structure SMet (K : PySem.W.Frag) (C : Addr) (m : Str) (f : Addr) : Prop where
  ex : ∃ mc p rest, ClX.CRead K C mc ∧ PySem.W.typeIn K (.ref C) = some mc ∧ PySem.W.findCls K (.ref C) mc m = some (.get (.builtin "staticmethod.__get__") (.ref p) .none (.ref C)) ∧ PySem.W.recIn K p "staticmethod" = some (.ref f :: rest) ∧ PySem.W.handedIn (.ref f) = true
theorem m_scall {pl : Sem Bool} {nm : Str} {Ca : Addr} {f : Nat} {d : Def} {dv : List Val} (G : Good X L Γ W k) (hd : L.T.defs f = some d) (hD : Dfl L f dv) (hg : Gl X x) (hm : L.mg x = some (.ref Ca)) (hS : SMet L.K Ca nm (L.fn f).a) (ha : PA X (e :: es) (tMs L W (evs Γ ms)))
    (hdb : (x == ("__debug__" : Str)) = false := by decide) (hst : starEach (e :: es) X.env = (false, eval e X.env) :: starEach es X.env := by rfl) (hpl : (backTo pos (starEach es X.env)).any (·.1) = false := by rfl)
    (ht : eval (.Call (.Attribute (.Name x p) nm apos) (e :: es) [] pos) X.env = (do
      let ov ← eval (.Name x p) X.env
      standAt apos.atName
      let (f, first) ← holding [ov] (getMethod ov nm pl)
      callWith pos f first (backTo pos (starEach (e :: es) X.env)) (backToKw pos (keywordEach [] X.env))) := by rfl) :
    PE X (.Call (.Attribute (.Name x p) nm apos) (e :: es) [] pos) (tM L W (ev Γ (.call f (ms ++ dv.map E.cst)))) := by
  have hn : PE X (.Name x p) (tC (.ref Ca)) := pe_glob hg (by rw [G.hm]; exact hm) rfl hdb
  refine ⟨fun pins s σ H Q I ⟨ρ, S, env, R, er, hA⟩ => ?_⟩
  unfold ev at hA
  rw [evs_app, Res.bind_assoc] at hA
  refine PySem.W.methodCall_KW (pl := pl) (thn (hn.run pins s σ H (fun x H' => x = .ref Ca ∧ H' = H) I ⟨rfl, rfl⟩) fun u s1 ⟨y, H1, I1, ry, ey, eH⟩ => ?_) ht
  subst ey eH
  obtain rfl : u = Value.ref Ca := ry
  obtain ⟨mc, pr, rest, rd, hty, hf, hrec, hh⟩ := hS.ex
  obtain ⟨mm, F⟩ := I1.fr
  refine PySem.W.method_cls I1.kIn (by rw [G.hK]; exact rd.ga) (PySem.W.cls_sm F I1.ok.mod.kin (by rw [G.hK]; exact hty) (by rw [G.hK]; exact rd.rd) (by rw [G.hK]; exact hf) (by rw [G.hK]; exact hrec) hh ?_)
  have I2 := I1.tok (s1.toks + 1)
  refine PySem.W.callWith_K (h₀ := X.base) I2.ok.mod.kin (by rw [G.hK]; exact G.link.keep f d hd) (thn (ha.run pos pins _ σ _ _ I2 ⟨ρ, S, env, R, er, Aft.split (Ru := VRs L.K) hA⟩) fun us s2 ⟨vs, H2, I3, r2, ρ2, S2, args, p2, k2, R2, ra, h2⟩ => ⟨I3.kIn, ?_⟩) hst hpl
  exact G.callD hd hD I3 r2 R2 ra h2

/-! ### isinstance of own classes -/
/-- the facts that isinstance asks of an own class -/
structure InsOk (K : PySem.W.Frag) (C : Addr) : Prop where
  ha : PySem.W.findIn K (.ref C) "__class__" = some (some (.builtin "object.__class__"))
  hn : PySem.W.specialIn K (.builtin "object.__class__") "__get__" = some (some (.builtin "getset_descriptor.__get__"))
  htk : PySem.W.takesIn K (.builtin "object.__class__") = some true
  hm : PySem.W.mroIn K C (.type "object") = some true
/-- of all classes: is one the other -/
def IsisOk (L : Lk) (d : Nat) : Prop := ∀ c ci C D, L.T.cls c = some ci → L.caddr c = some C → L.caddr d = some D → InsOk L.K C ∧ PySem.W.kitOne L.K (.ref C) (.ref D) = some (c == d)
theorem m_isiC {d : Nat} {Da : Addr} {p2 : Pos} (G : Good X L Γ W k) (hI : IsisOk L d) (ha : PE X a (tM L W (ev Γ ea))) (hg : Gl X "isinstance") (hm : L.mg "isinstance" = none) (hg2 : Gl X x) (hm2 : L.mg x = some (.ref Da)) (hD : L.caddr d = some Da)
    (hdb2 : (x == ("__debug__" : Str)) = false := by decide)
    (he : starEach [a, .Name x p2] X.env = [(false, eval a X.env), (false, eval (.Name x p2) X.env)] := by rfl) (he2 : starEach [.Name x p2] X.env = [(false, eval (.Name x p2) X.env)] := by rfl) :
    PE X (.Call (.Name "isinstance" p) [a, .Name x p2] [] pos) (tM L W (ev Γ (.isi ea (.cls d)))) := by
  have hx2 : PE X (.Name x p2) (tC (.ref Da)) := pe_glob hg2 (by rw [G.hm]; exact hm2) rfl hdb2
  refine PE.mono (pe_callB call_isi hg (by rw [G.hm]; exact hm) (by decide +kernel) (pa_cons ha (pa_cons hx2 pa_nil (by rw [he2]; rfl)) (by rw [he, he2])) (by decide) (by decide) (by rw [he, he2]) (by rw [he2]; rfl)) fun σ H Q ⟨ρ, S, env, R, er, hA⟩ => ⟨ρ, S, env, R, er, ?_⟩
  unfold ev at hA
  refine (Aft.split (Ru := VR L.K) hA).imp ?_
  rintro y H1 ⟨ρ1, S1, v, p1, k1, R1, rv, h1⟩
  unfold isiV at h1
  cases hk : kindOf v S1 with
  | none => rw [hk] at h1; exact h1.elim
  | some kd =>
    rw [hk] at h1
    cases kd with
    | obj c =>
      have h1 : AftV L ρ1 H1 σ W Q (.ok (.bl (c == d)) S1) := h1
      cases v with
      | loc n =>
        unfold kindOf at hk
        cases e : S1[n]? with
        | none => simp only [e] at hk; cases hk
        | some cl =>
          cases cl with
          | obj c' fs =>
            simp only [e] at hk
            cases hk
            obtain ⟨q, C, dx, gs, ci, rfl, hq, h0, hH, hF, hc, hfs⟩ := rv.obj R1 e
            obtain ⟨hi, hkit⟩ := hI _ ci C Da hc h0 hD
            obtain ⟨C', hC', cl, _⟩ := G.link.cls _ ci hc
            rw [h0] at hC'; cases hC'
            exact ⟨.ref q, .ref Da, .ref C, .ref Da, _, rfl, .own Da, .base (.ins hH (by rw [G.hK]; exact cl) (by rw [G.hK]; exact hi.ha) (by rw [G.hK]; exact hi.hn) (by rw [G.hK]; exact hi.htk) (by rw [G.hK]; exact hi.hm)), by rw [G.hK]; exact hkit, Aft.now h1 R1 rfl⟩
          | lst _ => simp only [e] at hk; cases hk
          | dct _ _ => simp only [e] at hk; cases hk
      | _ => cases hk
    | _ => exact h1.elim
/-- what is not reached -/
theorem s_bad {st : Stmt} : PS X st (tS L W (ex Γ .bad)) := ⟨fun pins s σ H D I ⟨ρ, S, env, R, er, h⟩ => by unfold ex at h; exact h.elim⟩
end
end C
end
section
set_option Elab.async false
set_option linter.all false
set_option maxRecDepth 100000
set_option maxHeartbeats 1000000
/-! C20: displays of dicts of constants. -/
namespace C
open PySem PySem.Spec L2 ItX
open PyProof.Rows hiding St

def vp (p : Str × Str) : Val × Val := (.str p.1, .str p.2)
section
variable {X : L2.Cx} {L : Lk} {W : WX} {Γ : Cx} {k : Nat} {pos : Pos}
theorem store_csts {pins : List (Addr × Obj)} {σ : St} {D : Addr} {Q : PUnit → Shared → Prop} (hu : X.A.units + 8 < cLine) :
    ∀ (kvs acc : List (Str × Str)) (ws : List (Value × Value)) (H : Hp) (s : Shared) (es : Array DictEntry) (ep : Nat), Inv X pins σ H s → VV (kvs.map fun p => (V.str p.1, V.str p.2)) ws → H D = some (DX D es ep) → EnR X.K X.w [] H (acc.map vp) es.toList →
      ((acc ++ kvs).map (·.1)).Nodup → (acc ++ kvs).length ≤ sizeLine → (∀ es' s', Inv X pins σ (upd H D (DX D es' (ep + kvs.length))) s' → EnR X.K X.w [] (upd H D (DX D es' (ep + kvs.length))) ((acc ++ kvs).map vp) es'.toList → Q PUnit.unit s') →
      wpAny (model X.prog X.w) X.A (storeAll D ws) Q X.xe s
  | [], acc, ws, H, s, es, ep, I, rv, hd, hr, nd, hz, h => by
    cases rv
    unfold storeAll
    rw [List.forIn_nil]
    have e : upd H D (DX D es ep) = H := by
      funext b
      by_cases hb : b = D
      · subst hb; rw [upd_same, hd]
      · rw [upd_ne hb]
    refine wpAny_pure (h es s ?_ ?_)
    · rw [List.length_nil, Nat.add_zero, e]; exact I
    · rw [List.length_nil, Nat.add_zero, e, List.append_nil]; exact hr
  | p :: kvs, acc, ws, H, s, es, ep, I, rv, hd, hr, nd, hz, h => by
    obtain ⟨pk, pv⟩ := p
    cases rv with
    | @cons _ q _ ws' r rr =>
    obtain ⟨ku, vu⟩ := q
    unfold storeAll
    rw [List.forIn_cons]
    have hnew : pk ∉ acc.map (·.1) := by
      intro hm
      rw [List.map_append, List.map_cons] at nd
      exact (List.nodup_append.mp nd).2.2 pk hm pk List.mem_cons_self rfl
    have hfind : ((acc.map vp).findIdx? fun q => decide (q.1 = Val.str pk)) = none := findIdx_no fun hm => by
      rw [List.map_map] at hm
      obtain ⟨q, hq, e⟩ := List.mem_map.mp hm
      have e : Val.str q.1 = Val.str pk := e
      injection e with e
      exact hnew (List.mem_map.mpr ⟨q, hq, e⟩)
    have hk : keyOk (.str pk) (acc.map vp) = true := by
      unfold keyOk
      rw [Bool.or_eq_true]
      left
      rw [Bool.and_eq_true]
      exact ⟨rfl, List.all_eq_true.mpr fun q hq => by obtain ⟨q', _, rfl⟩ := List.mem_map.mp hq; rfl⟩
    have nd' : ((acc.map vp).map (·.1)).Nodup := by
      have h1 : (acc.map (·.1)).Nodup := by
        rw [List.map_append] at nd
        exact (List.nodup_append.mp nd).1
      have e2 : (acc.map vp).map (·.1) = (acc.map (·.1)).map Val.str := by rw [List.map_map, List.map_map]; rfl
      rw [e2]
      exact List.Pairwise.map _ (fun a b hab e => hab (by injection e)) h1
    rw [List.length_append, List.length_cons] at hz
    refine wpAny_bind (wpAny_bind (putD_ok (X := X) (y := .str pk) (z := .str pv) (Nx := fun H' => ∃ es', H' = upd H D (DX D es' (ep + 1)) ∧ EnR X.K X.w [] H' ((acc ++ [(pk, pv)]).map vp) es'.toList) hu I r.1 r.2
      ⟨[], acc.map vp, es, ep, .str pk, hd, hr, nd', hk, rfl, by rw [List.length_map]; omega, fun u r' ru rr' => ⟨fun i hi => absurd (hfind.symm.trans hi) (by simp), fun _ => ⟨_, rfl, ?_⟩⟩⟩ fun H' s' I' nx => ?_))
    · have kk : Keep H (upd H D (DX D (es.push ⟨(nk (.str pk)).hash X.w, u, r'⟩) (ep + 1))) := Keep.mut hd (fun xs e => by cases e) (fun o x e => by cases e)
      rw [Array.toList_push, List.map_append]
      exact EnR.append (hr.mono (List.prefix_refl _) kk) ⟨_, [], rfl, ⟨_, rfl, ru⟩, ⟨_, rfl, rr'⟩, rfl, rfl⟩
    · obtain ⟨es', rfl, hr'⟩ := nx
      refine wpAny_pure ?_
      show wpAny _ _ (storeAll D ws') _ _ _
      refine store_csts hu kvs (acc ++ [(pk, pv)]) ws' _ s' es' (ep + 1) I' rr upd_same hr' (by rw [List.append_assoc]; exact nd) (by rw [List.append_assoc, List.length_append]; exact hz) fun es2 s2 I2 r2 => ?_
      rw [upd_upd] at I2 r2
      rw [List.append_assoc] at r2
      have e : ep + 1 + kvs.length = ep + ((pk, pv) :: kvs).length := by rw [List.length_cons]; omega
      rw [e] at I2 r2
      exact h es2 s2 I2 r2
def trC (kvs : List (Str × Str)) : List (TE × TE) := kvs.map fun p => (tC (.str p.1), tC (.str p.2))
theorem trC_pairs {σ : St} {H : Hp} {Q : List (V × V) → Hp → Prop} : ∀ {kvs : List (Str × Str)}, Q (kvs.map fun p => (V.str p.1, V.str p.2)) H → tPairs (trC kvs) σ H Q
  | [], h => h
  | p :: kvs, h => trC_pairs (kvs := kvs) (Q := fun ps H3 => Q ((V.str p.1, V.str p.2) :: ps) H3) h
/-- {k: v, ..} of texts -/
theorem m_dcs {keys : List (Option Expr)} {values : List Expr} {kvs : List (Str × Str)} (G : Good X L Γ W k) (h : PPs X pos keys values (trC kvs)) (nd : (kvs.map (·.1)).Nodup) (hn : kvs.length = keys.length) (hall : keys.all (·.isSome) = true) (hl : keys.length = values.length) (h0 : keys ≠ [])
    (h15 : keys.length ≤ 15) : PE X (.Dict keys values pos) (tM L W (ev Γ (.dcs kvs))) := by
  refine ⟨fun pins s σ H Q I ⟨ρ, S, env, R, er, hA⟩ => ?_⟩
  unfold ev alloc at hA
  generalize hD : s.heap.objs.size = D
  have free0 : H D = none := I.hok.fresh (Nat.le_of_eq hD)
  have nsys : (D == sysModules) = false := by
    have q1 := dk_empty (P := X.prog) (w := X.w) (H := upd H s.heap.objs.size (.dK [])) s.heap I.big
    rw [← hD]
    exact q1.2.1
  have I1 : Inv X pins σ (upd H D (DX D #[] 0)) { s with heap := s.heap.push { cls := .type "dict", data := .dict #[] } } := by
    refine I.laid (t' := s.toks) (fun b o e => Heap.get?_push_of_some _ e) (Nat.le_of_eq hD) ?_
    rw [← hD]
    exact dx_ok (Heap.get?_push_size _ rfl) ⟨rfl, rfl, rfl⟩ rfl
  have hz : kvs.length ≤ sizeLine := by rw [hn, sizeLine_eq]; omega
  refine wpAny_Dict_any hall hl h0 h15 (thn (h.run pins _ σ _ (fun ps H' => ps = (kvs.map fun p => (V.str p.1, V.str p.2)) ∧ H' = upd H D (DX D #[] 0)) I1 (trC_pairs ⟨rfl, rfl⟩)) fun ws s2 ⟨ps, H2, I2, rel, e1, e2⟩ => ?_)
  subst e1 e2
  rw [hD]
  refine store_csts (by have := G.hu; omega) kvs [] ws _ s2 #[] 0 I2 rel upd_same rfl (by simpa using nd) (by simpa using hz) fun es' s' I' r' => ?_
  rw [upd_upd] at I' r'
  rw [List.nil_append] at r'
  simp only [Nat.zero_add] at I' r'
  have k1 : Keep H (upd H D (DX D es' kvs.length)) := Keep.new free0
  rw [G.hK, G.hw] at r'
  refine ⟨.ref D, _, I', rfl, hA (ρ ++ [D]) _ _ (List.prefix_append _ _) k1 (R.alloc free0 ⟨es', upd_same, nsys, ?_, ?_, ?_⟩) ⟨D, rfl, ?_⟩⟩
  · rw [List.length_map]; exact hz
  · have e2 : (kvs.map fun p => (Val.str p.1, Val.str p.2)).map (·.1) = (kvs.map (·.1)).map Val.str := by rw [List.map_map, List.map_map]; rfl
    rw [e2]
    exact List.Pairwise.map _ (fun a b hab e => hab (by injection e)) nd
  · exact EnR.mono (List.nil_prefix) (Keep.refl _) r'
  · rw [← R.len, List.getElem?_append_right (Nat.le_refl _)]
    simp
end
end C
end
section
set_option Elab.async false
set_option linter.all false
set_option maxRecDepth 100000
set_option maxHeartbeats 1000000
/-! C21: raise, try, isinstance of a caught exception. -/
namespace C
open PySem PySem.Spec L2 ItX
open PyProof.Rows hiding St

/-- what an own exception class without __init__ is -/
structure XcOk (K : PySem.W.Frag) (C : Addr) : Prop where
  q : PySem.W.excIn K C [.type "ValueError", .type "Exception", .type "BaseException", .type "object"] "ValueError.__new__" = true
  kp : PySem.W.keepIn K (.ref C) = true
  sb : PySem.W.subIn K (.ref C) (.type "BaseException") = some true
  ty : PySem.W.typeIn K (.ref C) = some (.type "type")
section
variable {X : L2.Cx} {L : Lk} {W : WX} {Γ : Cx} {k : Nat} {a b c e o tg : Expr} {es : List Expr} {ea eb ec : E} {ms : List E} {pos p apos cpos pos' p2 : Pos} {x n : Str} {st : Stmt}
theorem s_raise {cc : Nat} {Ca : Addr} {m : Str} {j : Nat} (G : Good X L Γ W k) (hC : L.caddr cc = some Ca) (hx : XcOk L.K Ca) (hg : Gl X x) (hm : L.mg x = some (.ref Ca)) (hdb : (x == ("__debug__" : Str)) = false := by decide) (hc : X.calm = true := by rfl) :
    PS X (.Raise (some (.Call (.Name x p) [.Constant (.str m) j p2] [] pos)) none pos') (tS L W (ex Γ (.raise cc))) := by
  have hq := hx.q
  have hk := hx.kp
  have hs := hx.sb
  have ht := hx.ty
  rw [← G.hK] at hq hk hs ht
  refine PS.mono (ps_raise hc G.takes (pmk_own PySem.F.excBase_ValueError hq (by rw [G.hm]; exact hm) hk (raises_own hs ht) hg hdb)) fun D σ H ⟨ρ, S, env, R, er, h⟩ => ?_
  unfold ex at h
  exact h ρ H σ _ _ (List.prefix_refl _) (Keep.refl H) R er ⟨Ca, hC, rfl, .inl ⟨rfl, rfl⟩⟩
/-- the text's facts of a try -/
structure TryOk (L : Lk) (cv : Value) (ty : Nat → Value) (hit : List (Nat × Bool)) (isT : List (Nat × List (Nat × Bool))) : Prop where
  hit : ∀ c b Ca, hit.lookup c = some b → L.caddr c = some Ca → PySem.W.exmOne L.K (.ref Ca) cv = some b
  isT : ∀ c l Ca, isT.lookup c = some l → L.caddr c = some Ca → ExcC L.K Ca ∧ ∀ t b, l.lookup t = some b → PySem.W.kitOne L.K (.ref Ca) (ty t) = some b
/-- the context of a suite -/
abbrev LX (L : Lk) (i : Nat) (a : Addr) : Lk := { L with hx := some (i, a) }
def Wno : WX := fun _ _ _ _ => False
theorem FR.hx {ρ : List Addr} {H : Hp} {h : Option (Nat × Addr)} : ∀ {fs : List (Nat × Val)} {gs : List (Str × V)}, FR L ρ H fs gs ↔ FR { L with hx := h } ρ H fs gs
  | [], _ => Iff.rfl
  | f :: fs, gs => by
    constructor
    · rintro ⟨k, y, r, e, h1, h2, h3⟩
      exact ⟨k, y, r, e, h1, h2, FR.hx.mp h3⟩
    · rintro ⟨k, y, r, e, h1, h2, h3⟩
      exact ⟨k, y, r, e, h1, h2, FR.hx.mpr h3⟩
theorem CR.hx {ρ : List Addr} {H : Hp} {h : Option (Nat × Addr)} {a : Addr} {c : Cell} : CR L ρ H a c ↔ CR { L with hx := h } ρ H a c := by
  cases c with
  | lst xs => exact Iff.rfl
  | dct ep kvs => exact Iff.rfl
  | obj c fs =>
    constructor
    · rintro ⟨C, dx, gs, ci, h1, h2, h3, h4⟩
      exact ⟨C, dx, gs, ci, h1, h2, FR.hx.mp h3, h4⟩
    · rintro ⟨C, dx, gs, ci, h1, h2, h3, h4⟩
      exact ⟨C, dx, gs, ci, h1, h2, FR.hx.mpr h3, h4⟩
theorem Rel.hx {ρ : List Addr} {S : Store} {H : Hp} {h : Option (Nat × Addr)} (R : Rel L ρ S H) : Rel { L with hx := h } ρ S H := ⟨R.1, R.2, fun n c a e1 e2 => CR.hx.mp (R.3 n c a e1 e2)⟩
theorem Rel.ofhx {ρ : List Addr} {S : Store} {H : Hp} {h : Option (Nat × Addr)} (R : Rel { L with hx := h } ρ S H) : Rel L ρ S H := ⟨R.1, R.2, fun n c a e1 e2 => CR.hx.mpr (R.3 n c a e1 e2)⟩
theorem LkOk.hx {h : Option (Nat × Addr)} (R : LkOk L) : LkOk { L with hx := h } := ⟨R.1, R.2, R.3, R.4⟩
theorem ItOk.hx {base : Heap} {h : Option (Nat × Addr)} (R : ItOk L base) : ItOk { L with hx := h } base := fun c ci f h1 h2 =>
  let ⟨Ca, fi, fd, nm, q⟩ := R c ci f h1 h2
  ⟨Ca, fi, fd, nm, ⟨q.1, q.2, q.3, q.4, q.5, q.6, q.7, q.8⟩⟩
/-- a slot is left, its exception with it -/
theorem ER.left {ρ : List Addr} {H : Hp} {env : Env} {σ : St} {i : Nat} {a : Addr} (hn : L.hx = none) (er : ER (LX L i a) ρ H env σ) : ER L ρ H (env.set i none) (σ.set i none) :=
  ER.unset hn ⟨er.1, er.2, fun j b h => by rw [hn] at h; cases h⟩
theorem ER.enter {ρ : List Addr} {H : Hp} {env : Env} {σ : St} {i : Nat} {a : Addr} (er : ER L ρ H env σ) : ER (LX L i a) ρ H (env.set i none) (σ.set i (some (.ref a))) := by
  refine ⟨by simp [er.1], fun j v e => ?_, fun j b h e => ?_⟩
  · by_cases hj : i = j
    · subst hj
      have hl : i < env.length := by
        have := (List.getElem?_eq_some_iff.mp e).1
        simpa using this
      rw [List.getElem?_set_self hl] at e
      cases e
    · rw [List.getElem?_set_ne hj] at e ⊢
      exact er.2 j v e
  · cases h
    have hl : i < env.length := by
      have := (List.getElem?_eq_some_iff.mp e).1
      simpa using this
    exact List.getElem?_set_self (by rw [← er.1]; exact hl)
/-- the level below, none of it -/
theorem Good.suite (G : Good X L Γ W k) {i : Nat} {a : Addr} {pn : List (Addr × Obj)} {c : Nat} {isT : List (Nat × List (Nat × Bool))} : Good (X.suite a pn) (LX L i a) ⟨Γ.T, curCall Γ.T c isT, Γ.fuel⟩ Wno k :=
  ⟨G.hP, G.hw, G.hK, G.hm, G.hT, G.link.hx, fun f d hd => by
    have hb : ∀ args S, curCall Γ.T c isT f args S = .bad := fun args S => by
      unfold curCall
      rw [G.hT, show L.T.defs f = some d from hd]
    refine ⟨fun vs H Q E h => ?_, fun A outer s H args us vs Q E _ _ _ _ h => ?_⟩
    · obtain ⟨ρ, S, as, _, _, h⟩ := h
      rw [show (⟨Γ.T, curCall Γ.T c isT, Γ.fuel⟩ : Cx).call f as S = .bad from hb as S] at h
      exact h.elim
    · obtain ⟨ρ, S, as, _, _, h⟩ := h
      rw [show (⟨Γ.T, curCall Γ.T c isT, Γ.fuel⟩ : Cx).call f as S = .bad from hb as S] at h
      exact h.elim,
  fun z => Bool.noConfusion (show false = true from z), fun _ f d args S hd => by
    show curCall Γ.T c isT f args S = .bad
    unfold curCall
    rw [G.hT, show L.T.defs f = some d from hd], G.hu, G.deep, G.it.hx, fun u s' ⟨_, _, _, _, _, _, _, _, _, _, _, _, _, _, _, _, z⟩ => z.elim⟩
theorem Good.tr (G : Good X L Γ W k) {pn : List (Addr × Obj)} {xe : Value → Shared → Prop} {W' : WX} (tk : Takes (X.tr pn xe) W') : Good (X.tr pn xe) L Γ W' k :=
  ⟨G.hP, G.hw, G.hK, G.hm, G.hT, G.link, G.fn, G.cool, G.hot, G.hu, G.deep, G.it, tk⟩
/-- isinstance(e, T) in the suite -/
theorem m_isE {i t cc : Nat} {Γ0 : Cx} {ah : Addr} {oe : Obj} {pn : List (Addr × Obj)} {Ca : Addr} {hit : List (Nat × Bool)} {isT : List (Nat × List (Nat × Bool))} {cv : Value} {ty : Nat → Value} {tv : V} {eT : Expr} (T : TryOk L cv ty hit isT) (hC : L.caddr cc = some Ca) (hz : Zc (.ref Ca) none oe) (hf : ∃ vs, oe.data = .fields vs)
    (G : Good (X.suite ah ((ah, oe) :: pn)) (LX L i ah) ⟨Γ0.T, curCall Γ0.T cc isT, Γ0.fuel⟩ Wno k) (hi : X.N[i]? = some n) (hv : Vis X.env.scope n)
    (hg : Gl X "isinstance") (hm : L.mg "isinstance" = none) (hT : PE (X.suite ah ((ah, oe) :: pn)) eT (tC tv)) (hu : ∀ u, RelV tv u → u = ty t)
    (he : starEach [.Name n p, eT] X.env = [(false, eval (.Name n p) X.env), (false, eval eT X.env)] := by rfl) (he2 : starEach [eT] X.env = [(false, eval eT X.env)] := by rfl) (hn1 : (n == ("__debug__" : Str)) = false := by decide) (hn2 : (n == ("__classdict__" : Str)) = false := by decide) :
    PE (X.suite ah ((ah, oe) :: pn)) (.Call (.Name "isinstance" p2) [.Name n p, eT] [] pos) (tM (LX L i ah) Wno (ev ⟨Γ0.T, curCall Γ0.T cc isT, Γ0.fuel⟩ (.exq i t))) := by
  have hvar : PE (X.suite ah ((ah, oe) :: pn)) (.Name n p) (tVar i) := pe_var hi hv hn1 hn2
  refine ⟨fun pins s σ H Q I ⟨ρ, S, env, R, er, hA⟩ => ?_⟩
  unfold ev at hA
  cases hen : env[i]? with
  | none => rw [hen] at hA; exact hA.elim
  | some o =>
    cases o with
    | some v => rw [hen] at hA; exact hA.elim
    | none =>
      rw [hen] at hA
      have hA : AftV (LX L i ah) ρ H σ Wno Q (curCall Γ0.T cc isT t [] S) := hA
      unfold curCall at hA
      cases hd : Γ0.T.defs t with
      | some d => rw [hd] at hA; exact hA.elim
      | none =>
        rw [hd] at hA
        simp only at hA
        cases hl : isT.lookup cc with
        | none => rw [hl] at hA; exact hA.elim
        | some l =>
          rw [hl] at hA
          simp only [Option.bind_some] at hA
          cases hb : l.lookup t with
          | none => rw [hb] at hA; exact hA.elim
          | some b =>
            rw [hb] at hA
            obtain ⟨xc, kit⟩ := T.isT cc l Ca hl hC
            have hs := er.3 i ah rfl hen
            have xc' : ExcC X.K Ca := by rw [show X.K = L.K from G.hK]; exact xc
            refine (pe_callB (call_isE xc' hz hf) hg (by rw [show X.mg = L.mg from G.hm]; exact hm) (by decide +kernel) (pa_cons hvar (pa_cons hT pa_nil (by rw [he2]; rfl)) (by rw [he, he2])) (by decide) (by decide) (by rw [he, he2]) (by rw [he2]; rfl)).run pins s σ H Q I ?_
            exact ⟨.ref ah, hs, tv, ty t, b, rfl, hu, by rw [show X.K = L.K from G.hK]; exact kit t b hb, Aft.now hA R rfl⟩
/-- try: body, except x as n: suite -/
theorem s_try {i : Nat} {np : Pos} {cv : Value} {ty : Nat → Value} {hit : List (Nat × Bool)} {isT : List (Nat × List (Nat × Bool))} {body suite : List Stmt} {b₀ : Stmt} {bs ss : List S} (G : Good X L Γ W k) (T : TryOk L cv ty hit isT) (hN : X.N.Nodup) (hi : X.N[i]? = some n) (hln : X.env.kindOf n = some .local) (hcn : Names X x cv)
    (hb : ∀ (W' : WX) (pn : List (Addr × Obj)) (xe : Value → Shared → Prop), Good (X.tr pn xe) L Γ W' k → PassesOwn (model X.prog X.w) X.A X.env xe → PSs (X.tr pn xe) body (tS L W' (exs Γ bs)))
    (hsu : ∀ (cc : Nat) (Ca a : Addr) (oe : Obj) (pn : List (Addr × Obj)), L.caddr cc = some Ca → Zc (.ref Ca) none oe → (∃ vs, oe.data = .fields vs) → Good (X.suite a ((a, oe) :: pn)) (LX L i a) ⟨Γ.T, curCall Γ.T cc isT, Γ.fuel⟩ Wno k →
      PSs (X.suite a ((a, oe) :: pn)) (b₀ :: suite) (tS (LX L i a) Wno (exs ⟨Γ.T, curCall Γ.T cc isT, Γ.fuel⟩ ss)))
    (hs : X.stack = X.env :: X.outer := by rfl) (hf : X.env.frame = some X.env.locals := by rfl) (hc : X.calm = true := by rfl) :
    PS X (.Try body [.ExceptHandler (some (.Name x np)) (some n) (b₀ :: suite) pos'] [] [] pos) (tS L W (ex Γ (.try_ i hit isT bs ss))) := by
  refine PS.mono (ps_try_as (i := i) (c := cv) (tb := fun W' => tS L W' (exs Γ bs)) (ts := fun a cls d D σ H => ∃ cc Ca, L.caddr cc = some Ca ∧ cls = .ref Ca ∧ d = none ∧ tS (LX L i a) Wno (exs ⟨Γ.T, curCall Γ.T cc isT, Γ.fuel⟩ ss) D σ H) hs hf hN hi hln hcn G.takes
    (fun W' pn xe tk po => hb W' pn xe (G.tr tk) po) (fun a oe cls d pn hz hfd => ⟨fun pins s σ H D I ⟨cc, Ca, hC, e1, e2, h⟩ => by
      subst e1 e2
      exact (hsu cc Ca a oe pn hC hz hfd G.suite).run pins s σ H D I h⟩)) fun D σ H ⟨ρ, S, env, R, er, h⟩ => ⟨ρ, S, env, R, er, ?_⟩
  unfold ex at h
  have hn := G.nohx hc
  cases hr : exs Γ bs env S with
  | nx env1 S1 => rw [hr] at h; exact h
  | rt v S1 => rw [hr] at h; exact h
  | bk env1 S1 => rw [hr] at h; exact h
  | bad => rw [hr] at h; exact h
  | exc c fs env1 S1 =>
    rw [hr] at h
    unfold Fl.tried at h
    simp only at h
    intro ρ' H' σ' cls d p k R' er' hex
    obtain ⟨Ca, hC, rfl, hd⟩ := hex
    cases hh : hit.lookup c with
    | none => rw [hh] at h; exact h.elim
    | some b =>
      rw [hh] at h
      refine ⟨b, by rw [G.hK]; exact T.hit c b Ca hh hC, fun hb1 a na => ?_, fun hb0 => ?_⟩
      · subst hb1
        simp only at h
        by_cases hfs : fs = []
        · rw [if_pos hfs] at h
          subst hfs
          have hd0 : d = none := by
            rcases hd with ⟨h1, _⟩ | ⟨_, _, h1, _⟩
            · exact h1
            · exact absurd rfl h1
          refine ⟨c, Ca, hC, rfl, hd0, ρ', S1, env1.set i none, R'.hx, er'.enter, ?_⟩
          have h := AftF.mono p k h
          cases hq : exs ⟨Γ.T, curCall Γ.T c isT, Γ.fuel⟩ ss (env1.set i none) S1 with
          | nx env2 S2 => rw [hq] at h; exact fun ρ2 H2 σ2 p2 k2 R2 er2 => h ρ2 H2 _ p2 k2 R2.ofhx (er2.left hn)
          | rt v S2 => rw [hq] at h; exact fun ρ2 H2 x2 p2 k2 R2 rv => h ρ2 H2 x2 p2 k2 R2.ofhx rv
          | bk env2 S2 => rw [hq] at h; exact fun ρ2 H2 σ2 p2 k2 R2 er2 => h ρ2 H2 _ p2 k2 R2.ofhx (er2.left hn)
          | exc c2 fs2 env2 S2 => rw [hq] at h; exact h.elim
          | bad => rw [hq] at h; exact h.elim
        · rw [if_neg hfs] at h
          exact h.elim
      · subst hb0
        simp only at h
        exact h ρ' H' σ' (.ref Ca) d p k R' er' ⟨Ca, hC, rfl, hd⟩
/-- C.f is the constant v of the class's body -/
structure CCst (K : PySem.W.Frag) (C : Addr) (f : Str) (v : Val) : Prop where
  ex : ∃ mc u, ClX.CRead K C mc ∧ PySem.W.findCls K (.ref C) mc f = some (.val u) ∧ kvB K v u = true
theorem m_ccst {Ca : Addr} {f : Str} {v : Val} (G : Good X L Γ W k) (hg : Gl X x) (hm : L.mg x = some (.ref Ca)) (hv : CCst L.K Ca f v) (hdb : (x == ("__debug__" : Str)) = false := by decide)
    (hb : attributeBase (.Name x p) f X.env (eval (.Name x p) X.env) = eval (.Name x p) X.env := by rfl) : PE X (.Attribute (.Name x p) f pos) (tM L W (ev Γ (.cst v))) := by
  obtain ⟨mc, u, h1, h2, h3⟩ := hv.ex
  obtain ⟨y, r, h⟩ := kvB_rel h3
  have hn : PE X (.Name x p) (tC (.ref Ca)) := pe_glob hg (by rw [G.hm]; exact hm) rfl hdb
  refine PE.mono (ClX.pe_cval hn hb) fun σ H Q ⟨ρ, S, env, R, er, hA⟩ => ?_
  unfold ev at hA
  rw [← G.hK] at h1 h2
  exact ⟨Ca, mc, y, u, rfl, h1, ⟨h2, r⟩, Aft.now hA R (h _ _)⟩
theorem lookAllP {β : Type} {l : List (Nat × β)} {P : Nat → β → Prop} (h : ∀ p ∈ l, P p.1 p.2) {m : Nat} {f : β} (hm : l.lookup m = some f) : P m f := by
  induction l with
  | nil => cases hm
  | cons a l ih =>
    obtain ⟨g, u⟩ := a
    by_cases e : m = g
    · subst e
      simp [List.lookup] at hm
      subst hm
      exact h (m, u) List.mem_cons_self
    · have b1 : (m == g) = false := beq_eq_false_iff_ne.mpr e
      simp only [List.lookup, b1] at hm
      exact ih (fun p hp => h p (List.mem_cons_of_mem _ hp)) hm
end
theorem bt_ValueError : bootBuiltins "ValueError" = some (.type "ValueError") := by decide +kernel
end C
end
section
set_option linter.all false
namespace P
open PySem C
def kOPPOSITES : List (Str × Val) := [("near", .str "far"), ("far", .str "near"), ("behind", .str "ahead"), ("ahead", .str "behind")]
def kKEYS : Val := .tup [.tup [.str "behind", .str "short", .str "older"], .tup [.str "behind", .str "short", .str "newer"], .tup [.str "behind", .str "short", .str "lower"], .tup [.str "behind", .str "short", .str "higher"], .tup [.str "behind", .str "even", .str "older"], .tup [.str "behind", .str "even", .str "lower"], .tup [.str "ahead", .str "short", .str "older"], .tup [.str "ahead", .str "short", .str "newer"], .tup [.str "ahead", .str "short", .str "lower"], .tup [.str "ahead", .str "short", .str "higher"], .tup [.str "ahead", .str "even", .str "older"], .tup [.str "ahead", .str "even", .str "lower"], .tup [.str "hand", .str "under"], .tup [.str "hand", .str "over"], .tup [.str "hand", .str "apart"], .tup [.str "hand", .str "follow"], .tup [.str "hand", .str "lead"]]
def kUSUAL : Val := .int 126000
def kMANY : Val := .int 131072
/-- opposite -/
def d0 : Def := ⟨1, 1, [.ret (.gsub P.kOPPOSITES (.var 0))]⟩
/-- values_of -/
def d1 : Def := ⟨1, 1, [.ifs (.cmp .eq (.sub (.var 0) (.cst (.int 0))) (.cst (.str "hand"))) [.ret (.tup [.cst (.str "behind"), .cst (.str "ahead")])] [], .ret (.tup [.cst (.str "near"), .cst (.str "far")])]⟩
/-- mirrored_key -/
def d2 : Def := ⟨1, 1, [.ifs (.cmp .eq (.sub (.var 0) (.cst (.int 0))) (.cst (.str "behind"))) [.ret (.tup [.cst (.str "ahead"), .sub (.var 0) (.cst (.int 1)), .sub (.var 0) (.cst (.int 2))])] [], .ifs (.cmp .eq (.sub (.var 0) (.cst (.int 0))) (.cst (.str "ahead"))) [.ret (.tup [.cst (.str "behind"), .sub (.var 0) (.cst (.int 1)), .sub (.var 0) (.cst (.int 2))])] [], .ifs (.cmp .eq (.sub (.var 0) (.cst (.int 1))) (.cst (.str "under"))) [.ret (.tup [.cst (.str "hand"), .cst (.str "over")])] [], .ifs (.cmp .eq (.sub (.var 0) (.cst (.int 1))) (.cst (.str "over"))) [.ret (.tup [.cst (.str "hand"), .cst (.str "under")])] [], .ifs (.cmp .eq (.sub (.var 0) (.cst (.int 1))) (.cst (.str "follow"))) [.ret (.tup [.cst (.str "hand"), .cst (.str "lead")])] [], .ifs (.cmp .eq (.sub (.var 0) (.cst (.int 1))) (.cst (.str "lead"))) [.ret (.tup [.cst (.str "hand"), .cst (.str "follow")])] [], .ret (.var 0)]⟩
/-- values_of_number -/
def d3 : Def := ⟨1, 5, [.asg 1 (.lst []), .for_ [2] 0 [.cst P.kKEYS] [.asgT [3, 4] (.call 1 [.var 2]), .expr (.bm .append (.var 1) [.ite (.cmp .eq (.bin .mod (.var 0) (.cst (.int 2))) (.cst (.int 1))) (.var 3) (.var 4)]), .asg 0 (.bin .fdiv (.var 0) (.cst (.int 2)))], .ret (.var 1)]⟩
/-- Rule.__init__ -/
def d4 : Def := ⟨2, 4, [.ifs (.isN (.var 1)) [.asg 1 (.call 3 [.cst P.kUSUAL])] [], .setF (.var 0) 14 (.dc [2, 3] [2, 3] 3 [.cst P.kKEYS] (.var 3) (.sub (.var 1) (.var 2)))]⟩
/-- Rule.from_number -/
def d5 : Def := ⟨1, 1, [.ifs (.or (.cmp .lt (.var 0) (.cst (.int 0))) (.cmp .ge (.var 0) (.cst P.kMANY))) [.bad] [], .ret (.make 0 [.call 3 [.var 0]])]⟩
/-- Rule.number -/
def d6 : Def := ⟨1, 4, [.asg 1 (.cst (.int 0)), .asg 2 (.cst (.int 1)), .for_ [3] 0 [.cst P.kKEYS] [.ifs (.cmp .eq (.sub (.attr (.var 0) 14) (.var 3)) (.sub (.call 1 [.var 3]) (.cst (.int 0)))) [.asg 1 (.bin .add (.var 1) (.var 2))] [], .asg 2 (.bin .mul (.var 2) (.cst (.int 2)))], .ret (.var 1)]⟩
/-- Rule.__getitem__ -/
def d7 : Def := ⟨2, 2, [.ifs (.cmp .notin (.var 1) (.cst P.kKEYS)) [.bad] [], .ret (.sub (.attr (.var 0) 14) (.var 1))]⟩
/-- Rule.__setitem__ -/
def d8 : Def := ⟨3, 3, [.ifs (.cmp .notin (.var 1) (.cst P.kKEYS)) [.bad] [], .ifs (.cmp .notin (.var 2) (.call 1 [.var 1])) [.bad] [], .setI (.attr (.var 0) 14) (.var 1) (.var 2)]⟩
/-- Rule.__invert__ -/
def d9 : Def := ⟨1, 4, [.asg 1 (.lst []), .for_ [2] 0 [.cst P.kKEYS] [.asg 3 (.sub (.attr (.var 0) 14) (.call 2 [.var 2])), .expr (.bm .append (.var 1) [.ite (.cmp .eq (.sub (.var 2) (.cst (.int 0))) (.cst (.str "hand"))) (.call 0 [.var 3]) (.var 3)])], .ret (.make 0 [.var 1])]⟩
/-- _law_cell -/
def d10 : Def := ⟨2, 2, [.ifs (.cmp .lt (.var 1) (.blt .len [.var 0])) [.ret (.sub (.var 0) (.var 1))] [], .ret (.cst (.int 0))]⟩
/-- _law_whole -/
def d11 : Def := ⟨1, 1, [.ret (.and (.isi (.var 0) .int) (.not (.isi (.var 0) .bool)))]⟩
/-- _law_same -/
def d12 : Def := ⟨2, 3, [.ifs (.isN (.var 1)) [.ret (.isN (.var 0))] [], .ifs (.isi (.var 1) .bool) [.ret (.and (.isi (.var 0) .bool) (.cmp .eq (.var 0) (.var 1)))] [], .ifs (.isi (.var 1) .int) [.ret (.and (.call 11 [.var 0]) (.cmp .eq (.var 0) (.var 1)))] [], .ifs (.isi (.var 1) .str) [.ret (.and (.isi (.var 0) .str) (.cmp .eq (.var 0) (.var 1)))] [], .ifs (.and (.isi (.var 1) .list) (.not (.isi (.var 0) .list))) [.ret (.cst (.bl false))] [], .ifs (.and (.isi (.var 1) .tuple) (.not (.isi (.var 0) .tuple))) [.ret (.cst (.bl false))] [], .ifs (.cmp .ne (.blt .len [.var 0]) (.blt .len [.var 1])) [.ret (.cst (.bl false))] [], .for_ [2] 1 [.blt .len [.var 1]] [.ifs (.not (.call 12 [.sub (.var 0) (.var 2), .sub (.var 1) (.var 2)])) [.ret (.cst (.bl false))] []], .ret (.cst (.bl true))]⟩
/-- _law_keys -/
def d13 : Def := ⟨0, 3, [.asg 0 (.lst []), .for_ [1] 0 [.lst [.cst (.str "behind"), .cst (.str "ahead")]] [.for_ [2] 0 [.lst [.cst (.str "older"), .cst (.str "newer"), .cst (.str "lower"), .cst (.str "higher")]] [.expr (.bm .append (.var 0) [.tup [.var 1, .cst (.str "short"), .var 2]])], .expr (.bm .append (.var 0) [.tup [.var 1, .cst (.str "even"), .cst (.str "older")]]), .expr (.bm .append (.var 0) [.tup [.var 1, .cst (.str "even"), .cst (.str "lower")]])], .for_ [2] 0 [.lst [.cst (.str "under"), .cst (.str "over"), .cst (.str "apart"), .cst (.str "follow"), .cst (.str "lead")]] [.expr (.bm .append (.var 0) [.tup [.cst (.str "hand"), .var 2]])], .ret (.var 0)]⟩
/-- _law_values -/
def d14 : Def := ⟨1, 5, [.asg 1 (.bin .mod (.blt .int [.var 0]) (.cst (.int 131072))), .asg 2 (.lst []), .for_ [3] 1 [.cst (.int 17)] [.asg 4 (.lst [.cst (.str "far"), .cst (.str "near")]), .ifs (.cmp .ge (.var 3) (.cst (.int 12))) [.asg 4 (.lst [.cst (.str "ahead"), .cst (.str "behind")])] [], .expr (.bm .append (.var 2) [.sub (.var 4) (.bin .mod (.var 1) (.cst (.int 2)))]), .asg 1 (.bin .fdiv (.var 1) (.cst (.int 2)))], .ret (.var 2)]⟩
/-- _law_other -/
def d15 : Def := ⟨1, 2, [.asg 1 (.dcs [("near", "far"), ("far", "near"), ("behind", "ahead"), ("ahead", "behind")]), .ret (.sub (.var 1) (.var 0))]⟩
/-- _law_turned -/
def d16 : Def := ⟨1, 3, [.asg 1 (.lc [2] [2] 0 [.lst [.cst (.int 13), .cst (.int 12), .cst (.int 14), .cst (.int 16), .cst (.int 15)]] (.cst (.bl true)) (.call 15 [.sub (.var 0) (.var 2)])), .ret (.bin .add (.bin .add (.slc (.var 0) (.cst (.int 6)) (.cst (.int 12))) (.slc (.var 0) (.nop) (.cst (.int 6)))) (.var 1))]⟩
/-- _law_entries -/
def d17 : Def := ⟨1, 2, [.ret (.lc [1] [1] 0 [.call 13 []] (.cst (.bl true)) (.sub (.var 0) (.var 1)))]⟩
/-- _law_mirrored -/
def d18 : Def := ⟨2, 4, [.asg 2 (.inv (.var 0)), .ifs (.or (.not (.isi (.var 2) (.cls 0))) (.not (.call 12 [.call 17 [.var 2], .call 16 [.var 1]]))) [.ret (.cst (.bl false))] [], .asg 3 (.inv (.var 2)), .ifs (.or (.not (.isi (.var 3) (.cls 0))) (.not (.call 12 [.call 17 [.var 3], .var 1]))) [.ret (.cst (.bl false))] [], .ret (.call 12 [.call 17 [.var 0], .var 1])]⟩
/-- law -/
def d19 : Def := ⟨1, 10, [.asg 1 (.call 13 []), .asg 2 (.bin .mod (.blt .int [.call 10 [.var 0, .cst (.int 0)]]) (.cst (.int 131072))), .asg 3 (.call 14 [.var 2]), .asg 4 (.call 5 [.var 2]), .ifs (.not (.call 18 [.var 4, .var 3])) [.ret (.cst (.bl false))] [], .asg 5 (.inv (.var 4)), .asg 6 (.call 16 [.var 3]), .asg 7 (.bin .mod (.blt .int [.call 10 [.var 0, .cst (.int 1)]]) (.cst (.int 12))), .asg 8 (.bin .mod (.blt .int [.call 10 [.var 0, .cst (.int 2)]]) (.cst (.int 12))), .for_ [9] 0 [.lst [.var 7, .cst (.int 12), .cst (.int 13), .cst (.int 14), .cst (.int 15), .cst (.int 16), .var 8]] [.setI (.var 3) (.var 9) (.call 15 [.sub (.var 3) (.var 9)]), .setI (.var 4) (.sub (.var 1) (.var 9)) (.sub (.var 3) (.var 9)), .ifs (.not (.call 18 [.var 4, .var 3])) [.ret (.cst (.bl false))] [], .ifs (.not (.call 12 [.call 17 [.var 5], .var 6])) [.ret (.cst (.bl false))] [], .setI (.var 6) (.var 9) (.call 15 [.sub (.var 6) (.var 9)]), .setI (.var 5) (.sub (.var 1) (.var 9)) (.sub (.var 6) (.var 9))], .ret (.and (.call 12 [.call 17 [.var 4], .var 3]) (.call 12 [.call 17 [.var 5], .var 6]))]⟩
/-- Rule.from_number -/
def d5v1 : Def := ⟨1, 1, [.ifs (.or (.cmp .lt (.var 0) (.cst (.int 0))) (.cmp .ge (.var 0) (.cst P.kMANY))) [.raise 1] [], .ret (.make 0 [.call 3 [.var 0]])]⟩
/-- Rule.__getitem__ -/
def d7v1 : Def := ⟨2, 2, [.ifs (.cmp .notin (.var 1) (.cst P.kKEYS)) [.raise 2] [], .ret (.sub (.attr (.var 0) 14) (.var 1))]⟩
/-- Rule.__setitem__ -/
def d8v1 : Def := ⟨3, 3, [.ifs (.cmp .notin (.var 1) (.cst P.kKEYS)) [.raise 2] [], .ifs (.cmp .notin (.var 2) (.call 1 [.var 1])) [.raise 2] [], .setI (.attr (.var 0) 14) (.var 1) (.var 2)]⟩
/-- law -/
def d19v1 : Def := ⟨1, 16, [.asg 1 (.bin .mod (.blt .int [.call 10 [.var 0, .cst (.int 0)]]) (.cst (.int 131072))), .asg 2 (.bin .mod (.blt .int [.call 10 [.var 0, .cst (.int 1)]]) (.cst (.int 131072))), .asg 3 (.call 21 [.call 10 [.var 0, .cst (.int 2)]]), .ifs (.cmp .lt (.var 3) (.cst (.int 0))) [.asg 3 (.bin .sub (.neg (.cst (.int 1))) (.var 3))] [], .asg 4 (.lst [.var 1, .var 2, .cst (.int 0), .cst (.int 131071), .bin .sub (.cst (.int 131071)) (.var 1), .neg (.cst (.int 1)), .cst (.int 131072), .bin .add (.cst (.int 131072)) (.var 3), .bin .sub (.neg (.cst (.int 1))) (.var 3)]), .for_ [5] 0 [.bin .add (.var 4) (.lc [15] [15] 0 [.slc (.var 0) (.nop) (.cst (.int 4))] (.cst (.bl true)) (.call 21 [.var 15]))] [.ifs (.not (.call 23 [.var 5])) [.ret (.cst (.bl false))] []], .asg 6 (.lst [.cst (.str "far"), .cst (.str "far"), .cst (.str "far"), .cst (.str "far"), .cst (.str "near"), .cst (.str "near")]), .asg 6 (.bin .add (.bin .add (.var 6) (.var 6)) (.lst [.cst (.str "ahead"), .cst (.str "behind"), .cst (.str "behind"), .cst (.str "behind"), .cst (.str "behind")])), .ifs (.or (.not (.call 12 [.call 17 [.make 0 [.cst (.non)]], .var 6])) (.not (.call 12 [.prp (.make 0 [.cst (.non)]) 13, .cst (.int 126000)]))) [.ret (.cst (.bl false))] [], .ifs (.not (.call 12 [.cst (.int 131072), .cst (.int 131072)])) [.ret (.cst (.bl false))] [], .asg 7 (.call 13 []), .asg 8 (.call 14 [.var 1]), .asg 9 (.call 5 [.var 1]), .asg 10 (.call 5 [.var 2]), .asg 11 (.bin .mod (.blt .int [.call 10 [.var 0, .cst (.int 3)]]) (.cst (.int 17))), .asg 12 (.make 0 [.cst (.non)]), .setI (.var 12) (.sub (.var 7) (.var 11)) (.call 15 [.sub (.var 6) (.var 11)]), .ifs (.not (.call 12 [.call 17 [.make 0 [.cst (.non)]], .var 6])) [.ret (.cst (.bl false))] [], .for_ [13] 1 [.cst (.int 17)] [.asg 14 (.bin .mod (.bin .add (.var 11) (.var 13)) (.cst (.int 17))), .setI (.var 8) (.var 14) (.call 15 [.sub (.var 8) (.var 14)]), .setI (.var 9) (.sub (.var 7) (.var 14)) (.sub (.var 8) (.var 14)), .ifs (.or (.not (.call 12 [.prp (.var 9) 13, .call 20 [.var 8]])) (.not (.call 12 [.prp (.var 10) 13, .var 2]))) [.ret (.cst (.bl false))] []], .ret (.and (.call 12 [.call 17 [.var 9], .var 8]) (.call 23 [.var 1]))]⟩
/-- _law_number -/
def d20 : Def := ⟨1, 4, [.asg 1 (.cst (.int 0)), .asg 2 (.cst (.int 1)), .for_ [3] 0 [.var 0] [.ifs (.or (.cmp .eq (.var 3) (.cst (.str "near"))) (.cmp .eq (.var 3) (.cst (.str "behind")))) [.asg 1 (.bin .add (.var 1) (.var 2))] [], .asg 2 (.bin .mul (.var 2) (.cst (.int 2)))], .ret (.var 1)]⟩
/-- _law_cut -/
def d21 : Def := ⟨1, 1, [.ifs (.cmp .lt (.var 0) (.cst (.int 0))) [.ret (.bin .sub (.neg (.cst (.int 1))) (.bin .mod (.blt .int [.bin .sub (.neg (.cst (.int 1))) (.var 0)]) (.bin .pow (.cst (.int 10)) (.cst (.int 40)))))] [], .ret (.bin .mod (.blt .int [.var 0]) (.bin .pow (.cst (.int 10)) (.cst (.int 40))))]⟩
/-- _law_refused -/
def d22 : Def := ⟨1, 3, [.try_ 1 [(1, true), (2, false)] [(1, [(1000, false), (1001, false), (1002, false), (1003, false), (1004, false), (1005, false), (1006, false), (1007, false), (1008, false), (1009, false), (1010, true), (1011, true)])] [.expr (.call 5 [.var 0])] [.asg 2 (.lst [.exq 1 1000, .exq 1 1001, .exq 1 1002]), .asg 2 (.bin .add (.var 2) (.lst [.exq 1 1003, .exq 1 1004, .exq 1 1005])), .asg 2 (.bin .add (.var 2) (.lst [.exq 1 1006, .exq 1 1007, .exq 1 1008])), .expr (.bm .append (.var 2) [.exq 1 1009]), .ret (.and (.exq 1 1010) (.and (.exq 1 1011) (.cmp .notin (.cst (.bl true)) (.var 2))))], .ret (.cst (.bl false))]⟩
/-- _law_asked -/
def d23 : Def := ⟨1, 2, [.ifs (.or (.cmp .lt (.var 0) (.cst (.int 0))) (.cmp .gt (.var 0) (.cst (.int 131071)))) [.ret (.call 22 [.var 0])] [], .asg 1 (.call 5 [.var 0]), .ifs (.not (.isi (.var 1) (.cls 0))) [.ret (.cst (.bl false))] [], .ret (.and (.call 12 [.call 17 [.var 1], .call 14 [.var 0]]) (.call 12 [.prp (.var 1) 13, .var 0]))]⟩
end P
end
section
set_option Elab.async false
set_option linter.all false
set_option maxRecDepth 100000
/-! B1: an interpreter over data trees, for defs that change nothing that is seen. -/
namespace C
open PySem

/-- data trees -/
inductive D where
  | non | bl (b : Bool) | int (i : Int) | str (s : Str) | tup (ds : List D) | lst (ds : List D) | ro (ds : List D)
  | dct (ks : List Val) (ds : List D) | obj (c : Nat) (fs : List Nat) (ds : List D)
mutual
/-- no place of the store within -/
def D.flat : D → Bool
  | .lst _ => false
  | .dct _ _ => false
  | .obj _ _ _ => false
  | .tup ds => D.flats ds
  | .ro ds => D.flats ds
  | _ => true
def D.flats : List D → Bool
  | [] => true
  | d :: ds => D.flat d && D.flats ds
end
mutual
/-- data as a value -/
def D.val : D → Option Val
  | .non => some .non
  | .bl b => some (.bl b)
  | .int i => some (.int i)
  | .str s => some (.str s)
  | .tup ds => (D.vals ds).map Val.tup
  | _ => none
def D.vals : List D → Option (List Val)
  | [] => some []
  | d :: ds => (D.val d).bind fun v => (D.vals ds).map fun vs => v :: vs
end
mutual
def D.of : Val → D
  | .non => .non
  | .bl b => .bl b
  | .int i => .int i
  | .str s => .str s
  | .tup vs => .tup (D.ofs vs)
  | .ro vs => .ro (D.ofs vs)
  | .loc _ => .non
def D.ofs : List Val → List D
  | [] => []
  | v :: vs => D.of v :: D.ofs vs
end

/-- a value with its marks: it may hold what is older than the call; it may hold what a name owns -/
structure BV where
  d : D
  o : Bool
  a : Bool
def BV.mk' (d : D) (o a : Bool) : BV := if d.flat then ⟨d, false, false⟩ else ⟨d, o, a⟩
/-- a new list: flat things are nobody's -/
def mkL (ds : List D) (o a : Bool) : BV := ⟨.lst ds, o && !D.flats ds, a && !D.flats ds⟩
/-- a name's value: seen elsewhere too, or owned (a list, an instance that nothing else holds) -/
inductive BS where
  | val (d : D) (o : Bool)
  | own (d : D) (o : Bool)
abbrev BEnv := List (Option BS)
inductive BFl where
  | nx (env : BEnv) | rt (d : D) (o : Bool) | bk (env : BEnv)
structure BCx where
  T : Tab
  call : Nat → List D → Option (D × Bool)
  init : Nat → D → List D → Option (D × Bool)
  fuel : Nat
  /-- the first name stays (an __init__'s self) -/
  fix0 : Bool := false

def disown : BEnv → BEnv
  | [] => []
  | some (.own d o) :: r => some (.val d o) :: disown r
  | x :: r => x :: disown r
/-- an owned name is looked at -/
def pk (env : BEnv) (e : E) (r : Option BV) : Option BV := match e with
  | .var j => match env[j]? with
    | some (some (.own (.lst ds) o)) => some ⟨.lst ds, o, false⟩
    | _ => r
  | _ => r
def ditems : D → Option (List D)
  | .lst ds => some ds
  | .tup ds => some ds
  | .ro ds => some ds
  | _ => none
/-- scalars' operators, by the store's -/
def sc2 (f : Val → Val → Store → Res Val) (x y : D) : Option D := match D.val x, D.val y with
  | some v, some w => match f v w [] with
    | .ok z _ => some (D.of z)
    | _ => none
  | _, _ => none
def noCx : Cx := ⟨⟨fun _ => none, fun _ => none⟩, fun _ _ _ => .bad, 0⟩
def methB (B : BCx) (c m : Nat) (fs : List Nat) : Option Nat := if fs.contains m then none else (B.T.cls c).bind fun k => k.meths.lookup m
/-- a call's value: what it shares with the arguments -/
def ofCall (r : Option (D × Bool)) (o a : Bool) : Option BV := r.map fun p => BV.mk' p.1 (p.2 && o) (p.2 && a)
def bbin (B : BCx) (op : Bop) (x y : BV) : Option BV := match op, x.d, y.d with
  | .add, .lst xs, .lst ys => if xs.length + ys.length ≤ lineC then some (mkL (xs ++ ys) (x.o || y.o) (x.a || y.a)) else none
  | .bor, .obj c fs xs, .obj c' fs' ys => if c = c' then (methB B c mOr fs).bind fun f => ofCall (B.call f [.obj c fs xs, .obj c' fs' ys]) (x.o || y.o) (x.a || y.a) else none
  | .band, .obj c fs xs, .obj c' fs' ys => if c = c' then (methB B c mAnd fs).bind fun f => ofCall (B.call f [.obj c fs xs, .obj c' fs' ys]) (x.o || y.o) (x.a || y.a) else none
  | op, x, y => (sc2 (binV noCx op) x y).map fun d => ⟨d, false, false⟩
def keyOkK (k : Val) (ks : List Val) : Bool := (isMix k && ks.all isMix) || (isTupK k && ks.all isTupK)
def binn (B : BCx) (neg : Bool) (x y : BV) : Option BV := match y.d with
  | .obj c fs ys => (methB B c mContains fs).bind fun f => (B.call f [.obj c fs ys, x.d]).bind fun p => match p.1 with
    | .bl b => some ⟨.bl (if neg then !b else b), false, false⟩
    | _ => none
  | .lst ys => (D.val x.d).bind fun v => (D.vals ys).bind fun vs => if inOk v vs then some ⟨.bl (if neg then !vs.contains v else vs.contains v), false, false⟩ else none
  | .tup ys => (D.val x.d).bind fun v => (D.vals ys).bind fun vs => if inOk v vs then some ⟨.bl (if neg then !vs.contains v else vs.contains v), false, false⟩ else none
  | .dct ks _ => (D.val x.d).bind fun v => if keyOkK v ks then some ⟨.bl (if neg then !ks.contains v else ks.contains v), false, false⟩ else none
  | _ => none
def bcmp (B : BCx) (op : Cop) (x y : BV) : Option BV := match op with
  | .isin => binn B false x y
  | .notin => binn B true x y
  | op => (sc2 (cmpV noCx op) x.d y.d).map fun d => ⟨d, false, false⟩
def bsub (x : BV) (y : D) : Option BV := match x.d, y with
  | .lst ds, .int i => (L2.atI ds i).map fun d => BV.mk' d x.o x.a
  | .tup ds, .int i => (L2.atI ds i).map fun d => BV.mk' d x.o x.a
  | .ro ds, .int i => (L2.atI ds i).map fun d => BV.mk' d x.o x.a
  | .dct ks ds, y => (D.val y).bind fun v => if keyOkK v ks then ((ks.zip ds).lookup v).map fun d => BV.mk' d x.o x.a else none
  | _, _ => none
def batt (x : BV) (f : Nat) : Option BV := match x.d with
  | .obj _ fs ds => ((fs.zip ds).lookup f).map fun d => BV.mk' d x.o x.a
  | _ => none
def bpart : D → Option (Option Int)
  | .non => some none
  | .int i => some (some i)
  | _ => none
def bslc (x : BV) (lo hi : Option Int) : Option BV := match x.d with
  | .lst ds => if (cutL ds lo hi).length ≤ lineC then some (mkL (cutL ds lo hi) x.o x.a) else none
  | .ro ds => if (cutL ds lo hi).length ≤ lineC then some (mkL (cutL ds lo hi) x.o x.a) else none
  | _ => none
def kindD : D → Option Kd
  | .non => some .non
  | .bl _ => some .bl
  | .int _ => some .int
  | .str _ => some .str
  | .tup _ => some .tup
  | .ro _ => some .lst
  | .lst _ => some .lst
  | .dct _ _ => none
  | .obj c _ _ => some (.obj c)
/-- a sorted list -/
def bsorted (ds : List D) : Option (List D) := (D.vals ds).bind fun ys => match pairs ys with
  | some ps => some ((ps.mergeSort lePair).map fun p => D.of (mkPair p))
  | none => (ys.mapM isInt).map fun is => (is.mergeSort fun a b => decide (a ≤ b)).map D.int
def bblt (B : BCx) (b : Blt) (xs : List BV) : Option BV := match b, xs with
  | .len, [x] => (match x.d with
    | .lst ds => some ⟨.int ds.length, false, false⟩
    | .tup ds => some ⟨.int ds.length, false, false⟩
    | .ro ds => some ⟨.int ds.length, false, false⟩
    | .dct ks _ => some ⟨.int ks.length, false, false⟩
    | .str s => if s.length ≤ lineC then some ⟨.int s.length, false, false⟩ else none
    | _ => none)
  | .int, [x] => (match x.d with
    | .int i => some ⟨.int i, false, false⟩
    | .bl b => some ⟨.int (if b then 1 else 0), false, false⟩
    | _ => none)
  | .max2, [x, y] => (match x.d, y.d with
    | .int i, .int j => some ⟨.int (if j > i then j else i), false, false⟩
    | _, _ => none)
  | .min2, [x, y] => (match x.d, y.d with
    | .int i, .int j => some ⟨.int (if j < i then j else i), false, false⟩
    | _, _ => none)
  | .sorted, [x] => (match x.d with
    | .lst ds => (bsorted ds).bind fun es => if es.length ≤ lineC then some ⟨.lst es, false, false⟩ else none
    | _ => none)
  | .list, [x] => (match x.d with
    | .lst ds => if ds.length ≤ lineC then some (mkL ds x.o x.a) else none
    | .tup ds => if ds.length ≤ lineC then some (mkL ds x.o x.a) else none
    | .ro ds => if ds.length ≤ lineC then some (mkL ds x.o x.a) else none
    | .obj c fs es => ((B.T.cls c).bind (·.itf)).bind fun f => ((fs.zip es).lookup f).bind fun l => (match l with
      | .lst ds => if ds.length ≤ lineC then some (mkL ds x.o x.a) else none
      | _ => none)
    | _ => none)
  | _, _ => none
def bsetAll : List Nat → List D → Bool → BEnv → Option BEnv
  | [], [], _, env => some env
  | i :: is, d :: ds, o, env => bsetAll is ds o (env.set i (some (.val d (o && !d.flat))))
  | _, _, _, _ => none
def bsetN (is : List Nat) (d : D) (o : Bool) (env : BEnv) : Option BEnv := match is with
  | [i] => some (env.set i (some (.val d (o && !d.flat))))
  | is => match d with
    | .tup ds => bsetAll is ds o env
    | _ => none
def bwipe (env : BEnv) : List Nat → BEnv
  | [] => env
  | v :: vs => (bwipe env vs).set v none
def denum (ds : List D) : List D := ds.zipIdx.map fun p => .tup [.int (p.2 : Int), p.1]
/-- what is walked: the items and their marks -/
def bsrc (k : Nat) (xs : List BV) : Option (List D × Bool × Bool) := match k, xs with
  | 0, [x] => (match x.d with
    | .lst ds => some (ds, x.o, x.a)
    | .tup ds => some (ds, x.o, x.a)
    | .ro ds => some (ds, x.o, x.a)
    | .dct ks _ => if Val.datas ks = true then some (D.ofs ks, false, x.a) else none
    | _ => none)
  | 1, [x] => (match x.d with
    | .int j => if decide (-(2 ^ 62) ≤ j) && decide (j < 2 ^ 62) then some ((List.range j.toNat).map fun (i : Nat) => D.int (i : Int), false, false) else none
    | _ => none)
  | 3, [x] => (match x.d with
    | .lst ds => some (denum ds, x.o, x.a)
    | .tup ds => some (denum ds, x.o, x.a)
    | .ro ds => some (denum ds, x.o, x.a)
    | _ => none)
  | 2, [x, y] => (match x.d, y.d with
    | .int i, .int j => if decide (-(2 ^ 62) ≤ i) && decide (i < 2 ^ 62) && decide (-(2 ^ 62) ≤ j) && decide (j < 2 ^ 62) then some ((List.range (j - i).toNat).map fun (k : Nat) => D.int (i + (k : Int)), false, false) else none
    | _, _ => none)
  | _, _ => none
/-- no owned name among these -/
def noOwn (env : BEnv) (is : List Nat) : Bool := is.all fun i => match env[i]? with
  | some (some (.own _ _)) => false
  | _ => true
def bcond (r : Option BV) : Option Bool := r.bind fun x => match x.d with
  | .bl b => some b
  | _ => none
/-- the turns of a list comprehension -/
def blc (cond elt : BEnv → Option BV) (own tg : List Nat) (o : Bool) (env : BEnv) : List D → List D → Bool → Option BV
  | [], acc, po => some ⟨.lst acc, po, false⟩
  | x :: xs, acc, po => (bsetN tg x o (bwipe env own)).bind fun env1 => (bcond (cond env1)).bind fun b => if b = true then (elt env1).bind fun y => if y.a = false ∧ acc.length < lineC then blc cond elt own tg o env xs (acc ++ [y.d]) (po || y.o) else none
    else blc cond elt own tg o env xs acc po
def bputK (k : Val) (v : D) : List (Val × D) → List (Val × D)
  | [] => [(k, v)]
  | (g, x) :: r => if g = k then (g, v) :: r else (g, x) :: bputK k v r
def bdc (key val : BEnv → Option BV) (own tg : List Nat) (o : Bool) (env : BEnv) : List D → List (Val × D) → Bool → Option BV
  | [], acc, po => some ⟨.dct (acc.map (·.1)) (acc.map (·.2)), po, false⟩
  | x :: xs, acc, po => (bsetN tg x o (bwipe env own)).bind fun env1 => (key env1).bind fun k => (D.val k.d).bind fun kv => (val env1).bind fun y =>
    if y.a = false ∧ keyOkK kv (acc.map (·.1)) = true ∧ acc.length < lineC then bdc key val own tg o env xs (bputK kv y.d acc) (po || y.o) else none
def oany (xs : List BV) : Bool := xs.any (·.o)
def aany (xs : List BV) : Bool := xs.any (·.a)
mutual
def bev (B : BCx) (env : BEnv) : E → Option BV
  | .var i => match env[i]? with
    | some (some (.val d o)) => some ⟨d, o, false⟩
    | some (some (.own d o)) => some ⟨d, o, true⟩
    | _ => none
  | .cst v => if v.data then some ⟨D.of v, false, false⟩ else none
  | .bin op a b => (pk env a (bev B env a)).bind fun x => (pk env b (bev B env b)).bind fun y => bbin B op x y
  | .neg a => (bev B env a).bind fun x => match x.d with
    | .int i => some ⟨.int (-i), false, false⟩
    | _ => none
  | .cmp op a b => (pk env a (bev B env a)).bind fun x => (pk env b (bev B env b)).bind fun y => bcmp B op x y
  | .isN a => (pk env a (bev B env a)).bind fun x => some ⟨.bl (match x.d with | .non => true | _ => false), false, false⟩
  | .notN a => (pk env a (bev B env a)).bind fun x => some ⟨.bl (match x.d with | .non => false | _ => true), false, false⟩
  | .and a b => (bcond (bev B env a)).bind fun p => if p = true then bev B env b else some ⟨.bl false, false, false⟩
  | .or a b => (bcond (bev B env a)).bind fun p => if p = true then some ⟨.bl true, false, false⟩ else bev B env b
  | .not a => (bcond (bev B env a)).bind fun p => some ⟨.bl (!p), false, false⟩
  | .ite c a b => (bcond (bev B env c)).bind fun p => if p = true then bev B env a else bev B env b
  | .tup es => (bevs B env es).bind fun xs => if xs.length ≤ lineC then some (BV.mk' (.tup (xs.map (·.d))) (oany xs) (aany xs)) else none
  | .lst es => (bevs B env es).bind fun xs => if xs.length ≤ lineC then some (mkL (xs.map (·.d)) (oany xs) (aany xs)) else none
  | .sub a i => (pk env a (bev B env a)).bind fun x => (bev B env i).bind fun y => match x.d with
    | .obj c fs ds => ((B.T.cls c).bind fun k => k.meths.lookup mGet).bind fun f => ofCall (B.call f [.obj c fs ds, y.d]) (x.o || y.o) (x.a || y.a)
    | _ => bsub x y.d
  | .gsub kvs a => (bev B env a).bind fun x => match x.d with
    | .str s => (kvs.lookup s).bind fun v => if v.data then some ⟨D.of v, false, false⟩ else none
    | _ => none
  | .dcs kvs => some ⟨.dct (kvs.map fun p => .str p.1) (kvs.map fun p => .str p.2), false, false⟩
  | .prp a m => (bev B env a).bind fun x => match x.d with
    | .obj c fs ds => ((B.T.cls c).bind fun k => k.props.lookup m).bind fun f => ofCall (B.call f [.obj c fs ds]) x.o x.a
    | _ => none
  | .inv a => (bev B env a).bind fun x => match x.d with
    | .obj c fs ds => (methB B c mInv fs).bind fun f => ofCall (B.call f [.obj c fs ds]) x.o x.a
    | _ => none
  | .slc a lo hi => (pk env a (bev B env a)).bind fun x => ((bev B env lo).bind fun y => bpart y.d).bind fun l => ((bev B env hi).bind fun y => bpart y.d).bind fun h => bslc x l h
  | .nop => some ⟨.non, false, false⟩
  | .attr a f => (pk env a (bev B env a)).bind fun x => batt x f
  | .call f es => (bevs B env es).bind fun xs => ofCall (B.call f (xs.map (·.d))) (oany xs) (aany xs)
  | .meth a m es => (bev B env a).bind fun x => match x.d with
    | .obj c fs ds => (methB B c m fs).bind fun f => (bevs B env es).bind fun xs => ofCall (B.call f (.obj c fs ds :: xs.map (·.d))) (x.o || oany xs) (x.a || aany xs)
    | _ => none
  | .make c es => (bevs B env es).bind fun xs => ((B.T.cls c).bind (·.init)).bind fun f => (B.init f (.obj c [] []) (xs.map (·.d))).bind fun p => some ⟨p.1, p.2 && oany xs, p.2 && aany xs⟩
  | .blt b es => match es with
    | [e] => (pk env e (bev B env e)).bind fun x => bblt B b [x]
    | es => (bevs B env es).bind fun xs => bblt B b xs
  | .isi a t => (pk env a (bev B env a)).bind fun x => ((kindD x.d).bind (·.is t)).map fun b => ⟨.bl b, false, false⟩
  | .lc own tg k src cond elt => (match src with
    | [e] => (pk env e (bev B env e)).map fun x => [x]
    | es => bevs B env es).bind fun xs => (bsrc k xs).bind fun s => if (s.2.2 || !noOwn env own || !tg.all (own.contains ·)) = true then none else blc (fun env => bev B env cond) (fun env => bev B env elt) own tg s.2.1 env s.1 [] false
  | .dc own tg k src key val => (match src with
    | [e] => (pk env e (bev B env e)).map fun x => [x]
    | es => bevs B env es).bind fun xs => (bsrc k xs).bind fun s => if (s.2.2 || !noOwn env own || !tg.all (own.contains ·)) = true then none else bdc (fun env => bev B env key) (fun env => bev B env val) own tg s.2.1 env s.1 [] false
  | _ => none
def bevs (B : BCx) (env : BEnv) : List E → Option (List BV)
  | [] => some []
  | e :: es => (bev B env e).bind fun x => (bevs B env es).map fun xs => x :: xs
end
/-- the value's place is new, and no other holds it -/
def newTop : E → Bool
  | .lst _ => true
  | .lc _ _ _ _ _ _ => true
  | .slc _ _ _ => true
  | .blt .sorted _ => true
  | .blt .list _ => true
  | .make _ _ => true
  | _ => false
def bputF (f : Nat) (d : D) : List Nat → List D → List Nat × List D
  | g :: fs, x :: ds => if g = f then (g :: fs, d :: ds) else (g :: (bputF f d fs ds).1, x :: (bputF f d fs ds).2)
  | _, _ => ([f], [d])
def BFl.seq (r : Option BFl) (k : BEnv → Option BFl) : Option BFl := r.bind fun f => match f with
  | .nx env => k env
  | r => some r
def BFl.turn (r : Option BFl) (k : BEnv → Option BFl) : Option BFl := r.bind fun f => match f with
  | .nx env => k env
  | .bk env => some (.nx env)
  | r => some r
def bfor (body : BEnv → Option BFl) (tg : List Nat) (o : Bool) : List D → BEnv → Option BFl
  | [], env => some (.nx env)
  | x :: xs, env => (bsetN tg x o env).bind fun env1 => BFl.turn (body env1) fun env2 => bfor body tg o xs env2
def bwhile (test : BEnv → Option BV) (body : BEnv → Option BFl) : Nat → BEnv → Option BFl
  | 0, _ => none
  | n + 1, env => (bcond (test env)).bind fun b => if b = true then BFl.turn (body env) fun env2 => bwhile test body n env2 else some (.nx env)
/-- ahead of a loop over an owned name: it is owned no more -/
def disown1 (env : BEnv) (e : E) : BEnv := match e with
  | .var j => match env[j]? with
    | some (some (.own d o)) => env.set j (some (.val d o))
    | _ => env
  | _ => env
def bstore (i : Nat) (new : Bool) (x : BV) (env : BEnv) : BEnv :=
  if new = true && !x.a then env.set i (some (.own x.d x.o)) else (if x.a = true then disown env else env).set i (some (.val x.d x.o))
/-- a statement on an owned name -/
def bown (env : BEnv) (i : Nat) (f : D → Bool → Option (D × Bool)) : Option BFl := match env[i]? with
  | some (some (.own d o)) => (f d o).map fun p => .nx (env.set i (some (.own p.1 p.2)))
  | _ => none
def bapp (x : BV) (d : D) (o : Bool) : Option (D × Bool) := match d with
  | .lst ds => if x.a = false ∧ ds.length < lineC then some (.lst (ds ++ [x.d]), o || x.o) else none
  | _ => none
def bsetI (x : BV) (j : D) (d : D) (o : Bool) : Option (D × Bool) := match d, j with
  | .lst ds, .int k => if x.a = false ∧ 0 ≤ k ∧ k < ds.length then some (.lst (ds.set k.toNat x.d), o || x.o) else none
  | _, _ => none
def bsetF (B : BCx) (f : Nat) (x : BV) (d : D) (o : Bool) : Option (D × Bool) := match d with
  | .obj c fs ds => (B.T.cls c).bind fun ci => if x.a = false ∧ ci.fields.contains f = true ∧ fs.length < 900 then some (.obj c (bputF f x.d fs ds).1 (bputF f x.d fs ds).2, o || x.o) else none
  | _ => none
mutual
def bex (B : BCx) : S → BEnv → Option BFl
  | .asg i e, env => if (B.fix0 && decide (i = 0)) = true then none else (bev B env e).map fun x => .nx (bstore i (newTop e) x env)
  | .asgT is e, env => if (B.fix0 && is.contains 0) = true then none else (bev B env e).bind fun x => if x.a = true then none else (bsetN is x.d x.o env).map .nx
  | .expr e, env => match e with
    | .bm .append (.var i) [e] => (bev B env e).bind fun x => bown env i (bapp x)
    | e => (bev B env e).map fun _ => .nx env
  | .setI o j e, env => match o with
    | .var i => (bev B env e).bind fun x => (bev B env j).bind fun y => bown env i (bsetI x y.d)
    | _ => none
  | .setF o f e, env => match o with
    | .var i => (bev B env e).bind fun x => bown env i (bsetF B f x)
    | _ => none
  | .ifs c a b, env => (bcond (bev B env c)).bind fun p => if p = true then bexs B a env else bexs B b env
  | .for_ tg k src body, env => if (B.fix0 && tg.contains 0) = true then none else match src with
    | [e] => (pk env e (bev B env e)).bind fun x => (bsrc k [x]).bind fun s => if s.2.2 = true then none else bfor (fun env => bexs B body env) tg s.2.1 s.1 (disown1 env e)
    | es => (bevs B env es).bind fun xs => (bsrc k xs).bind fun s => if s.2.2 = true then none else bfor (fun env => bexs B body env) tg s.2.1 s.1 env
  | .while_ c body, env => bwhile (fun env => bev B env c) (fun env => bexs B body env) B.fuel env
  | .ret e, env => (bev B env e).map fun x => .rt x.d x.o
  | .retN, _ => some (.rt .non false)
  | .brk, env => some (.bk env)
  | .pass, env => some (.nx env)
  | _, _ => none
def bexs (B : BCx) : List S → BEnv → Option BFl
  | [], env => some (.nx env)
  | s :: ss, env => BFl.seq (bex B s env) fun env1 => bexs B ss env1
end
def bresD : Option BFl → Option (D × Bool)
  | some (.rt d o) => some (d, o)
  | some (.nx _) => some (.non, false)
  | _ => none
def own0 (env : BEnv) : Option (D × Bool) := match env with
  | some (.own d o) :: _ => some (d, o)
  | _ => none
def bresI : Option BFl → Option (D × Bool)
  | some (.nx env) => own0 env
  | _ => none
def bstart (d : Def) (ds : List D) : BEnv := ds.map (fun d => some (.val d (!d.flat))) ++ List.replicate (d.nv - d.np) none
def brun (B : BCx) (d : Def) (ds : List D) : Option (D × Bool) := if ds.length = d.np then bresD (bexs B d.body (bstart d ds)) else none
/-- an __init__: self is owned -/
def binit (B : BCx) (d : Def) (x : D) (ds : List D) : Option (D × Bool) := if ds.length + 1 = d.np then bresI (bexs { B with fix0 := true } d.body (some (.own x false) :: bstart ⟨d.np - 1, d.nv - 1, d.body⟩ ds)) else none
mutual
def bcall (T : Tab) (fuel : Nat) : Nat → Nat → List D → Option (D × Bool)
  | 0, _, _ => none
  | k + 1, f, ds => match T.defs f with
    | some d => brun ⟨T, bcall T fuel k, bmake T fuel k, fuel, false⟩ d ds
    | none => none
def bmake (T : Tab) (fuel : Nat) : Nat → Nat → D → List D → Option (D × Bool)
  | 0, _, _, _ => none
  | k + 1, f, x, ds => match T.defs f with
    | some d => binit ⟨T, bcall T fuel k, bmake T fuel k, fuel, false⟩ d x ds
    | none => none
end
end C
end
section
set_option Elab.async false
set_option linter.all false
set_option maxRecDepth 100000
set_option maxHeartbeats 1000000
/-! B2: how data trees lie in the store. -/
namespace C
open PySem

mutual
/-- the tree d at the value v, its places all in P -/
def RD (S : Store) (P : Nat → Prop) : D → Val → Prop
  | .non, v => v = .non
  | .bl b, v => v = .bl b
  | .int i, v => v = .int i
  | .str s, v => v = .str s
  | .tup ds, v => ∃ vs, v = .tup vs ∧ RDs S P ds vs
  | .ro ds, v => ∃ vs, v = .ro vs ∧ RDs S P ds vs
  | .lst ds, v => ∃ n vs, v = .loc n ∧ P n ∧ S[n]? = some (.lst vs) ∧ RDs S P ds vs
  | .dct ks ds, v => ∃ n ep kvs, v = .loc n ∧ P n ∧ S[n]? = some (.dct ep kvs) ∧ kvs.map (·.1) = ks ∧ RDs S P ds (kvs.map (·.2))
  | .obj c fs ds, v => ∃ n l, v = .loc n ∧ P n ∧ S[n]? = some (.obj c l) ∧ l.map (·.1) = fs ∧ RDs S P ds (l.map (·.2))
def RDs (S : Store) (P : Nat → Prop) : List D → List Val → Prop
  | [], vs => vs = []
  | d :: ds, vs => ∃ v r, vs = v :: r ∧ RD S P d v ∧ RDs S P ds r
end
section
variable {S S' : Store} {P P' : Nat → Prop}
mutual
theorem RD.to (h : ∀ n c, P n → S[n]? = some c → S'[n]? = some c ∧ P' n) : ∀ {d : D} {v : Val}, RD S P d v → RD S' P' d v
  | .non, _, r => r
  | .bl _, _, r => r
  | .int _, _, r => r
  | .str _, _, r => r
  | .tup ds, _, r => by obtain ⟨vs, e, r⟩ := r; exact ⟨vs, e, RDs.to h r⟩
  | .ro ds, _, r => by obtain ⟨vs, e, r⟩ := r; exact ⟨vs, e, RDs.to h r⟩
  | .lst ds, _, r => by
    obtain ⟨n, vs, e, p, q, r⟩ := r
    obtain ⟨q', p'⟩ := h n _ p q
    exact ⟨n, vs, e, p', q', RDs.to h r⟩
  | .dct ks ds, _, r => by
    obtain ⟨n, ep, kvs, e, p, q, k, r⟩ := r
    obtain ⟨q', p'⟩ := h n _ p q
    exact ⟨n, ep, kvs, e, p', q', k, RDs.to h r⟩
  | .obj c fs ds, _, r => by
    obtain ⟨n, l, e, p, q, k, r⟩ := r
    obtain ⟨q', p'⟩ := h n _ p q
    exact ⟨n, l, e, p', q', k, RDs.to h r⟩
theorem RDs.to (h : ∀ n c, P n → S[n]? = some c → S'[n]? = some c ∧ P' n) : ∀ {ds : List D} {vs : List Val}, RDs S P ds vs → RDs S' P' ds vs
  | [], _, r => r
  | d :: ds, _, r => by
    obtain ⟨v, t, e, r1, r2⟩ := r
    exact ⟨v, t, e, RD.to h r1, RDs.to h r2⟩
end
mutual
theorem RD.flat : ∀ {d : D} {v : Val}, d.flat = true → RD S P d v → RD S' P' d v
  | .non, _, _, r => r
  | .bl _, _, _, r => r
  | .int _, _, _, r => r
  | .str _, _, _, r => r
  | .tup ds, _, f, r => by obtain ⟨vs, e, r⟩ := r; exact ⟨vs, e, RDs.flat f r⟩
  | .ro ds, _, f, r => by obtain ⟨vs, e, r⟩ := r; exact ⟨vs, e, RDs.flat f r⟩
  | .lst _, _, f, _ => by cases f
  | .dct _ _, _, f, _ => by cases f
  | .obj _ _ _, _, f, _ => by cases f
theorem RDs.flat : ∀ {ds : List D} {vs : List Val}, D.flats ds = true → RDs S P ds vs → RDs S' P' ds vs
  | [], _, _, r => r
  | d :: ds, _, f, r => by
    obtain ⟨v, t, e, r1, r2⟩ := r
    have f' : (D.flat d && D.flats ds) = true := f
    rw [Bool.and_eq_true] at f'
    exact ⟨v, t, e, RD.flat f'.1 r1, RDs.flat f'.2 r2⟩
end
mutual
theorem RD.val : ∀ {d : D} {v w : Val}, d.val = some w → RD S P d v → v = w
  | .non, _, _, e, r => by cases e; exact r
  | .bl _, _, _, e, r => by cases e; exact r
  | .int _, _, _, e, r => by cases e; exact r
  | .str _, _, _, e, r => by cases e; exact r
  | .tup ds, _, _, e, r => by
    obtain ⟨vs, e1, r⟩ := r
    have e : (D.vals ds).map Val.tup = some _ := e
    cases h : D.vals ds with
    | none => rw [h] at e; cases e
    | some ws => rw [h] at e; cases e; rw [e1, RDs.vals h r]
  | .ro _, _, _, e, _ => by cases e
  | .lst _, _, _, e, _ => by cases e
  | .dct _ _, _, _, e, _ => by cases e
  | .obj _ _ _, _, _, e, _ => by cases e
theorem RDs.vals : ∀ {ds : List D} {vs ws : List Val}, D.vals ds = some ws → RDs S P ds vs → vs = ws
  | [], _, _, e, r => by cases e; exact r
  | d :: ds, _, _, e, r => by
    obtain ⟨v, t, e1, r1, r2⟩ := r
    have e : (D.val d).bind (fun v => (D.vals ds).map fun vs => v :: vs) = some _ := e
    cases h1 : D.val d with
    | none => rw [h1] at e; cases e
    | some w =>
      rw [h1] at e
      cases h2 : D.vals ds with
      | none => rw [h2] at e; cases e
      | some ws =>
        rw [h2] at e
        cases e
        rw [e1, RD.val h1 r1, RDs.vals h2 r2]
end
mutual
theorem D.val_data : ∀ {d : D} {w : Val}, d.val = some w → w.data = true
  | .non, _, e => by cases e; rfl
  | .bl _, _, e => by cases e; rfl
  | .int _, _, e => by cases e; rfl
  | .str _, _, e => by cases e; rfl
  | .tup ds, _, e => by
    have e : (D.vals ds).map Val.tup = some _ := e
    cases h : D.vals ds with
    | none => rw [h] at e; cases e
    | some ws => rw [h] at e; cases e; exact D.vals_data h
  | .ro _, _, e => by cases e
  | .lst _, _, e => by cases e
  | .dct _ _, _, e => by cases e
  | .obj _ _ _, _, e => by cases e
theorem D.vals_data : ∀ {ds : List D} {ws : List Val}, D.vals ds = some ws → Val.datas ws = true
  | [], _, e => by cases e; rfl
  | d :: ds, _, e => by
    have e : (D.val d).bind (fun v => (D.vals ds).map fun vs => v :: vs) = some _ := e
    cases h1 : D.val d with
    | none => rw [h1] at e; cases e
    | some w =>
      rw [h1] at e
      cases h2 : D.vals ds with
      | none => rw [h2] at e; cases e
      | some ws =>
        rw [h2] at e
        cases e
        show (Val.data w && Val.datas ws) = true
        rw [D.val_data h1, D.vals_data h2]
        rfl
end
mutual
theorem RD.of : ∀ {v : Val}, v.data = true → RD S P (D.of v) v
  | .non, _ => rfl
  | .bl _, _ => rfl
  | .int _, _ => rfl
  | .str _, _ => rfl
  | .tup vs, h => ⟨vs, rfl, RDs.of h⟩
  | .ro _, h => by cases h
  | .loc _, h => by cases h
theorem RDs.of : ∀ {vs : List Val}, Val.datas vs = true → RDs S P (D.ofs vs) vs
  | [], _ => rfl
  | v :: vs, h => by
    have h' : (Val.data v && Val.datas vs) = true := h
    rw [Bool.and_eq_true] at h'
    exact ⟨v, vs, rfl, RD.of h'.1, RDs.of h'.2⟩
end
mutual
theorem D.of_flat : ∀ {v : Val}, v.data = true → (D.of v).flat = true
  | .non, _ => rfl
  | .bl _, _ => rfl
  | .int _, _ => rfl
  | .str _, _ => rfl
  | .tup vs, h => D.ofs_flat h
  | .ro _, h => by cases h
  | .loc _, h => by cases h
theorem D.ofs_flat : ∀ {vs : List Val}, Val.datas vs = true → D.flats (D.ofs vs) = true
  | [], _ => rfl
  | v :: vs, h => by
    have h' : (Val.data v && Val.datas vs) = true := h
    rw [Bool.and_eq_true] at h'
    show (D.flat (D.of v) && D.flats (D.ofs vs)) = true
    rw [D.of_flat h'.1, D.ofs_flat h'.2]
    rfl
end
theorem RDs.length : ∀ {ds : List D} {vs : List Val}, RDs S P ds vs → vs.length = ds.length
  | [], _, r => by rw [show _ = [] from r]; rfl
  | d :: ds, _, r => by
    obtain ⟨v, t, e, _, r2⟩ := r
    rw [e, List.length_cons, List.length_cons, RDs.length r2]
theorem RDs.get : ∀ {ds : List D} {vs : List Val} {i : Nat} {d : D}, RDs S P ds vs → ds[i]? = some d → ∃ v, vs[i]? = some v ∧ RD S P d v
  | [], _, _, _, _, e => by simp at e
  | d :: ds, _, 0, _, r, e => by
    obtain ⟨v, t, e1, r1, r2⟩ := r
    simp at e
    subst e e1
    exact ⟨v, rfl, r1⟩
  | d :: ds, _, i + 1, _, r, e => by
    obtain ⟨v, t, e1, r1, r2⟩ := r
    subst e1
    exact RDs.get (i := i) r2 (by simpa using e)
theorem RDs.append : ∀ {ds es : List D} {vs ws : List Val}, RDs S P ds vs → RDs S P es ws → RDs S P (ds ++ es) (vs ++ ws)
  | [], _, _, _, r, q => by rw [show _ = [] from r]; exact q
  | d :: ds, _, _, _, r, q => by
    obtain ⟨v, t, e1, r1, r2⟩ := r
    subst e1
    exact ⟨v, _, rfl, r1, RDs.append r2 q⟩
theorem RDs.take : ∀ {ds : List D} {vs : List Val} (n : Nat), RDs S P ds vs → RDs S P (ds.take n) (vs.take n)
  | _, _, 0, _ => by simp [RDs]
  | [], _, n + 1, r => by rw [show _ = [] from r]; exact rfl
  | d :: ds, _, n + 1, r => by
    obtain ⟨v, t, e1, r1, r2⟩ := r
    subst e1
    exact ⟨v, _, rfl, r1, RDs.take n r2⟩
theorem RDs.drop : ∀ {ds : List D} {vs : List Val} (n : Nat), RDs S P ds vs → RDs S P (ds.drop n) (vs.drop n)
  | _, _, 0, r => by simpa using r
  | [], _, n + 1, r => by rw [show _ = [] from r]; exact rfl
  | d :: ds, _, n + 1, r => by
    obtain ⟨v, t, e1, r1, r2⟩ := r
    subst e1
    exact RDs.drop n r2
theorem RDs.set {e : D} {w : Val} (q : RD S P e w) : ∀ {ds : List D} {vs : List Val} (i : Nat), RDs S P ds vs → RDs S P (ds.set i e) (vs.set i w)
  | [], _, _, r => by rw [show _ = [] from r]; exact rfl
  | d :: ds, _, 0, r => by
    obtain ⟨v, t, e1, r1, r2⟩ := r
    subst e1
    exact ⟨w, t, rfl, q, r2⟩
  | d :: ds, _, i + 1, r => by
    obtain ⟨v, t, e1, r1, r2⟩ := r
    subst e1
    exact ⟨v, _, rfl, r1, RDs.set q i r2⟩
theorem RDs.one {d : D} {vs : List Val} (r : RDs S P [d] vs) : ∃ v, vs = [v] ∧ RD S P d v := by
  obtain ⟨v, t, e1, r1, r2⟩ := r
  have e2 : t = [] := r2
  subst e2
  exact ⟨v, e1, r1⟩
theorem RDs.atI {ds : List D} {vs : List Val} {i : Int} {d : D} (r : RDs S P ds vs) (e : L2.atI ds i = some d) : ∃ v, L2.atI vs i = some v ∧ RD S P d v := by
  unfold L2.atI at e ⊢
  rw [r.length]
  cases q : L2.ixN ds.length i with
  | none => rw [q] at e; cases e
  | some j =>
    rw [q] at e
    exact r.get e
theorem RDs.lookup {κ : Type} [BEq κ] [LawfulBEq κ] {k : κ} {d : D} : ∀ {fs : List κ} {ds : List D} {l : List (κ × Val)}, l.map (·.1) = fs → RDs S P ds (l.map (·.2)) → (fs.zip ds).lookup k = some d → ∃ v, l.lookup k = some v ∧ RD S P d v
  | [], ds, l, _, _, e => by cases e
  | f :: fs, [], l, _, _, e => by cases e
  | f :: fs, x :: ds, l, h, r, e => by
    cases l with
    | nil => cases h
    | cons p l =>
      obtain ⟨g, u⟩ := p
      simp only [List.map_cons, List.cons.injEq] at h
      obtain ⟨v, t, e1, r1, r2⟩ := r
      simp only [List.map_cons, List.cons.injEq] at e1
      obtain ⟨h1, h2⟩ := h
      obtain ⟨e2, e3⟩ := e1
      subst h1 e2
      rw [List.zip_cons_cons, List.lookup_cons] at e
      rw [List.lookup_cons]
      cases hk : k == g with
      | true =>
        rw [hk] at e
        simp at e ⊢
        subst e
        exact r1
      | false =>
        rw [hk] at e
        simp only at e ⊢
        exact RDs.lookup h2 (by rw [e3]; exact r2) e
theorem RDs.lookup_none {κ : Type} [BEq κ] {k : κ} : ∀ {fs : List κ} {l : List (κ × Val)}, l.map (·.1) = fs → fs.contains k = false → l.lookup k = none
  | fs, [], _, _ => rfl
  | fs, (g, u) :: l, h, e => by
    subst h
    simp only [List.map_cons, List.contains_cons, Bool.or_eq_false_iff] at e
    rw [List.lookup_cons, e.1]
    exact RDs.lookup_none rfl e.2
/-! ### a value tells its tree -/
mutual
theorem RD.inj : ∀ {d d' : D} {v : Val}, RD S P d v → RD S P' d' v → d = d'
  | .non, d', v, r, q => by subst r; cases d' <;> simp [RD] at q ⊢
  | .bl b, d', v, r, q => by subst r; cases d' <;> simp [RD] at q ⊢; exact q
  | .int b, d', v, r, q => by subst r; cases d' <;> simp [RD] at q ⊢; exact q
  | .str b, d', v, r, q => by subst r; cases d' <;> simp [RD] at q ⊢; exact q
  | .tup ds, d', v, r, q => by
    obtain ⟨vs, rfl, r⟩ := r
    cases d' <;> simp [RD] at q ⊢
    exact RDs.inj r q
  | .ro ds, d', v, r, q => by
    obtain ⟨vs, rfl, r⟩ := r
    cases d' <;> simp [RD] at q ⊢
    exact RDs.inj r q
  | .lst ds, d', v, r, q => by
    obtain ⟨n, vs, rfl, _, e, r⟩ := r
    cases d' with
    | lst es =>
      obtain ⟨m, ws, e1, _, e2, q⟩ := q
      cases e1
      rw [e] at e2; cases e2
      rw [RDs.inj r q]
    | dct ks es =>
      obtain ⟨m, ep, kvs, e1, _, e2, _⟩ := q
      cases e1
      rw [e] at e2; cases e2
    | obj c fs es =>
      obtain ⟨m, l, e1, _, e2, _⟩ := q
      cases e1
      rw [e] at e2; cases e2
    | _ => simp [RD] at q
  | .dct ks ds, d', v, r, q => by
    obtain ⟨n, ep, kvs, rfl, _, e, hk, r⟩ := r
    cases d' with
    | dct ks' es =>
      obtain ⟨m, ep', kvs', e1, _, e2, hk', q⟩ := q
      cases e1
      rw [e] at e2; cases e2
      rw [RDs.inj r q, ← hk, ← hk']
    | lst es =>
      obtain ⟨m, ws, e1, _, e2, q⟩ := q
      cases e1
      rw [e] at e2; cases e2
    | obj c fs es =>
      obtain ⟨m, l, e1, _, e2, _⟩ := q
      cases e1
      rw [e] at e2; cases e2
    | _ => simp [RD] at q
  | .obj c fs ds, d', v, r, q => by
    obtain ⟨n, l, rfl, _, e, hk, r⟩ := r
    cases d' with
    | obj c' fs' es =>
      obtain ⟨m, l', e1, _, e2, hk', q⟩ := q
      cases e1
      rw [e] at e2; cases e2
      rw [RDs.inj r q, ← hk, ← hk']
    | lst es =>
      obtain ⟨m, ws, e1, _, e2, q⟩ := q
      cases e1
      rw [e] at e2; cases e2
    | dct ks es =>
      obtain ⟨m, ep, kvs, e1, _, e2, _⟩ := q
      cases e1
      rw [e] at e2; cases e2
    | _ => simp [RD] at q
theorem RDs.inj : ∀ {ds ds' : List D} {vs : List Val}, RDs S P ds vs → RDs S P' ds' vs → ds = ds'
  | [], ds', vs, r, q => by
    have e : vs = [] := r
    subst e
    cases ds' with
    | nil => rfl
    | cons d ds' => obtain ⟨_, _, e, _⟩ := q; cases e
  | d :: ds, ds', vs, r, q => by
    obtain ⟨v, t, rfl, r1, r2⟩ := r
    cases ds' with
    | nil => cases q
    | cons d' ds' =>
      obtain ⟨v', t', e, q1, q2⟩ := q
      cases e
      rw [RD.inj r1 q1, RDs.inj r2 q2]
end
mutual
/-- a place does not lie within its own tree -/
theorem RD.off {n : Nat} {d0 : D} (h0 : RD S P' d0 (.loc n)) : ∀ {d : D} {v : Val}, sizeOf d < sizeOf d0 → RD S P d v → RD S (fun m => P m ∧ m ≠ n) d v
  | .non, _, _, r => r
  | .bl _, _, _, r => r
  | .int _, _, _, r => r
  | .str _, _, _, r => r
  | .tup ds, _, hs, r => by
    obtain ⟨vs, e, r⟩ := r
    exact ⟨vs, e, RDs.off h0 (by simp only [D.tup.sizeOf_spec] at hs; omega) r⟩
  | .ro ds, _, hs, r => by
    obtain ⟨vs, e, r⟩ := r
    exact ⟨vs, e, RDs.off h0 (by simp only [D.ro.sizeOf_spec] at hs; omega) r⟩
  | .lst ds, _, hs, r => by
    have r0 := r
    obtain ⟨m, vs, e, p, q, r⟩ := r
    refine ⟨m, vs, e, ⟨p, fun z => ?_⟩, q, RDs.off h0 (by simp only [D.lst.sizeOf_spec] at hs; omega) r⟩
    subst z e
    rw [RD.inj r0 h0] at hs
    exact absurd hs (Nat.lt_irrefl _)
  | .dct ks ds, _, hs, r => by
    have r0 := r
    obtain ⟨m, ep, kvs, e, p, q, k, r⟩ := r
    refine ⟨m, ep, kvs, e, ⟨p, fun z => ?_⟩, q, k, RDs.off h0 (by simp only [D.dct.sizeOf_spec] at hs; omega) r⟩
    subst z e
    rw [RD.inj r0 h0] at hs
    exact absurd hs (Nat.lt_irrefl _)
  | .obj c fs ds, _, hs, r => by
    have r0 := r
    obtain ⟨m, l, e, p, q, k, r⟩ := r
    refine ⟨m, l, e, ⟨p, fun z => ?_⟩, q, k, RDs.off h0 (by simp only [D.obj.sizeOf_spec] at hs; omega) r⟩
    subst z e
    rw [RD.inj r0 h0] at hs
    exact absurd hs (Nat.lt_irrefl _)
theorem RDs.off {n : Nat} {d0 : D} (h0 : RD S P' d0 (.loc n)) : ∀ {ds : List D} {vs : List Val}, sizeOf ds < sizeOf d0 → RDs S P ds vs → RDs S (fun m => P m ∧ m ≠ n) ds vs
  | [], _, _, r => r
  | d :: ds, _, hs, r => by
    obtain ⟨v, t, e, r1, r2⟩ := r
    have e1 : sizeOf (d :: ds) = 1 + sizeOf d + sizeOf ds := List.cons.sizeOf_spec d ds
    exact ⟨v, t, e, RD.off h0 (by omega) r1, RDs.off h0 (by omega) r2⟩
end
/-- every place of a tree is in the store -/
theorem RD.lt {d : D} {v : Val} (r : RD S P d v) : RD S (fun n => P n ∧ n < S.length) d v := r.to fun n c p e => ⟨e, p, (List.getElem?_eq_some_iff.mp e).1⟩
theorem RDs.lt {d : List D} {v : List Val} (r : RDs S P d v) : RDs S (fun n => P n ∧ n < S.length) d v := r.to fun n c p e => ⟨e, p, (List.getElem?_eq_some_iff.mp e).1⟩
end
end C
end
section
set_option Elab.async false
set_option linter.all false
set_option maxRecDepth 100000
set_option maxHeartbeats 1000000
/-! B3: names' values; operators. -/
namespace C
open PySem

theorem pre_at {α : Type} {S S' : List α} {n : Nat} {c : α} (p : S <+: S') (h : S[n]? = some c) : S'[n]? = some c := by
  obtain ⟨t, rfl⟩ := p
  rw [List.getElem?_append_left (List.getElem?_eq_some_iff.mp h).1]; exact h
def Pd (N0 : Nat) (P A : Nat → Prop) (o a : Bool) (n : Nat) : Prop := (n < N0 → o = true ∧ P n) ∧ (A n → a = true)
def Ao (env : BEnv) (cenv : Env) (X : Nat → Prop) (n : Nat) : Prop := X n ∨ ∃ (i : Nat) (d : D) (o : Bool), env[i]? = some (some (.own d o)) ∧ cenv[i]? = some (some (.loc n))
/-- what an owned name's place holds -/
def OwnAt (S : Store) (P : Nat → Prop) (d : D) (n : Nat) : Prop := match d with
  | .lst ds => ∃ vs, S[n]? = some (.lst vs) ∧ RDs S P ds vs
  | .dct ks ds => ∃ ep kvs, S[n]? = some (.dct ep kvs) ∧ kvs.map (·.1) = ks ∧ RDs S P ds (kvs.map (·.2))
  | .obj c fs ds => ∃ l, S[n]? = some (.obj c l) ∧ l.map (·.1) = fs ∧ RDs S P ds (l.map (·.2))
  | _ => False
/-- a list looked at: its own place may be any -/
def RI (S : Store) (P : Nat → Prop) (d : D) (v : Val) : Prop := match d with
  | .lst ds => ∃ n vs, v = .loc n ∧ S[n]? = some (.lst vs) ∧ RDs S P ds vs
  | d => RD S P d v
structure ER' (N0 : Nat) (P X : Nat → Prop) (S : Store) (env : BEnv) (cenv : Env) : Prop where
  len : env.length = cenv.length
  val : ∀ (i : Nat) (d : D) (o : Bool), env[i]? = some (some (.val d o)) → ∃ v, cenv[i]? = some (some v) ∧ RD S (Pd N0 P (Ao env cenv X) o false) d v
  own : ∀ (i : Nat) (d : D) (o : Bool), env[i]? = some (some (.own d o)) → ∃ n, cenv[i]? = some (some (.loc n)) ∧ N0 ≤ n ∧ OwnAt S (Pd N0 P (Ao env cenv X) o false) d n
  inj : ∀ (i j n : Nat) (d e : D) (o p : Bool), env[i]? = some (some (.own d o)) → env[j]? = some (some (.own e p)) → cenv[i]? = some (some (.loc n)) → cenv[j]? = some (some (.loc n)) → i = j
  tmp : ∀ n, X n → N0 ≤ n ∧ n < S.length ∧ ∀ (i : Nat) (d : D) (o : Bool), env[i]? = some (some (.own d o)) → cenv[i]? ≠ some (some (.loc n))

section
variable {N0 : Nat} {P X A A' : Nat → Prop} {S S' : Store} {env : BEnv} {cenv : Env} {o a o' a' : Bool} {d : D} {v : Val} {n : Nat} {Γ : Cx} {B : BCx}
theorem Pd.weak (h : Pd N0 P A o a n) (hA : A' n → A n) (ho : o = true → o' = true) (ha : a = true → a' = true) : Pd N0 P A' o' a' n := ⟨fun l => ⟨ho (h.1 l).1, (h.1 l).2⟩, fun z => ha (h.2 (hA z))⟩
theorem RD.weak {d : D} {v : Val} (r : RD S (Pd N0 P A o a) d v) (p : S <+: S') (hA : ∀ n, n < S.length → A' n → A n) (ho : o = true → o' = true) (ha : a = true → a' = true) : RD S' (Pd N0 P A' o' a') d v :=
  r.to fun n c q e => ⟨pre_at p e, q.weak (hA n (List.getElem?_eq_some_iff.mp e).1) ho ha⟩
theorem RDs.weak {d : List D} {v : List Val} (r : RDs S (Pd N0 P A o a) d v) (p : S <+: S') (hA : ∀ n, n < S.length → A' n → A n) (ho : o = true → o' = true) (ha : a = true → a' = true) : RDs S' (Pd N0 P A' o' a') d v :=
  r.to fun n c q e => ⟨pre_at p e, q.weak (hA n (List.getElem?_eq_some_iff.mp e).1) ho ha⟩
theorem RD.pre {Q : Nat → Prop} (r : RD S Q d v) (p : S <+: S') : RD S' Q d v := r.to fun n c q e => ⟨pre_at p e, q⟩
theorem RDs.pre {Q : Nat → Prop} {ds : List D} {vs : List Val} (r : RDs S Q ds vs) (p : S <+: S') : RDs S' Q ds vs := r.to fun n c q e => ⟨pre_at p e, q⟩
theorem RI.pre {Q : Nat → Prop} (r : RI S Q d v) (p : S <+: S') : RI S' Q d v := by
  cases d with
  | lst ds => obtain ⟨n, vs, e, q, r⟩ := r; exact ⟨n, vs, e, pre_at p q, r.pre p⟩
  | _ => exact RD.pre r p
theorem RI.ofRD {Q : Nat → Prop} (r : RD S Q d v) : RI S Q d v := by
  cases d with
  | lst ds => obtain ⟨n, vs, e, _, q, r⟩ := r; exact ⟨n, vs, e, q, r⟩
  | _ => exact r
theorem RI.val {Q : Nat → Prop} {w : Val} (e : d.val = some w) (r : RI S Q d v) : v = w := by
  cases d with
  | lst ds => cases e
  | _ => exact RD.val (S := S) (P := Q) e r
theorem RI.any {Q : Nat → Prop} (r : RI S Q d v) : RD S (fun _ => True) d v := by
  cases d with
  | lst ds => obtain ⟨n, vs, e, q, r⟩ := r; exact ⟨n, vs, e, True.intro, q, r.to fun _ _ _ e => ⟨e, True.intro⟩⟩
  | _ => exact RD.to (S := S) (P := Q) (fun _ _ _ e => ⟨e, True.intro⟩) r
theorem OwnAt.to {Q Q' : Nat → Prop} (r : OwnAt S Q d n) (hn : ∀ c, S[n]? = some c → S'[n]? = some c) (h : ∀ n c, Q n → S[n]? = some c → S'[n]? = some c ∧ Q' n) : OwnAt S' Q' d n := by
  cases d with
  | lst ds => obtain ⟨vs, q, r⟩ := r; exact ⟨vs, hn _ q, r.to h⟩
  | dct ks ds => obtain ⟨ep, kvs, q, k, r⟩ := r; exact ⟨ep, kvs, hn _ q, k, r.to h⟩
  | obj c fs ds => obtain ⟨l, q, k, r⟩ := r; exact ⟨l, hn _ q, k, r.to h⟩
  | _ => exact r.elim
theorem OwnAt.rd {Q Q' : Nat → Prop} (r : OwnAt S Q d n) (hn : Q' n) (h : ∀ m, Q m → Q' m) : RD S Q' d (.loc n) := by
  cases d with
  | lst ds => obtain ⟨vs, q, r⟩ := r; exact ⟨n, vs, rfl, hn, q, r.to fun m c p e => ⟨e, h m p⟩⟩
  | dct ks ds => obtain ⟨ep, kvs, q, k, r⟩ := r; exact ⟨n, ep, kvs, rfl, hn, q, k, r.to fun m c p e => ⟨e, h m p⟩⟩
  | obj c fs ds => obtain ⟨l, q, k, r⟩ := r; exact ⟨n, l, rfl, hn, q, k, r.to fun m c p e => ⟨e, h m p⟩⟩
  | _ => exact r.elim
theorem OwnAt.lt {Q : Nat → Prop} (r : OwnAt S Q d n) : n < S.length := by
  cases d with
  | lst ds => obtain ⟨vs, q, r⟩ := r; exact (List.getElem?_eq_some_iff.mp q).1
  | dct ks ds => obtain ⟨ep, kvs, q, k, r⟩ := r; exact (List.getElem?_eq_some_iff.mp q).1
  | obj c fs ds => obtain ⟨l, q, k, r⟩ := r; exact (List.getElem?_eq_some_iff.mp q).1
  | _ => exact r.elim
theorem ER'.pre (R : ER' N0 P X S env cenv) (p : S <+: S') : ER' N0 P X S' env cenv := by
  refine ⟨R.len, fun i d o e => ?_, fun i d o e => ?_, R.inj, fun n h => ?_⟩
  · obtain ⟨v, h1, h2⟩ := R.val i d o e
    exact ⟨v, h1, h2.pre p⟩
  · obtain ⟨n, h1, h2, h3⟩ := R.own i d o e
    exact ⟨n, h1, h2, h3.to (fun c q => pre_at p q) fun m c q e => ⟨pre_at p e, q⟩⟩
  · obtain ⟨h1, h2, h3⟩ := R.tmp n h
    exact ⟨h1, Nat.lt_of_lt_of_le h2 p.length_le, h3⟩
theorem ER'.lt (R : ER' N0 P X S env cenv) (h : Ao env cenv X n) : n < S.length ∧ N0 ≤ n := by
  rcases h with h | ⟨i, d, o, h1, h2⟩
  · obtain ⟨h1, h2, _⟩ := R.tmp n h
    exact ⟨h2, h1⟩
  · obtain ⟨m, h3, h4, h5⟩ := R.own i d o h1
    rw [h2] at h3
    cases h3
    exact ⟨h5.lt, h4⟩
/-- a name takes a value -/
theorem ao_set {i : Nat} {b : Option BS} {w : Option Val} (hb : ∀ d o, b ≠ some (.own d o)) (h : Ao (env.set i b) (cenv.set i w) X n) : Ao env cenv X n := by
  rcases h with h | ⟨j, d, o, h1, h2⟩
  · exact .inl h
  · by_cases e : i = j
    · subst e
      by_cases hl : i < env.length
      · rw [List.getElem?_set_self hl] at h1
        exact absurd (Option.some.inj h1) (hb d o)
      · rw [List.getElem?_eq_none (by simpa using hl)] at h1
        cases h1
    · rw [List.getElem?_set_ne e] at h1 h2
      exact .inr ⟨j, d, o, h1, h2⟩
theorem ER'.setv (R : ER' N0 P X S env cenv) {i : Nat} (r : RD S (Pd N0 P (Ao env cenv X) o false) d v) : ER' N0 P X S (env.set i (some (.val d o))) (cenv.set i (some v)) := by
  have hA : ∀ m, Ao (env.set i (some (.val d o))) (cenv.set i (some v)) X m → Ao env cenv X m := fun m => ao_set (fun _ _ z => by cases z)
  have get : ∀ {j : Nat} {b : BS}, (env.set i (some (.val d o)))[j]? = some (some b) → (j = i ∧ b = .val d o ∧ (cenv.set i (some v))[j]? = some (some v)) ∨ (env[j]? = some (some b) ∧ (cenv.set i (some v))[j]? = cenv[j]?) := by
    intro j b h
    by_cases e : i = j
    · subst e
      by_cases hl : i < env.length
      · rw [List.getElem?_set_self hl] at h
        cases h
        exact .inl ⟨rfl, rfl, List.getElem?_set_self (by rw [← R.len]; exact hl)⟩
      · rw [List.getElem?_eq_none (by simpa using hl)] at h
        cases h
    · rw [List.getElem?_set_ne e] at h
      exact .inr ⟨h, List.getElem?_set_ne e⟩
  refine ⟨by simp [R.len], fun j d' o' h => ?_, fun j d' o' h => ?_, fun j k m d1 d2 o1 o2 h1 h2 h3 h4 => ?_, fun m hm => ?_⟩
  · rcases get h with ⟨rfl, e, h2⟩ | ⟨h1, h2⟩
    · cases e
      exact ⟨v, h2, r.to fun m c q e => ⟨e, q.weak (hA m) id id⟩⟩
    · obtain ⟨w, q1, q2⟩ := R.val j d' o' h1
      exact ⟨w, h2.trans q1, q2.to fun m c q e => ⟨e, q.weak (hA m) id id⟩⟩
  · rcases get h with ⟨rfl, e, h2⟩ | ⟨h1, h2⟩
    · cases e
    · obtain ⟨w, q1, q2, q3⟩ := R.own j d' o' h1
      exact ⟨w, h2.trans q1, q2, q3.to (fun c q => q) fun m c q e => ⟨e, q.weak (hA m) id id⟩⟩
  · rcases get h1 with ⟨_, e, _⟩ | ⟨h1, e1⟩
    · cases e
    · rcases get h2 with ⟨_, e, _⟩ | ⟨h2, e2⟩
      · cases e
      · exact R.inj j k m d1 d2 o1 o2 h1 h2 (e1.symm.trans h3) (e2.symm.trans h4)
  · obtain ⟨h1, h2, h3⟩ := R.tmp m hm
    refine ⟨h1, h2, fun j d' o' h => ?_⟩
    rcases get h with ⟨_, e, _⟩ | ⟨h, e⟩
    · cases e
    · rw [e]; exact h3 j d' o' h
theorem ER'.unset (R : ER' N0 P X S env cenv) {i : Nat} : ER' N0 P X S (env.set i none) (cenv.set i none) := by
  have hA : ∀ m, Ao (env.set i none) (cenv.set i none) X m → Ao env cenv X m := fun m => ao_set (fun _ _ z => by cases z)
  have get : ∀ {j : Nat} {b : BS}, (env.set i none)[j]? = some (some b) → (env[j]? = some (some b) ∧ (cenv.set i none)[j]? = cenv[j]?) := by
    intro j b h
    by_cases e : i = j
    · subst e
      by_cases hl : i < env.length
      · rw [List.getElem?_set_self hl] at h
        cases h
      · rw [List.getElem?_eq_none (by simpa using hl)] at h
        cases h
    · rw [List.getElem?_set_ne e] at h
      exact ⟨h, List.getElem?_set_ne e⟩
  refine ⟨by simp [R.len], fun j d' o' h => ?_, fun j d' o' h => ?_, fun j k m d1 d2 o1 o2 h1 h2 h3 h4 => ?_, fun m hm => ?_⟩
  · obtain ⟨h1, h2⟩ := get h
    obtain ⟨w, q1, q2⟩ := R.val j d' o' h1
    exact ⟨w, h2.trans q1, q2.to fun m c q e => ⟨e, q.weak (hA m) id id⟩⟩
  · obtain ⟨h1, h2⟩ := get h
    obtain ⟨w, q1, q2, q3⟩ := R.own j d' o' h1
    exact ⟨w, h2.trans q1, q2, q3.to (fun c q => q) fun m c q e => ⟨e, q.weak (hA m) id id⟩⟩
  · obtain ⟨h1, e1⟩ := get h1
    obtain ⟨h2, e2⟩ := get h2
    exact R.inj j k m d1 d2 o1 o2 h1 h2 (e1.symm.trans h3) (e2.symm.trans h4)
  · obtain ⟨h1, h2, h3⟩ := R.tmp m hm
    refine ⟨h1, h2, fun j d' o' h => ?_⟩
    obtain ⟨h, e⟩ := get h
    rw [e]; exact h3 j d' o' h
theorem ER'.wipe (R : ER' N0 P X S env cenv) : ∀ is : List Nat, ER' N0 P X S (bwipe env is) (wipeE cenv is)
  | [] => R
  | i :: is => (ER'.wipe R is).unset

/-! ### scalars' operators -/
theorem bin_data {op : Bop} {v w z : Val} {S0 : Store} (hv : v.data = true) (hw : w.data = true) (h : binV noCx op v w [] = .ok z S0) : binV Γ op v w S = .ok z S ∧ z.data = true := by
  unfold binV at h ⊢
  split at h <;> first | (cases hv; done) | (cases hw; done) | (cases h; exact ⟨rfl, rfl⟩) | skip
  all_goals first
    | (split at h
       · rename_i hc
         cases h
         exact ⟨by simp only [hc, if_true], rfl⟩
       · cases h)
    | (simp only [ownBin] at h
       split at h <;> first | (cases h; done) | (cases hv; done) | (cases hw; done))
    | cases h
theorem cmp_data {op : Cop} {v w z : Val} {S0 : Store} (ho : op ≠ .isin) (ho2 : op ≠ .notin) (hv : v.data = true) (hw : w.data = true) (h : cmpV noCx op v w [] = .ok z S0) : cmpV Γ op v w S = .ok z S ∧ z.data = true := by
  unfold cmpV at h ⊢
  cases op with
  | isin => exact absurd rfl ho
  | notin => exact absurd rfl ho2
  | eq => 
    simp only at h ⊢
    split at h
    · rename_i b e; cases h; exact ⟨rfl, rfl⟩
    · cases h
  | ne => 
    simp only at h ⊢
    split at h
    · rename_i b e; cases h; exact ⟨rfl, rfl⟩
    · cases h
  | lt => 
    simp only at h ⊢
    split at h
    · rename_i b e; cases h; exact ⟨rfl, rfl⟩
    · cases h
  | le => 
    simp only at h ⊢
    split at h
    · cases h; exact ⟨rfl, rfl⟩
    · cases h
  | gt => 
    simp only at h ⊢
    split at h
    · cases h; exact ⟨rfl, rfl⟩
    · cases h
  | ge => 
    simp only at h ⊢
    split at h
    · cases h; exact ⟨rfl, rfl⟩
    · cases h
theorem sc2_some {f : Val → Val → Store → Res Val} {x y d : D} (h : sc2 f x y = some d) : ∃ v w z S0, x.val = some v ∧ y.val = some w ∧ f v w [] = .ok z S0 ∧ d = D.of z := by
  unfold sc2 at h
  split at h
  · rename_i v w h1 h2
    split at h
    · rename_i z S0 e
      cases h
      exact ⟨v, w, z, S0, h1, h2, e, rfl⟩
    · cases h
  · cases h
end
end C
end
section
set_option Elab.async false
set_option linter.all false
set_option maxRecDepth 100000
set_option maxHeartbeats 1000000
/-! B4: operators on trees keep what the store's do. -/
namespace C
open PySem

/-- the calls -/
structure BG (B : BCx) (Γ : Cx) : Prop where
  T : B.T = Γ.T
  fuel : B.fuel = Γ.fuel
  call : ∀ f ds p, B.call f ds = some p → ∀ (S : Store) (Q : Nat → Prop) (vs : List Val), RDs S Q ds vs → ∃ v S', Γ.call f vs S = .ok v S' ∧ S <+: S' ∧ RD S' (fun n => S.length ≤ n ∨ (p.2 = true ∧ Q n)) p.1 v
  init : ∀ f c ds p, B.init f (.obj c [] []) ds = some p → ∀ (S : Store) (Q : Nat → Prop) (vs : List Val) (n : Nat), S[n]? = some (.obj c []) → n + 1 = S.length → RDs S Q ds vs → (∀ m, Q m → m < n) →
    ∃ S', Γ.call f (.loc n :: vs) S = .ok .non S' ∧ S.length ≤ S'.length ∧ (∀ m c, m ≠ n → S[m]? = some c → S'[m]? = some c) ∧ OwnAt S' (fun m => m ≠ n ∧ (S.length ≤ m ∨ (p.2 = true ∧ Q m))) p.1 n

section
variable {N0 : Nat} {P X A A' : Nat → Prop} {S S' : Store} {o a o' a' : Bool} {d : D} {v w : Val} {n : Nat} {Γ : Cx} {B : BCx} {x y z : BV}
theorem new_pd (hN : N0 ≤ S.length) (hA : ∀ n, A n → n < S.length ∧ N0 ≤ n) : Pd N0 P A o a S.length := ⟨fun h => absurd h (by omega), fun h => absurd (hA _ h).1 (Nat.lt_irrefl _)⟩
theorem pre_app {α : Type} (S : List α) (c : α) : S <+: S ++ [c] := List.prefix_append _ _
theorem RDs.mkL {ds : List D} {vs : List Val} (r : RDs S (Pd N0 P A o a) ds vs) : RDs S (Pd N0 P A (C.mkL ds o a).o (C.mkL ds o a).a) ds vs := by
  unfold C.mkL
  cases h : D.flats ds with
  | true => exact RDs.flat h r
  | false => simp only [Bool.not_false, Bool.and_true]; exact r
theorem newL_ok {ds : List D} {vs : List Val} (hN : N0 ≤ S.length) (hA : ∀ n, A n → n < S.length ∧ N0 ≤ n) (r : RDs S (Pd N0 P A o a) ds vs) (hl : ds.length ≤ lineC) :
    ∃ S', newL vs S = .ok (.loc S.length) S' ∧ S <+: S' ∧ RD S' (Pd N0 P A (mkL ds o a).o (mkL ds o a).a) (.lst ds) (.loc S.length) := by
  refine ⟨S ++ [.lst vs], ?_, pre_app _ _, S.length, vs, rfl, new_pd hN hA, ?_, r.mkL.pre (pre_app _ _)⟩
  · unfold newL
    rw [if_pos (by rw [r.length]; exact hl)]
    rfl
  · rw [List.getElem?_append_right (Nat.le_refl _)]
    simp
theorem mk_ok (r : RD S (Pd N0 P A o a) d v) : RD S (Pd N0 P A (BV.mk' d o a).o (BV.mk' d o a).a) (BV.mk' d o a).d v := by
  unfold BV.mk'
  split
  · rename_i h
    exact RD.flat h r
  · exact r
theorem call_ok (G : BG B Γ) (hN : N0 ≤ S.length) (hA : ∀ n, A n → n < S.length ∧ N0 ≤ n) {f : Nat} {ds : List D} {vs : List Val} (h : ofCall (B.call f ds) o a = some z) (r : RDs S (Pd N0 P A o a) ds vs) :
    ∃ u S', Γ.call f vs S = .ok u S' ∧ S <+: S' ∧ RD S' (Pd N0 P A z.o z.a) z.d u := by
  unfold ofCall at h
  obtain ⟨p, h1, rfl⟩ := Option.map_eq_some_iff.mp h
  obtain ⟨u, S', e, pr, q⟩ := G.call f ds p h1 S _ vs r
  refine ⟨u, S', e, pr, mk_ok (q.to fun n c hq e => ⟨e, ?_⟩)⟩
  rcases hq with hq | ⟨h2, hq⟩
  · exact ⟨fun hl => absurd hl (by omega), fun hl => absurd (hA _ hl).1 (by omega)⟩
  · rw [h2]
    exact ⟨fun hl => ⟨by simp [(hq.1 hl).1], (hq.1 hl).2⟩, fun hl => by simp [hq.2 hl]⟩
/-- an instance's method -/
theorem special_of {c : Nat} {l : List (Nat × Val)} {fs : List Nat} {m f : Nat} (G : BG B Γ) (e : S[n]? = some (.obj c l)) (hl : l.map (·.1) = fs) (h : methB B c m fs = some f) : special Γ S m n = some f := by
  unfold methB at h
  split at h
  · cases h
  · rename_i hc
    unfold special objAt
    rw [e]
    simp only [Option.bind_some]
    rw [if_pos (RDs.lookup_none hl (by simpa using hc))]
    unfold methOf
    rw [← G.T]
    exact h
theorem RI.weak' {d : D} (r : RI S (Pd N0 P A o a) d v) (ho : o = true → o' = true) (ha : a = true → a' = true) : RI S (Pd N0 P A o' a') d v := by
  cases d with
  | lst ds => obtain ⟨n, vs, e, q, r⟩ := r; exact ⟨n, vs, e, q, r.weak (List.prefix_refl _) (fun _ _ h => h) ho ha⟩
  | _ => exact RD.weak (show RD S (Pd N0 P A o a) _ v from r) (List.prefix_refl _) (fun _ _ h => h) ho ha
theorem own2_ok (G : BG B Γ) (hN : N0 ≤ S.length) (hA : ∀ n, A n → n < S.length ∧ N0 ≤ n) {m c : Nat} {fs fs' : List Nat} {xs ys : List D} (r1 : RI S (Pd N0 P A x.o x.a) (.obj c fs xs) v) (r2 : RI S (Pd N0 P A y.o y.a) (.obj c fs' ys) w)
    (h : (methB B c m fs).bind (fun f => ofCall (B.call f [.obj c fs xs, .obj c fs' ys]) (x.o || y.o) (x.a || y.a)) = some z) : ∃ u S', ownBin Γ m v w S = .ok u S' ∧ S <+: S' ∧ RD S' (Pd N0 P A z.o z.a) z.d u := by
  obtain ⟨f, hm, h⟩ := Option.bind_eq_some_iff.mp h
  have q1 : RD S (Pd N0 P A (x.o || y.o) (x.a || y.a)) (.obj c fs xs) v := RI.weak' r1 (by simp +contextual) (by simp +contextual)
  have q2 : RD S (Pd N0 P A (x.o || y.o) (x.a || y.a)) (.obj c fs' ys) w := RI.weak' r2 (by simp +contextual) (by simp +contextual)
  obtain ⟨u, S', e, p, r⟩ := call_ok G hN hA h (vs := [v, w]) ⟨v, [w], rfl, q1, w, [], rfl, q2, rfl⟩
  obtain ⟨n, l, rfl, _, e1, hl, _⟩ := r1
  obtain ⟨n', l', rfl, _, e2, hl', _⟩ := r2
  refine ⟨u, S', ?_, p, r⟩
  unfold ownBin
  simp only [special_of G e1 hl hm, objAt, e1, e2, if_true]
  exact e
theorem bbin_ok (G : BG B Γ) (hN : N0 ≤ S.length) (hA : ∀ n, A n → n < S.length ∧ N0 ≤ n) {op : Bop} (r1 : RI S (Pd N0 P A x.o x.a) x.d v) (r2 : RI S (Pd N0 P A y.o y.a) y.d w) (h : bbin B op x y = some z) :
    ∃ u S', binV Γ op v w S = .ok u S' ∧ S <+: S' ∧ RD S' (Pd N0 P A z.o z.a) z.d u := by
  obtain ⟨xd, xo, xa⟩ := x
  obtain ⟨yd, yo, ya⟩ := y
  unfold bbin at h
  split at h
  · rename_i xs ys ex ey
    simp only at ex ey
    subst ex ey
    split at h
    · rename_i hl
      cases h
      obtain ⟨n1, vs, rfl, e1, q1⟩ := r1
      obtain ⟨n2, ws, rfl, e2, q2⟩ := r2
      obtain ⟨S', e, p, r⟩ := newL_ok (o := xo || yo) (a := xa || ya) hN hA ((q1.weak (List.prefix_refl _) (fun _ _ h => h) (by simp +contextual) (by simp +contextual)).append (q2.weak (List.prefix_refl _) (fun _ _ h => h) (by simp +contextual) (by simp +contextual))) (by rw [List.length_append]; exact hl)
      refine ⟨_, S', ?_, p, r⟩
      unfold binV
      simp only [e1, e2]
      exact e
    · cases h
  · rename_i c fs xs c' fs' ys ex ey
    simp only at ex ey
    subst ex ey
    split at h
    · rename_i hc
      subst hc
      exact own2_ok (x := ⟨.obj c fs xs, xo, xa⟩) (y := ⟨.obj c fs' ys, yo, ya⟩) G hN hA r1 r2 h
    · cases h
  · rename_i c fs xs c' fs' ys ex ey
    simp only at ex ey
    subst ex ey
    split at h
    · rename_i hc
      subst hc
      exact own2_ok (x := ⟨.obj c fs xs, xo, xa⟩) (y := ⟨.obj c fs' ys, yo, ya⟩) G hN hA r1 r2 h
    · cases h
  · obtain ⟨d, h', rfl⟩ := Option.map_eq_some_iff.mp h
    obtain ⟨v', w', z', S0, e1, e2, e3, rfl⟩ := sc2_some h'
    obtain rfl := r1.val e1
    obtain rfl := r2.val e2
    obtain ⟨q, hz⟩ := bin_data (Γ := Γ) (S := S) (D.val_data e1) (D.val_data e2) e3
    exact ⟨_, S, q, List.prefix_refl _, RD.of hz⟩
theorem hasK_contains (v : Val) : ∀ kvs : List (Val × Val), hasK v kvs = (kvs.map (·.1)).contains v
  | [] => rfl
  | p :: ps => by
    have ih := hasK_contains v ps
    unfold hasK at ih ⊢
    rw [List.any_cons, List.map_cons, List.contains_cons, ih]
    congr 1
    by_cases hh : p.1 = v
    · rw [hh]; simp
    · rw [decide_eq_false hh]
      exact (beq_eq_false_iff_ne.mpr fun z => hh z.symm).symm
theorem binn_ok (G : BG B Γ) {neg : Bool} {Q1 Q2 : Nat → Prop} (r1 : RI S Q1 x.d v) (r2 : RI S Q2 y.d w) (h : binn B neg x y = some z) : ∃ b S', inV Γ neg v w S = .ok (.bl b) S' ∧ S <+: S' ∧ z = ⟨.bl b, false, false⟩ := by
  obtain ⟨xd, xo, xa⟩ := x
  obtain ⟨yd, yo, ya⟩ := y
  unfold binn at h
  split at h
  · rename_i c fs ys ey
    simp only at ey
    subst ey
    obtain ⟨f, hm, h⟩ := Option.bind_eq_some_iff.mp h
    obtain ⟨p, hp, h⟩ := Option.bind_eq_some_iff.mp h
    have ra := r2.any
    obtain ⟨n, l, rfl, _, e2, hl, q2⟩ := r2
    obtain ⟨u, S', e, pr, r⟩ := G.call f _ p hp S (fun _ => True) [.loc n, v] ⟨_, _, rfl, ra, v, [], rfl, r1.any, rfl⟩
    obtain ⟨pd, po⟩ := p
    simp only at h r
    split at h
    · rename_i b
      cases h
      cases r
      refine ⟨_, S', ?_, pr, rfl⟩
      unfold inV ownIn
      simp only [e2, special_of G e2 hl hm, e, Res.bind_ok]
    · cases h
  · rename_i ys ey
    simp only at ey
    subst ey
    obtain ⟨v', h1, h⟩ := Option.bind_eq_some_iff.mp h
    obtain ⟨vs', h2, h⟩ := Option.bind_eq_some_iff.mp h
    split at h
    · rename_i hc
      cases h
      obtain rfl := r1.val h1
      obtain ⟨n, vs, rfl, e, q⟩ := r2
      obtain rfl := q.vals h2
      refine ⟨_, S, ?_, List.prefix_refl _, rfl⟩
      unfold inV inL
      simp only [e, hc, if_true]
    · cases h
  · rename_i ys ey
    simp only at ey
    subst ey
    obtain ⟨v', h1, h⟩ := Option.bind_eq_some_iff.mp h
    obtain ⟨vs', h2, h⟩ := Option.bind_eq_some_iff.mp h
    split at h
    · rename_i hc
      cases h
      obtain rfl := r1.val h1
      obtain ⟨vs, rfl, q⟩ := r2
      obtain rfl := q.vals h2
      refine ⟨_, S, ?_, List.prefix_refl _, rfl⟩
      unfold inV inL
      simp only [hc, if_true]
    · cases h
  · rename_i ks ds ey
    simp only at ey
    subst ey
    obtain ⟨v', h1, h⟩ := Option.bind_eq_some_iff.mp h
    split at h
    · rename_i hc
      cases h
      obtain rfl := r1.val h1
      obtain ⟨n, ep, kvs, rfl, _, e, hk, q⟩ := r2
      have e1 : keyOk v kvs = true := by
        rw [← hc, ← hk]
        unfold keyOk keyOkK
        simp only [List.all_map]
        rfl
      have e2 : hasK v kvs = ks.contains v := by rw [← hk]; exact hasK_contains v kvs
      refine ⟨_, S, ?_, List.prefix_refl _, rfl⟩
      unfold inV
      simp only [e, e1, e2, if_true]
    · cases h
  · cases h
theorem bcmp_ok (G : BG B Γ) {op : Cop} {Q1 Q2 : Nat → Prop} (r1 : RI S Q1 x.d v) (r2 : RI S Q2 y.d w) (h : bcmp B op x y = some z) :
    ∃ u S', cmpV Γ op v w S = .ok u S' ∧ S <+: S' ∧ RD S' A z.d u ∧ z.o = false ∧ z.a = false := by
  unfold bcmp at h
  split at h
  · obtain ⟨b, S', e, p, rfl⟩ := binn_ok G r1 r2 h
    exact ⟨_, S', e, p, rfl, rfl, rfl⟩
  · obtain ⟨b, S', e, p, rfl⟩ := binn_ok G r1 r2 h
    exact ⟨_, S', e, p, rfl, rfl, rfl⟩
  · rename_i ho1 ho2
    obtain ⟨d, h', rfl⟩ := Option.map_eq_some_iff.mp h
    obtain ⟨v', w', z', S0, e1, e2, e3, rfl⟩ := sc2_some h'
    obtain rfl := r1.val e1
    obtain rfl := r2.val e2
    obtain ⟨q, hz⟩ := cmp_data (Γ := Γ) (S := S) ho1 ho2 (D.val_data e1) (D.val_data e2) e3
    exact ⟨_, S, q, List.prefix_refl _, RD.of hz, rfl, rfl⟩
theorem bsub_ok {e : D} (r1 : RI S (Pd N0 P A x.o x.a) x.d v) {Q2 : Nat → Prop} (r2 : RD S Q2 e w) (h : bsub x e = some z) : ∃ u, subV Γ v w S = .ok u S ∧ RD S (Pd N0 P A z.o z.a) z.d u := by
  obtain ⟨xd, xo, xa⟩ := x
  unfold bsub at h
  split at h
  · rename_i ds i ex
    simp only at ex
    subst ex
    obtain ⟨d, h', rfl⟩ := Option.map_eq_some_iff.mp h
    obtain ⟨n, vs, rfl, e1, q⟩ := r1
    cases r2
    obtain ⟨u, hu, ru⟩ := q.atI h'
    refine ⟨u, ?_, mk_ok ru⟩
    unfold subV
    simp only [e1, hu, Res.of_some]
  · rename_i ds i ex
    simp only at ex
    subst ex
    obtain ⟨d, h', rfl⟩ := Option.map_eq_some_iff.mp h
    obtain ⟨vs, rfl, q⟩ := r1
    cases r2
    obtain ⟨u, hu, ru⟩ := q.atI h'
    refine ⟨u, ?_, mk_ok ru⟩
    unfold subV
    simp only [hu, Res.of_some]
  · rename_i ds i ex
    simp only at ex
    subst ex
    obtain ⟨d, h', rfl⟩ := Option.map_eq_some_iff.mp h
    obtain ⟨vs, rfl, q⟩ := r1
    cases r2
    obtain ⟨u, hu, ru⟩ := q.atI h'
    refine ⟨u, ?_, mk_ok ru⟩
    unfold subV
    simp only [hu, Res.of_some]
  · rename_i ks ds ex
    simp only at ex
    subst ex
    obtain ⟨v', h1, h⟩ := Option.bind_eq_some_iff.mp h
    split at h
    · rename_i hc
      obtain ⟨d, h', rfl⟩ := Option.map_eq_some_iff.mp h
      obtain ⟨n, ep, kvs, rfl, _, e1, hk, q⟩ := r1
      obtain rfl := r2.val h1
      obtain ⟨u, hu, ru⟩ := RDs.lookup hk q h'
      refine ⟨u, ?_, mk_ok ru⟩
      have e2 : keyOk w kvs = true := by
        rw [← hc, ← hk]
        unfold keyOk keyOkK
        simp only [List.all_map]
        rfl
      unfold subV
      simp only [e1, e2, if_true, hu, Res.of_some]
    · cases h
  · cases h
theorem batt_ok {f : Nat} (r1 : RI S (Pd N0 P A x.o x.a) x.d v) (h : batt x f = some z) : ∃ u, attrV v f S = .ok u S ∧ RD S (Pd N0 P A z.o z.a) z.d u := by
  obtain ⟨xd, xo, xa⟩ := x
  unfold batt at h
  split at h
  · rename_i c fs ds ex
    simp only at ex
    subst ex
    obtain ⟨d, h', rfl⟩ := Option.map_eq_some_iff.mp h
    obtain ⟨n, l, rfl, _, e1, hk, q⟩ := r1
    obtain ⟨u, hu, ru⟩ := RDs.lookup hk q h'
    refine ⟨u, ?_, mk_ok ru⟩
    unfold attrV objAt
    simp only [e1, hu, Res.of_some]
  · cases h
theorem bslc_ok (hN : N0 ≤ S.length) (hA : ∀ n, A n → n < S.length ∧ N0 ≤ n) {lo hi : Option Int} (r1 : RI S (Pd N0 P A x.o x.a) x.d v) (h : bslc x lo hi = some z) :
    ∃ S', slcV v lo hi S = .ok (.loc S.length) S' ∧ S <+: S' ∧ RD S' (Pd N0 P A z.o z.a) z.d (.loc S.length) := by
  obtain ⟨xd, xo, xa⟩ := x
  have cut : ∀ {ds : List D} {vs : List Val} {Q : Nat → Prop}, RDs S Q ds vs → RDs S Q (cutL ds lo hi) (cutL vs lo hi) := by
    intro ds vs Q q
    unfold cutL
    rw [q.length]
    exact (q.drop _).take _
  unfold bslc at h
  split at h
  · rename_i ds ex
    simp only at ex
    subst ex
    split at h
    · rename_i hl
      cases h
      obtain ⟨n, vs, rfl, e1, q⟩ := r1
      obtain ⟨S', e, p, r⟩ := newL_ok hN hA (cut q) hl
      refine ⟨S', ?_, p, r⟩
      unfold slcV lstAt
      simp only [e1]
      exact e
    · cases h
  · rename_i ds ex
    simp only at ex
    subst ex
    split at h
    · rename_i hl
      cases h
      obtain ⟨vs, rfl, q⟩ := r1
      obtain ⟨S', e, p, r⟩ := newL_ok hN hA (cut q) hl
      exact ⟨S', e, p, r⟩
    · cases h
  · cases h
theorem kind_ok {Q : Nat → Prop} {kd : Kd} (r : RI S Q d v) (h : kindD d = some kd) : kindOf v S = some kd := by
  cases d with
  | lst ds =>
    obtain ⟨n, vs, rfl, e, q⟩ := r
    cases h
    unfold kindOf
    simp only [e]
  | obj c fs ds =>
    obtain ⟨n, l, rfl, _, e, _⟩ := r
    cases h
    unfold kindOf
    simp only [e]
  | dct ks ds => cases h
  | tup ds => obtain ⟨vs, rfl, q⟩ := r; cases h; rfl
  | ro ds => obtain ⟨vs, rfl, q⟩ := r; cases h; rfl
  | non => cases (show v = .non from r); cases h; rfl
  | bl b => cases (show v = .bl b from r); cases h; rfl
  | int b => cases (show v = .int b from r); cases h; rfl
  | str b => cases (show v = .str b from r); cases h; rfl
end
end C
end
section
set_option Elab.async false
set_option linter.all false
set_option maxRecDepth 100000
set_option maxHeartbeats 1000000
/-! B5: built-ins, what is walked, comprehensions. -/
namespace C
open PySem

section
variable {N0 : Nat} {P X A A' : Nat → Prop} {S S' : Store} {o a o' a' : Bool} {d : D} {v w : Val} {n : Nat} {Γ : Cx} {B : BCx} {x y z : BV}
theorem ofs_map {α : Type} (f : α → Val) (g : α → D) (h : ∀ a, D.of (f a) = g a) : ∀ l : List α, D.ofs (l.map f) = l.map g
  | [] => rfl
  | a :: l => by rw [List.map_cons, List.map_cons, D.ofs, h, ofs_map f g h l]
theorem datas_map {α : Type} (f : α → Val) (h : ∀ a, (f a).data = true) : ∀ l : List α, Val.datas (l.map f) = true
  | [] => rfl
  | a :: l => by
    show (Val.data (f a) && Val.datas (l.map f)) = true
    rw [h, datas_map f h l]
    rfl
theorem bsorted_ok {Q : Nat → Prop} {ds es : List D} {vs : List Val} (r : RDs S Q ds vs) (h : bsorted ds = some es) (e : S[n]? = some (.lst vs)) :
    ∃ ws, sortedV [.loc n] S = newL ws S ∧ es = D.ofs ws ∧ Val.datas ws = true := by
  unfold bsorted at h
  obtain ⟨ys, h1, h⟩ := Option.bind_eq_some_iff.mp h
  obtain rfl := r.vals h1
  cases hp : pairs vs with
  | some ps =>
    rw [hp] at h
    simp only at h
    refine ⟨(ps.mergeSort lePair).map mkPair, ?_, ?_, datas_map _ (fun p => rfl) _⟩
    · unfold sortedV
      simp only [e, hp]
    · cases h
      exact (ofs_map mkPair (fun p => D.of (mkPair p)) (fun _ => rfl) _).symm
  | none =>
    rw [hp] at h
    simp only at h
    obtain ⟨is, hi, h'⟩ := Option.map_eq_some_iff.mp h
    refine ⟨(is.mergeSort fun a b => decide (a ≤ b)).map Val.int, ?_, ?_, datas_map _ (fun p => rfl) _⟩
    · unfold sortedV
      simp only [e, hp, hi]
    · rw [← h']
      exact (ofs_map Val.int D.int (fun _ => rfl) _).symm
theorem bblt1_ok (G : BG B Γ) (hN : N0 ≤ S.length) (hA : ∀ n, A n → n < S.length ∧ N0 ≤ n) {b : Blt} (r : RI S (Pd N0 P A x.o x.a) x.d v) (h : bblt B b [x] = some z) :
    ∃ u S', bltV Γ b [v] S = .ok u S' ∧ S <+: S' ∧ RD S' (Pd N0 P A z.o z.a) z.d u ∧ (newTop (.blt b []) = true → ∃ n, u = .loc n ∧ S.length ≤ n) := by
  obtain ⟨xd, xo, xa⟩ := x
  cases b with
  | len =>
    simp only [bblt] at h
    split at h
    · rename_i _ ds
      cases h
      obtain ⟨n, vs, rfl, e1, q⟩ := r
      refine ⟨_, S, ?_, List.prefix_refl _, rfl, (fun h => nomatch h)⟩
      unfold bltV lenV
      simp only [e1, q.length]
    · rename_i _ ds
      cases h
      obtain ⟨vs, rfl, q⟩ := r
      refine ⟨_, S, ?_, List.prefix_refl _, rfl, (fun h => nomatch h)⟩
      unfold bltV lenV
      simp only [q.length]
    · rename_i _ ds
      cases h
      obtain ⟨vs, rfl, q⟩ := r
      refine ⟨_, S, ?_, List.prefix_refl _, rfl, (fun h => nomatch h)⟩
      unfold bltV lenV
      simp only [q.length]
    · rename_i _ ks ds
      cases h
      obtain ⟨n, ep, kvs, rfl, _, e1, hk, q⟩ := r
      refine ⟨_, S, ?_, List.prefix_refl _, rfl, (fun h => nomatch h)⟩
      unfold bltV lenV
      simp only [e1, ← hk, List.length_map]
    · rename_i _ s
      split at h
      · rename_i hl
        cases h
        cases (show v = .str s from r)
        refine ⟨_, S, ?_, List.prefix_refl _, rfl, (fun h => nomatch h)⟩
        unfold bltV lenV
        simp only [hl, if_true]
      · cases h
    · cases h
  | int =>
    simp only [bblt] at h
    split at h
    · rename_i _ i
      cases h
      cases (show v = .int i from r)
      exact ⟨_, S, rfl, List.prefix_refl _, rfl, (fun h => nomatch h)⟩
    · rename_i _ i
      cases h
      cases (show v = .bl i from r)
      exact ⟨_, S, rfl, List.prefix_refl _, rfl, (fun h => nomatch h)⟩
    · cases h
  | sorted =>
    simp only [bblt] at h
    split at h
    · rename_i _ ds
      obtain ⟨es, h1, h⟩ := Option.bind_eq_some_iff.mp h
      split at h
      · rename_i hl
        cases h
        obtain ⟨n, vs, rfl, e1, q⟩ := r
        obtain ⟨ws, h2, rfl, h3⟩ := bsorted_ok q h1 e1
        obtain ⟨S', e, p, rr⟩ := newL_ok (o := false) (a := false) (P := P) hN hA (RDs.of h3) hl
        exact ⟨_, S', h2.trans e, p, by simpa only [mkL, Bool.false_and] using rr, fun _ => ⟨_, rfl, Nat.le_refl _⟩⟩
      · cases h
    · cases h
  | list =>
    simp only [bblt] at h
    split at h
    · rename_i _ ds
      split at h
      · rename_i hl
        cases h
        obtain ⟨n, vs, rfl, e1, q⟩ := r
        obtain ⟨S', e, p, rr⟩ := newL_ok hN hA q hl
        refine ⟨_, S', ?_, p, rr, fun _ => ⟨_, rfl, Nat.le_refl _⟩⟩
        unfold bltV listV
        simp only [e1]
        exact e
      · cases h
    · rename_i _ ds
      split at h
      · rename_i hl
        cases h
        obtain ⟨vs, rfl, q⟩ := r
        obtain ⟨S', e, p, rr⟩ := newL_ok hN hA q hl
        exact ⟨_, S', e, p, rr, fun _ => ⟨_, rfl, Nat.le_refl _⟩⟩
      · cases h
    · rename_i _ ds
      split at h
      · rename_i hl
        cases h
        obtain ⟨vs, rfl, q⟩ := r
        obtain ⟨S', e, p, rr⟩ := newL_ok hN hA q hl
        exact ⟨_, S', e, p, rr, fun _ => ⟨_, rfl, Nat.le_refl _⟩⟩
      · cases h
    · rename_i _ c fs es
      obtain ⟨f, h1, h⟩ := Option.bind_eq_some_iff.mp h
      obtain ⟨l, h2, h⟩ := Option.bind_eq_some_iff.mp h
      split at h
      · rename_i ds
        split at h
        · rename_i hl
          cases h
          obtain ⟨n, l, rfl, _, e1, hk, q⟩ := r
          obtain ⟨u, hu, m, ws, rfl, _, e2, ru⟩ := RDs.lookup hk q h2
          obtain ⟨S', e, p, rr⟩ := newL_ok hN hA ru hl
          refine ⟨_, S', ?_, p, rr, fun _ => ⟨_, rfl, Nat.le_refl _⟩⟩
          unfold bltV listV
          simp only [e1]
          have : iterOf Γ c l S = some (m, ws) := by
            unfold iterOf
            rw [← G.T, h1]
            simp only [hu]
            unfold lstAt
            rw [e2]
            rfl
          rw [this]
          exact e
        · cases h
      · cases h
    · cases h
  | max2 => simp only [bblt] at h; cases h
  | min2 => simp only [bblt] at h; cases h
  | ord => simp only [bblt] at h; cases h
theorem bblt2_ok {b : Blt} {Q1 Q2 : Nat → Prop} (r1 : RD S Q1 x.d v) (r2 : RD S Q2 y.d w) (h : bblt B b [x, y] = some z) : ∃ u, bltV Γ b [v, w] S = .ok u S ∧ RD S A z.d u ∧ z.o = false ∧ z.a = false ∧ newTop (.blt b []) = false := by
  obtain ⟨xd, xo, xa⟩ := x
  obtain ⟨yd, yo, ya⟩ := y
  cases b with
  | max2 =>
    simp only [bblt] at h
    split at h
    · rename_i _ _ i j
      cases h
      cases (show v = .int i from r1)
      cases (show w = .int j from r2)
      exact ⟨_, rfl, rfl, rfl, rfl, rfl⟩
    · cases h
  | min2 =>
    simp only [bblt] at h
    split at h
    · rename_i _ _ i j
      cases h
      cases (show v = .int i from r1)
      cases (show w = .int j from r2)
      exact ⟨_, rfl, rfl, rfl, rfl, rfl⟩
    · cases h
  | _ => simp only [bblt] at h; cases h
theorem bblt_many {b : Blt} {xs : List BV} (h : bblt B b xs = some z) : (∃ x, xs = [x]) ∨ ∃ x y, xs = [x, y] := by
  match xs, h with
  | [], h => cases b <;> (simp only [bblt] at h; cases h)
  | [x], _ => exact .inl ⟨x, rfl⟩
  | [x, y], _ => exact .inr ⟨x, y, rfl⟩
  | _ :: _ :: _ :: _, h => cases b <;> (simp only [bblt] at h; cases h)

/-! ### what is walked -/
def HeldBy (h : Held) (v : Val) : Prop := match h with
  | .non => True
  | .lst n _ => v = .loc n
  | .dct n _ _ => v = .loc n
theorem lstAt_stay {xs : List Val} (k : lstAt S n = some xs) (hs : ∀ c, S[n]? = some c → S'[n]? = some c) : lstAt S' n = some xs := by
  unfold lstAt at k ⊢
  cases e : S[n]? with
  | none => rw [e] at k; cases k
  | some c => rw [e] at k; rw [hs c e]; exact k
theorem dctAt_stay {xs : Nat × List (Val × Val)} (k : dctAt S n = some xs) (hs : ∀ c, S[n]? = some c → S'[n]? = some c) : dctAt S' n = some xs := by
  unfold dctAt at k ⊢
  cases e : S[n]? with
  | none => rw [e] at k; cases k
  | some c => rw [e] at k; rw [hs c e]; exact k
theorem held_stay {h : Held} (hb : HeldBy h v) (k : h.ok S = true) (hs : ∀ n c, v = .loc n → S[n]? = some c → S'[n]? = some c) : h.ok S' = true := by
  cases h with
  | non => rfl
  | lst n xs =>
    have k : decide (lstAt S n = some xs) = true := k
    exact decide_eq_true (lstAt_stay (of_decide_eq_true k) fun c e => hs n c hb e)
  | dct n ep ks =>
    have k : (match dctAt S n with
      | some (ep', kvs) => decide (ep' = ep) && decide (kvs.map (·.1) = ks)
      | none => false) = true := k
    show (match dctAt S' n with
      | some (ep', kvs) => decide (ep' = ep) && decide (kvs.map (·.1) = ks)
      | none => false) = true
    cases e : dctAt S n with
    | none => rw [e] at k; cases k
    | some p => rw [e] at k; rw [dctAt_stay e fun c e => hs n c hb e]; exact k
theorem RDs.enumFrom {Q : Nat → Prop} : ∀ {ds : List D} {vs : List Val} (i : Nat), RDs S Q ds vs → RDs S Q ((ds.zipIdx i).map fun p => D.tup [.int (p.2 : Int), p.1]) ((vs.zipIdx i).map fun p => Val.tup [.int (p.2 : Int), p.1])
  | [], _, i, r => by cases r; rfl
  | d :: ds, _, i, r => by
    obtain ⟨v, t, rfl, r1, r2⟩ := r
    rw [List.zipIdx_cons, List.zipIdx_cons, List.map_cons, List.map_cons]
    exact ⟨_, _, rfl, ⟨_, rfl, _, _, rfl, rfl, _, _, rfl, r1, rfl⟩, RDs.enumFrom (i + 1) r2⟩
theorem RDs.enum {Q : Nat → Prop} {ds : List D} {vs : List Val} (r : RDs S Q ds vs) : RDs S Q (denum ds) (enumV vs) := RDs.enumFrom 0 r
theorem bsrc1_ok {k : Nat} {s : List D × Bool × Bool} (r : RI S (Pd N0 P A x.o x.a) x.d v) (h : bsrc k [x] = some s) : ∃ sr, srcV Γ k [v] S = some sr ∧ RDs S (Pd N0 P A s.2.1 s.2.2) s.1 sr.items ∧ sr.ok S = true ∧ HeldBy sr.held v := by
  obtain ⟨xd, xo, xa⟩ := x
  unfold bsrc at h
  split at h
  · rename_i y he
    cases he
    split at h
    · rename_i ds ex
      simp only at ex
      subst ex
      cases h
      obtain ⟨n, vs, rfl, e1, q⟩ := r
      refine ⟨⟨vs, .lst n vs⟩, ?_, q, ?_, rfl⟩
      · simp only [srcV, walkV, e1]
      · simp only [Src.ok, Held.ok, lstAt, e1, decide_true]
    · rename_i ds ex
      simp only at ex
      subst ex
      cases h
      obtain ⟨vs, rfl, q⟩ := r
      exact ⟨⟨vs, .non⟩, rfl, q, rfl, trivial⟩
    · rename_i ds ex
      simp only at ex
      subst ex
      cases h
      obtain ⟨vs, rfl, q⟩ := r
      exact ⟨⟨vs, .non⟩, rfl, q, rfl, trivial⟩
    · rename_i ks ds ex
      simp only at ex
      subst ex
      split at h
      · rename_i hd
        cases h
        obtain ⟨n, ep, kvs, rfl, _, e1, hk, q⟩ := r
        subst hk
        refine ⟨⟨kvs.map (·.1), .dct n ep (kvs.map (·.1))⟩, ?_, RDs.of hd, ?_, rfl⟩
        · simp only [srcV, walkV, e1]
        · simp only [Src.ok, Held.ok, dctAt, e1, decide_true, Bool.and_self]
      · cases h
    · cases h
  · rename_i y he
    cases he
    split at h
    · rename_i j ex
      simp only at ex
      subst ex
      split at h
      · rename_i hc
        cases h
        cases (show v = .int j from r)
        refine ⟨⟨(List.range j.toNat).map fun (i : Nat) => .int (i : Int), .non⟩, ?_, ?_, rfl, trivial⟩
        · simp only [srcV, rng1V, hc, if_true]
        · rw [← ofs_map (fun (i : Nat) => Val.int (i : Int)) (fun (i : Nat) => D.int (i : Int)) (fun _ => rfl)]
          exact RDs.of (datas_map _ (fun _ => rfl) _)
      · cases h
    · cases h
  · rename_i y he
    cases he
    split at h
    · rename_i ds ex
      simp only at ex
      subst ex
      cases h
      obtain ⟨n, vs, rfl, e1, q⟩ := r
      refine ⟨⟨enumV vs, .lst n vs⟩, ?_, RDs.enum q, ?_, rfl⟩
      · simp only [srcV, walkE, lstAt, e1, Option.map_some]
      · simp only [Src.ok, Held.ok, lstAt, e1, decide_true]
    · rename_i ds ex
      simp only at ex
      subst ex
      cases h
      obtain ⟨vs, rfl, q⟩ := r
      exact ⟨⟨enumV vs, .non⟩, rfl, RDs.enum q, rfl, trivial⟩
    · rename_i ds ex
      simp only at ex
      subst ex
      cases h
      obtain ⟨vs, rfl, q⟩ := r
      exact ⟨⟨enumV vs, .non⟩, rfl, RDs.enum q, rfl, trivial⟩
    · cases h
  · rename_i he
    cases he
  · cases h
theorem bsrc2_ok {k : Nat} {xs : List BV} {vs : List Val} {s : List D × Bool × Bool} {Q : Nat → Prop} (r : RDs S Q (xs.map (·.d)) vs) (h : bsrc k xs = some s) (hx : ∀ x, xs ≠ [x]) : ∃ sr, srcV Γ k vs S = some sr ∧ RDs S (Pd N0 P A s.2.1 s.2.2) s.1 sr.items ∧ sr.ok S = true ∧ HeldBy sr.held .non := by
  unfold bsrc at h
  split at h
  · exact absurd rfl (hx _)
  · exact absurd rfl (hx _)
  · exact absurd rfl (hx _)
  · rename_i x y
    split at h
    · rename_i i j ex ey
      split at h
      · rename_i hc
        cases h
        obtain ⟨u, t, rfl, r1, w, t', rfl, r2, r3⟩ := r
        have r1 : RD S Q x.d u := r1
        have r2 : RD S Q y.d w := r2
        rw [ex] at r1
        rw [ey] at r2
        cases r3
        cases (show u = .int i from r1)
        cases (show w = .int j from r2)
        refine ⟨⟨(List.range (j - i).toNat).map fun (k : Nat) => .int (i + (k : Int)), .non⟩, ?_, ?_, rfl, trivial⟩
        · simp only [srcV, rng2V, hc, if_true]
        · rw [← ofs_map (fun (k : Nat) => Val.int (i + (k : Int))) (fun (k : Nat) => D.int (i + (k : Int))) (fun _ => rfl)]
          exact RDs.of (datas_map _ (fun _ => rfl) _)
      · cases h
    · cases h
  · cases h
end
end C
end
section
set_option Elab.async false
set_option linter.all false
set_option maxRecDepth 100000
set_option maxHeartbeats 1000000
/-! B6: targets, comprehensions on trees. -/
namespace C
open PySem

section
variable {N0 : Nat} {P X A A' : Nat → Prop} {S S' : Store} {env env1 : BEnv} {cenv cenv1 : Env} {o a o' a' : Bool} {d : D} {v w : Val} {n : Nat} {Γ : Cx} {B : BCx} {x y z : BV}
theorem ER'.agr (R : ER' N0 P X S env cenv) (hl : S.length ≤ S'.length) (h : ∀ n c, ¬ X n → S[n]? = some c → S'[n]? = some c) : ER' N0 P X S' env cenv := by
  have to : ∀ {m : Nat} {c : Cell} {o : Bool}, Pd N0 P (Ao env cenv X) o false m → S[m]? = some c → S'[m]? = some c := fun {m c o} q e => h m c (fun z => by have := q.2 (.inl z); cases this) e
  refine ⟨R.len, fun i d o e => ?_, fun i d o e => ?_, R.inj, fun n z => ?_⟩
  · obtain ⟨v, h1, h2⟩ := R.val i d o e
    exact ⟨v, h1, h2.to fun m c q e => ⟨to q e, q⟩⟩
  · obtain ⟨n, h1, h2, h3⟩ := R.own i d o e
    exact ⟨n, h1, h2, h3.to (fun c q => h n c (fun z => (R.tmp n z).2.2 i d o e h1) q) fun m c q e => ⟨to q e, q⟩⟩
  · obtain ⟨h1, h2, h3⟩ := R.tmp n z
    exact ⟨h1, Nat.lt_of_lt_of_le h2 hl, h3⟩
/-- a temporary place is new -/
theorem ER'.more (R : ER' N0 P X S env cenv) (hN : N0 ≤ S.length) (c : Cell) : ER' N0 P (fun m => X m ∨ m = S.length) (S ++ [c]) env cenv := by
  have hA : ∀ m, m < S.length → Ao env cenv (fun m => X m ∨ m = S.length) m → Ao env cenv X m := by
    intro m hm h
    rcases h with (h | h) | h
    · exact .inl h
    · omega
    · exact .inr h
  refine ⟨R.len, fun i d o e => ?_, fun i d o e => ?_, R.inj, fun n h => ?_⟩
  · obtain ⟨v, h1, h2⟩ := R.val i d o e
    exact ⟨v, h1, h2.weak (pre_app _ _) hA id id⟩
  · obtain ⟨n, h1, h2, h3⟩ := R.own i d o e
    refine ⟨n, h1, h2, h3.to (fun c q => pre_at (pre_app _ _) q) fun m c q e => ⟨pre_at (pre_app _ _) e, q.weak (hA m (List.getElem?_eq_some_iff.mp e).1) id id⟩⟩
  · rcases h with h | h
    · obtain ⟨h1, h2, h3⟩ := R.tmp n h
      exact ⟨h1, by rw [List.length_append]; omega, h3⟩
    · subst h
      refine ⟨hN, by rw [List.length_append]; simp, fun i d o e z => ?_⟩
      obtain ⟨m, h1, h2, h3⟩ := R.own i d o e
      rw [h1] at z
      cases z
      exact absurd h3.lt (Nat.lt_irrefl _)
theorem flat_mark (r : RD S (Pd N0 P A o false) d v) : RD S (Pd N0 P A (o && !d.flat) false) d v := by
  cases h : d.flat with
  | true => exact RD.flat h r
  | false => simpa using r
theorem bsetAll_ok : ∀ {is : List Nat} {ds : List D} {vs : List Val} {env : BEnv} {cenv : Env}, ER' N0 P X S env cenv → RDs S (Pd N0 P (Ao env cenv X) o false) ds vs → bsetAll is ds o env = some env1 →
    ∃ cenv1, setAll is vs cenv = some cenv1 ∧ ER' N0 P X S env1 cenv1 ∧ ∀ j, j ∉ is → env1[j]? = env[j]? ∧ cenv1[j]? = cenv[j]?
  | [], [], vs, env, cenv, R, r, h => by
    cases h
    cases (show vs = [] from r)
    exact ⟨cenv, rfl, R, fun _ _ => ⟨rfl, rfl⟩⟩
  | [], _ :: _, _, _, _, _, _, h => by cases h
  | _ :: _, [], _, _, _, _, _, h => by cases h
  | i :: is, d :: ds, vs, env, cenv, R, r, h => by
    obtain ⟨v, t, rfl, r1, r2⟩ := r
    have h : bsetAll is ds o (env.set i (some (.val d (o && !d.flat)))) = some env1 := h
    have R1 := R.setv (i := i) (flat_mark r1)
    have r2' : RDs S (Pd N0 P (Ao (env.set i (some (.val d (o && !d.flat)))) (cenv.set i (some v)) X) o false) ds t := r2.to fun m c q e => ⟨e, q.weak (ao_set (fun _ _ z => by cases z)) id id⟩
    obtain ⟨cenv1, h1, h2, h3⟩ := bsetAll_ok R1 r2' h
    refine ⟨cenv1, h1, h2, fun j hj => ?_⟩
    simp only [List.mem_cons, not_or] at hj
    obtain ⟨q1, q2⟩ := h3 j hj.2
    rw [q1, q2, List.getElem?_set_ne (Ne.symm hj.1), List.getElem?_set_ne (Ne.symm hj.1)]
    exact ⟨rfl, rfl⟩
theorem bsetN_ok {is : List Nat} (R : ER' N0 P X S env cenv) (r : RD S (Pd N0 P (Ao env cenv X) o false) d v) (h : bsetN is d o env = some env1) :
    ∃ cenv1, setN is v cenv = some cenv1 ∧ ER' N0 P X S env1 cenv1 ∧ ∀ j, j ∉ is → env1[j]? = env[j]? ∧ cenv1[j]? = cenv[j]? := by
  unfold bsetN at h
  split at h
  · rename_i i
    cases h
    refine ⟨cenv.set i (some v), rfl, R.setv (flat_mark r), fun j hj => ?_⟩
    simp only [List.mem_singleton] at hj
    exact ⟨List.getElem?_set_ne (Ne.symm hj), List.getElem?_set_ne (Ne.symm hj)⟩
  · rename_i hn
    split at h
    · rename_i ds
      obtain ⟨vs, rfl, r⟩ := r
      obtain ⟨cenv1, h1, h2, h3⟩ := bsetAll_ok R r h
      refine ⟨cenv1, ?_, h2, h3⟩
      unfold setN
      split
      · rename_i i; exact absurd rfl (hn i)
      · exact h1
    · cases h
theorem wipe_same : ∀ {is : List Nat} {j : Nat}, j ∉ is → (bwipe env is)[j]? = env[j]? ∧ (wipeE cenv is)[j]? = cenv[j]?
  | [], _, _ => ⟨rfl, rfl⟩
  | i :: is, j, h => by
    simp only [List.mem_cons, not_or] at h
    obtain ⟨h1, h2⟩ := wipe_same h.2
    show ((bwipe env is).set i none)[j]? = _ ∧ ((wipeE cenv is).set i none)[j]? = _
    rw [List.getElem?_set_ne (Ne.symm h.1), List.getElem?_set_ne (Ne.symm h.1)]
    exact ⟨h1, h2⟩
theorem noOwn_at {is : List Nat} (h : noOwn env is = true) {j : Nat} {d : D} {o : Bool} (e : env[j]? = some (some (.own d o))) : j ∉ is := by
  intro hj
  unfold noOwn at h
  have := List.all_eq_true.mp h j hj
  rw [e] at this
  cases this
/-- the names that own things are as before -/
theorem ao_same {is : List Nat} (hno : noOwn env is = true) (h : ∀ j, j ∉ is → env1[j]? = env[j]? ∧ cenv1[j]? = cenv[j]?) (q : Ao env cenv X n) : Ao env1 cenv1 X n := by
  rcases q with q | ⟨i, d, o, h1, h2⟩
  · exact .inl q
  · obtain ⟨e1, e2⟩ := h i (noOwn_at hno h1)
    exact .inr ⟨i, d, o, e1.trans h1, e2.trans h2⟩
theorem ao_wipe : ∀ {is : List Nat}, Ao (bwipe env is) (wipeE cenv is) X n → Ao env cenv X n
  | [], h => h
  | i :: is, h => ao_wipe (is := is) (ao_set (env := bwipe env is) (cenv := wipeE cenv is) (i := i) (b := none) (w := none) (fun _ _ z => by cases z) h)

def EvE (Γ : Cx) (B : BCx) (N0 : Nat) (P : Nat → Prop) (e : E) : Prop := ∀ (X : Nat → Prop) (env : BEnv) (cenv : Env) (S : Store) (x : BV), N0 ≤ S.length → ER' N0 P X S env cenv → bev B env e = some x →
  ∃ v S', ev Γ e cenv S = .ok v S' ∧ S <+: S' ∧ RD S' (Pd N0 P (Ao env cenv X) x.o x.a) x.d v ∧ (newTop e = true → ∃ n, v = .loc n ∧ S.length ≤ n)

theorem bcond_some {r : Option BV} {b : Bool} (h : bcond r = some b) : ∃ x, r = some x ∧ x.d = .bl b := by
  unfold bcond at h
  obtain ⟨x, h1, h⟩ := Option.bind_eq_some_iff.mp h
  split at h
  · rename_i b' e
    cases h
    exact ⟨x, h1, e⟩
  · cases h
theorem blc_ok {cond elt : E} {own tgs : List Nat} {sr : Src} {Dn : Nat} {v0 : Val} (hc : EvE Γ B N0 P cond) (he : EvE Γ B N0 P elt) (hno : noOwn env own = true) (htg : ∀ t ∈ tgs, t ∈ own) (hb : HeldBy sr.held v0) (hv0 : v0 ≠ .loc Dn) :
    ∀ (ds : List D) (vs : List Val) (acc : List D) (po : Bool) (S : Store) (accv : List Val), N0 ≤ S.length → ER' N0 P (fun m => X m ∨ m = Dn) S env cenv → RDs S (Pd N0 P (Ao env cenv (fun m => X m ∨ m = Dn)) o false) ds vs → sr.ok S = true → S[Dn]? = some (.lst accv) →
      RDs S (Pd N0 P (Ao env cenv (fun m => X m ∨ m = Dn)) po false) acc accv → blc (fun env => bev B env cond) (fun env => bev B env elt) own tgs o env ds acc po = some z →
      ∃ S' accv' es, lcGo (fun e S => ev Γ cond e S) (fun e S => ev Γ elt e S) own tgs sr Dn cenv vs S = .ok (.loc Dn) S' ∧ S.length ≤ S'.length ∧ (∀ n c, n ≠ Dn → S[n]? = some c → S'[n]? = some c) ∧ z.d = .lst es ∧ z.a = false ∧ S'[Dn]? = some (.lst accv') ∧
        RDs S' (Pd N0 P (Ao env cenv (fun m => X m ∨ m = Dn)) z.o false) es accv'
  | [], vs, acc, po, S, accv, hN, R, r, hok, hD, ra, h => by
    cases (show vs = [] from r)
    cases h
    refine ⟨S, accv, acc, ?_, Nat.le_refl _, fun _ _ _ e => e, rfl, rfl, hD, ra⟩
    unfold lcGo
    rw [if_pos hok]
  | d :: ds, vs, acc, po, S, accv, hN, R, r, hok, hD, ra, h => by
    obtain ⟨v, t, rfl, r1, r2⟩ := r
    unfold blc at h
    obtain ⟨env1, h1, h⟩ := Option.bind_eq_some_iff.mp h
    obtain ⟨b, h2, h⟩ := Option.bind_eq_some_iff.mp h
    have Rw := R.wipe own
    have r1' : RD S (Pd N0 P (Ao (bwipe env own) (wipeE cenv own) (fun m => X m ∨ m = Dn)) o false) d v := r1.to fun m c q e => ⟨e, q.weak ao_wipe id id⟩
    obtain ⟨cenv1, e1, R1, same⟩ := bsetN_ok Rw r1' h1
    have same' : ∀ j, j ∉ own → env1[j]? = env[j]? ∧ cenv1[j]? = cenv[j]? := fun j hj => by
      obtain ⟨q1, q2⟩ := same j (fun z => hj (htg j z))
      obtain ⟨q3, q4⟩ := wipe_same (env := env) (cenv := cenv) hj
      exact ⟨q1.trans q3, q2.trans q4⟩
    have aoEq : ∀ {m : Nat}, Ao env cenv (fun m => X m ∨ m = Dn) m → Ao env1 cenv1 (fun m => X m ∨ m = Dn) m := fun {m} => ao_same hno same'
    obtain ⟨bx, hbx, hbd⟩ := bcond_some h2
    obtain ⟨bv, S1, ec, p1, rb, _⟩ := hc _ env1 cenv1 S bx hN R1 hbx
    rw [hbd] at rb
    cases (show bv = .bl b from rb)
    have hN1 : N0 ≤ S1.length := Nat.le_trans hN p1.length_le
    have head : lcGo (fun e S => ev Γ cond e S) (fun e S => ev Γ elt e S) own tgs sr Dn cenv (v :: t) S = (if b = true then (ev Γ elt cenv1 S1).calm.bind fun y S2 => addL Dn y S2 fun S3 => lcGo (fun e S => ev Γ cond e S) (fun e S => ev Γ elt e S) own tgs sr Dn cenv t S3 else lcGo (fun e S => ev Γ cond e S) (fun e S => ev Γ elt e S) own tgs sr Dn cenv t S1) := by
      rw [lcGo, if_pos hok, e1]
      show Res.onB (ev Γ cond cenv1 S).calm _ _ = _
      rw [ec]
      simp only [Res.calm_ok]
      rw [Res.onB_bl]
    rw [head]
    cases b with
    | false =>
      rw [if_neg Bool.false_ne_true] at h ⊢
      obtain ⟨S', accv', es, q1, q2, q3, q4⟩ := blc_ok hc he hno htg hb hv0 ds t acc po S1 accv hN1 (R.pre p1) (r2.pre p1) (held_stay hb hok fun n c _ e => pre_at p1 e) (pre_at p1 hD) (ra.pre p1) h
      exact ⟨S', accv', es, q1, Nat.le_trans p1.length_le q2, fun n c hn e => q3 n c hn (pre_at p1 e), q4⟩
    | true =>
      rw [if_pos rfl] at h ⊢
      obtain ⟨y, hy, h⟩ := Option.bind_eq_some_iff.mp h
      split at h
      · rename_i hcond
        obtain ⟨yv, S2, ee, p2, ry, _⟩ := he _ env1 cenv1 S1 y hN1 (R1.pre p1) hy
        have hN2 : N0 ≤ S2.length := Nat.le_trans hN1 p2.length_le
        have p12 := p1.trans p2
        have hD2 : S2[Dn]? = some (.lst accv) := pre_at p12 hD
        have hDl : Dn < S2.length := (List.getElem?_eq_some_iff.mp hD2).1
        rw [ee]
        simp only [Res.calm_ok, Res.bind_ok]
        have hadd : ∀ k, addL Dn yv S2 k = k (S2.set Dn (.lst (accv ++ [yv]))) := by
          intro k
          unfold addL
          simp only [hD2]
          rw [if_pos (by rw [ra.length]; exact hcond.2)]
        rw [hadd]
        have off : ∀ n c, n ≠ Dn → S2[n]? = some c → (S2.set Dn (.lst (accv ++ [yv])))[n]? = some c := fun n c hn e => by rw [List.getElem?_set_ne (Ne.symm hn)]; exact e
        have R3 : ER' N0 P (fun m => X m ∨ m = Dn) (S2.set Dn (.lst (accv ++ [yv]))) env cenv := (R.pre p12).agr (by simp) fun n c hn e => off n c (fun z => hn (.inr z)) e
        have pdoff : ∀ {o : Bool} {m : Nat}, Pd N0 P (Ao env cenv (fun m => X m ∨ m = Dn)) o false m → m ≠ Dn := fun {o m} q z => by
          have := q.2 (.inl (.inr z))
          cases this
        have ry' : RD (S2.set Dn (.lst (accv ++ [yv]))) (Pd N0 P (Ao env cenv (fun m => X m ∨ m = Dn)) (po || y.o) false) y.d yv := by
          rw [hcond.1] at ry
          have ry2 : RD S2 (Pd N0 P (Ao env cenv (fun m => X m ∨ m = Dn)) (po || y.o) false) y.d yv := ry.weak (List.prefix_refl _) (fun _ _ q => aoEq q) (by simp +contextual) id
          exact ry2.to fun m c q e => ⟨off m c (pdoff q) e, q⟩
        have ra' : RDs (S2.set Dn (.lst (accv ++ [yv]))) (Pd N0 P (Ao env cenv (fun m => X m ∨ m = Dn)) (po || y.o) false) acc accv := by
          have ra2 : RDs S2 (Pd N0 P (Ao env cenv (fun m => X m ∨ m = Dn)) (po || y.o) false) acc accv := ra.weak p12 (fun _ _ q => q) (by simp +contextual) id
          exact ra2.to fun m c q e => ⟨off m c (pdoff q) e, q⟩
        have r2' : RDs (S2.set Dn (.lst (accv ++ [yv]))) (Pd N0 P (Ao env cenv (fun m => X m ∨ m = Dn)) o false) ds t := (r2.pre p12).to fun m c q e => ⟨off m c (pdoff q) e, q⟩
        obtain ⟨S', accv', es, q1, q2, q3, q4⟩ := blc_ok hc he hno htg hb hv0 ds t (acc ++ [y.d]) (po || y.o) _ (accv ++ [yv]) (by simpa using hN2) R3 r2' (held_stay hb hok fun n c hn e => off n c (fun z => hv0 (by rw [hn, z])) (pre_at p12 e))
          (List.getElem?_set_self hDl) (ra'.append ⟨yv, [], rfl, ry', rfl⟩) h
        refine ⟨S', accv', es, q1, ?_, fun n c hn e => q3 n c hn (off n c hn (pre_at p12 e)), q4⟩
        have := p12.length_le
        simp only [List.length_set] at q2
        omega
      · cases h
end
end C
end
section
set_option Elab.async false
set_option linter.all false
set_option maxRecDepth 100000
set_option maxHeartbeats 1000000
/-! B7: dict comprehensions; expressions. -/
namespace C
open PySem

section
variable {N0 : Nat} {P X A A' : Nat → Prop} {S S' : Store} {env env1 : BEnv} {cenv cenv1 : Env} {o a o' a' : Bool} {d : D} {v w : Val} {n : Nat} {Γ : Cx} {B : BCx} {x y z : BV}
/-- the rows of a dict in the making -/
def RK (S : Store) (Q : Nat → Prop) (acc : List (Val × D)) (kvs : List (Val × Val)) : Prop := kvs.map (·.1) = acc.map (·.1) ∧ RDs S Q (acc.map (·.2)) (kvs.map (·.2))
theorem RK.to {Q Q' : Nat → Prop} {acc : List (Val × D)} {kvs : List (Val × Val)} (r : RK S Q acc kvs) (h : ∀ n c, Q n → S[n]? = some c → S'[n]? = some c ∧ Q' n) : RK S' Q' acc kvs := ⟨r.1, r.2.to h⟩
theorem RK.put {Q : Nat → Prop} {k : Val} (q : RD S Q d v) : ∀ {acc : List (Val × D)} {kvs : List (Val × Val)}, RK S Q acc kvs → RK S Q (bputK k d acc) (putK k v kvs)
  | [], kvs, r => by
    cases kvs with
    | nil => exact ⟨rfl, v, [], rfl, q, rfl⟩
    | cons p l => obtain ⟨h, _⟩ := r; cases h
  | (g, x) :: acc, kvs, r => by
    cases kvs with
    | nil => obtain ⟨h, _⟩ := r; cases h
    | cons p l =>
      obtain ⟨g', u⟩ := p
      obtain ⟨h, u', t, e, r1, r2⟩ := r
      simp only [List.map_cons, List.cons.injEq] at h e
      obtain ⟨h1, h2⟩ := h
      obtain ⟨e1, e2⟩ := e
      subst h1 e1
      by_cases hg : g' = k
      · simp only [bputK, C.putK, if_pos hg]
        exact ⟨by simp [h2], v, t, by simp [e2], q, r2⟩
      · simp only [bputK, C.putK, if_neg hg]
        have := RK.put (k := k) q (acc := acc) (kvs := l) ⟨h2, by rw [e2]; exact r2⟩
        exact ⟨by simp [this.1], u, _, rfl, r1, this.2⟩
theorem bdc_ok {key val : E} {own tgs : List Nat} {sr : Src} {Dn : Nat} {v0 : Val} (hc : EvE Γ B N0 P key) (he : EvE Γ B N0 P val) (hno : noOwn env own = true) (htg : ∀ t ∈ tgs, t ∈ own) (hb : HeldBy sr.held v0) (hv0 : v0 ≠ .loc Dn) :
    ∀ (ds : List D) (vs : List Val) (acc : List (Val × D)) (po : Bool) (S : Store) (ep : Nat) (accv : List (Val × Val)), N0 ≤ S.length → ER' N0 P (fun m => X m ∨ m = Dn) S env cenv → RDs S (Pd N0 P (Ao env cenv (fun m => X m ∨ m = Dn)) o false) ds vs → sr.ok S = true → S[Dn]? = some (.dct ep accv) →
      RK S (Pd N0 P (Ao env cenv (fun m => X m ∨ m = Dn)) po false) acc accv → bdc (fun env => bev B env key) (fun env => bev B env val) own tgs o env ds acc po = some z →
      ∃ S' ep' accv' es, dcGo (fun e S => ev Γ key e S) (fun e S => ev Γ val e S) own tgs sr Dn cenv vs S = .ok (.loc Dn) S' ∧ S.length ≤ S'.length ∧ (∀ n c, n ≠ Dn → S[n]? = some c → S'[n]? = some c) ∧ z.d = .dct (es.map (·.1)) (es.map (·.2)) ∧ z.a = false ∧ S'[Dn]? = some (.dct ep' accv') ∧
        RK S' (Pd N0 P (Ao env cenv (fun m => X m ∨ m = Dn)) z.o false) es accv'
  | [], vs, acc, po, S, ep, accv, hN, R, r, hok, hD, ra, h => by
    cases (show vs = [] from r)
    cases h
    refine ⟨S, ep, accv, acc, ?_, Nat.le_refl _, fun _ _ _ e => e, rfl, rfl, hD, ra⟩
    unfold dcGo
    rw [if_pos hok]
  | d :: ds, vs, acc, po, S, ep, accv, hN, R, r, hok, hD, ra, h => by
    obtain ⟨v, t, rfl, r1, r2⟩ := r
    unfold bdc at h
    obtain ⟨env1, h1, h⟩ := Option.bind_eq_some_iff.mp h
    obtain ⟨kx, h2, h⟩ := Option.bind_eq_some_iff.mp h
    obtain ⟨kv, h3, h⟩ := Option.bind_eq_some_iff.mp h
    obtain ⟨y, h4, h⟩ := Option.bind_eq_some_iff.mp h
    have Rw := R.wipe own
    have r1' : RD S (Pd N0 P (Ao (bwipe env own) (wipeE cenv own) (fun m => X m ∨ m = Dn)) o false) d v := r1.to fun m c q e => ⟨e, q.weak ao_wipe id id⟩
    obtain ⟨cenv1, e1, R1, same⟩ := bsetN_ok Rw r1' h1
    have same' : ∀ j, j ∉ own → env1[j]? = env[j]? ∧ cenv1[j]? = cenv[j]? := fun j hj => by
      obtain ⟨q1, q2⟩ := same j (fun z => hj (htg j z))
      obtain ⟨q3, q4⟩ := wipe_same (env := env) (cenv := cenv) hj
      exact ⟨q1.trans q3, q2.trans q4⟩
    have aoEq : ∀ {m : Nat}, Ao env cenv (fun m => X m ∨ m = Dn) m → Ao env1 cenv1 (fun m => X m ∨ m = Dn) m := fun {m} => ao_same hno same'
    obtain ⟨kval, S1, ec, p1, rk, _⟩ := hc _ env1 cenv1 S kx hN R1 h2
    obtain rfl := rk.val h3
    have hN1 : N0 ≤ S1.length := Nat.le_trans hN p1.length_le
    split at h
    · rename_i hcond
      obtain ⟨yv, S2, ee, p2, ry, _⟩ := he _ env1 cenv1 S1 y hN1 (R1.pre p1) h4
      have hN2 : N0 ≤ S2.length := Nat.le_trans hN1 p2.length_le
      have p12 := p1.trans p2
      have hD2 : S2[Dn]? = some (.dct ep accv) := pre_at p12 hD
      have hDl : Dn < S2.length := (List.getElem?_eq_some_iff.mp hD2).1
      have hla : accv.length = acc.length := by rw [← List.length_map (f := (·.1)), ra.1, List.length_map]
      have hkk : keyOk kval accv = true := by
        rw [← hcond.2.1, ← ra.1]
        unfold keyOk keyOkK
        simp only [List.all_map]
        rfl
      have head : dcGo (fun e S => ev Γ key e S) (fun e S => ev Γ val e S) own tgs sr Dn cenv (v :: t) S = dcGo (fun e S => ev Γ key e S) (fun e S => ev Γ val e S) own tgs sr Dn cenv t (S2.set Dn (putD kval yv ep accv)) := by
        rw [dcGo, if_pos hok, e1]
        show Res.bind (ev Γ key cenv1 S).calm _ = _
        rw [ec]
        simp only [Res.calm_ok, Res.bind_ok]
        rw [ee]
        simp only [Res.calm_ok, Res.bind_ok]
        unfold addD
        simp only [hD2]
        rw [if_pos (by rw [hkk, hla]; simp [hcond.2.2])]
      rw [head]
      unfold putD
      generalize hcell : (Cell.dct (if hasK kval accv = true then ep else ep + 1) (putK kval yv accv)) = cell
      have off : ∀ n c, n ≠ Dn → S2[n]? = some c → (S2.set Dn cell)[n]? = some c := fun n c hn e => by rw [List.getElem?_set_ne (Ne.symm hn)]; exact e
      have R3 : ER' N0 P (fun m => X m ∨ m = Dn) (S2.set Dn cell) env cenv := (R.pre p12).agr (by simp) fun n c hn e => off n c (fun z => hn (.inr z)) e
      have pdoff : ∀ {o : Bool} {m : Nat}, Pd N0 P (Ao env cenv (fun m => X m ∨ m = Dn)) o false m → m ≠ Dn := fun {o m} q z => by
        have := q.2 (.inl (.inr z))
        cases this
      have ry' : RD (S2.set Dn cell) (Pd N0 P (Ao env cenv (fun m => X m ∨ m = Dn)) (po || y.o) false) y.d yv := by
        rw [hcond.1] at ry
        have ry2 : RD S2 (Pd N0 P (Ao env cenv (fun m => X m ∨ m = Dn)) (po || y.o) false) y.d yv := ry.weak (List.prefix_refl _) (fun _ _ q => aoEq q) (by simp +contextual) id
        exact ry2.to fun m c q e => ⟨off m c (pdoff q) e, q⟩
      have ra' : RK (S2.set Dn cell) (Pd N0 P (Ao env cenv (fun m => X m ∨ m = Dn)) (po || y.o) false) acc accv := by
        refine ra.to fun m c q e => ⟨off m c (pdoff q) (pre_at p12 e), q.weak id (by simp +contextual) id⟩
      have r2' : RDs (S2.set Dn cell) (Pd N0 P (Ao env cenv (fun m => X m ∨ m = Dn)) o false) ds t := (r2.pre p12).to fun m c q e => ⟨off m c (pdoff q) e, q⟩
      have hD3 : (S2.set Dn cell)[Dn]? = some cell := List.getElem?_set_self hDl
      subst hcell
      obtain ⟨S', ep', accv', es, q1, q2, q3, q4⟩ := bdc_ok hc he hno htg hb hv0 ds t (bputK kval y.d acc) (po || y.o) _ _ _ (by simpa using hN2) R3 r2' (held_stay hb hok fun n c hn e => off n c (fun z => hv0 (by rw [hn, z])) (pre_at p12 e))
        hD3 (ra'.put ry') h
      refine ⟨S', ep', accv', es, q1, ?_, fun n c hn e => q3 n c hn (off n c hn (pre_at p12 e)), q4⟩
      have := p12.length_le
      simp only [List.length_set] at q2
      omega
    · cases h

/-! ### expressions -/
theorem ao_ok (R : ER' N0 P X S env cenv) : ∀ n, Ao env cenv X n → n < S.length ∧ N0 ≤ n := fun _ h => R.lt h
/-- an owned list looked at -/
theorem pk_ok {e : E} (h : EvE Γ B N0 P e) {X : Nat → Prop} {env : BEnv} {cenv : Env} {S : Store} {x : BV} (hN : N0 ≤ S.length) (R : ER' N0 P X S env cenv) (hx : pk env e (bev B env e) = some x) :
    ∃ v S', ev Γ e cenv S = .ok v S' ∧ S <+: S' ∧ RI S' (Pd N0 P (Ao env cenv X) x.o x.a) x.d v := by
  unfold pk at hx
  have gen : bev B env e = some x → ∃ v S', ev Γ e cenv S = .ok v S' ∧ S <+: S' ∧ RI S' (Pd N0 P (Ao env cenv X) x.o x.a) x.d v := fun hx => by
    obtain ⟨v, S', e1, p, r, _⟩ := h X env cenv S x hN R hx
    exact ⟨v, S', e1, p, RI.ofRD r⟩
  split at hx
  · rename_i j
    split at hx
    · rename_i ds o e
      cases hx
      obtain ⟨n, h1, h2, vs, h3, h4⟩ := R.own _ _ _ e
      refine ⟨.loc n, S, ?_, List.prefix_refl _, n, vs, rfl, h3, h4⟩
      unfold ev
      simp only [h1]
    · exact gen hx
  · exact gen hx
/-- the list of what is walked, from one expression -/
theorem prefix_len {S S' : Store} (p : S <+: S') (h : N0 ≤ S.length) : N0 ≤ S'.length := Nat.le_trans h p.length_le
def EvsE (Γ : Cx) (B : BCx) (N0 : Nat) (P : Nat → Prop) (es : List E) : Prop := ∀ (X : Nat → Prop) (env : BEnv) (cenv : Env) (S : Store) (xs : List BV), N0 ≤ S.length → ER' N0 P X S env cenv → bevs B env es = some xs →
  ∃ vs S', evs Γ es cenv S = .ok vs S' ∧ S <+: S' ∧ RDs S' (Pd N0 P (Ao env cenv X) (oany xs) (aany xs)) (xs.map (·.d)) vs
theorem evs_nil : EvsE Γ B N0 P [] := by
  intro X env cenv S xs hN R h
  unfold bevs at h
  cases h
  exact ⟨[], S, by unfold evs; rfl, List.prefix_refl _, rfl⟩
theorem evs_cons {e : E} {es : List E} (h1 : EvE Γ B N0 P e) (h2 : EvsE Γ B N0 P es) : EvsE Γ B N0 P (e :: es) := by
  intro X env cenv S xs hN R h
  unfold bevs at h
  obtain ⟨x, hx, h⟩ := Option.bind_eq_some_iff.mp h
  obtain ⟨ys, hys, rfl⟩ := Option.map_eq_some_iff.mp h
  obtain ⟨v, S1, e1, p1, r1, _⟩ := h1 X env cenv S x hN R hx
  obtain ⟨vs, S2, e2, p2, r2⟩ := h2 X env cenv S1 ys (prefix_len p1 hN) (R.pre p1) hys
  refine ⟨v :: vs, S2, ?_, p1.trans p2, v, vs, rfl, ?_, ?_⟩
  · unfold evs
    rw [e1]
    simp only [Res.bind_ok, e2]
  · exact r1.weak p2 (fun _ _ q => q) (by unfold oany; simp +contextual) (by unfold aany; simp +contextual)
  · exact r2.weak (List.prefix_refl _) (fun _ _ q => q) (by unfold oany; simp +contextual) (by unfold aany; simp +contextual)
/-- one expression is looked at, or several are taken -/
theorem src_ok {es : List E} (h1 : ∀ e, es = [e] → EvE Γ B N0 P e) (h2 : EvsE Γ B N0 P es) {k : Nat} {X : Nat → Prop} {env : BEnv} {cenv : Env} {S : Store} {s : List D × Bool × Bool} (hN : N0 ≤ S.length) (R : ER' N0 P X S env cenv)
    (h : ((match es with
    | [e] => (pk env e (bev B env e)).map fun x => [x]
    | es => bevs B env es).bind fun xs => bsrc k xs) = some s) : ∃ vs sr S' v0, evs Γ es cenv S = .ok vs S' ∧ S <+: S' ∧ srcV Γ k vs S' = some sr ∧ RDs S' (Pd N0 P (Ao env cenv X) s.2.1 s.2.2) s.1 sr.items ∧ sr.ok S' = true ∧ HeldBy sr.held v0 ∧ (∀ n, v0 = .loc n → n < S'.length) := by
  obtain ⟨xs, hxs, hs⟩ := Option.bind_eq_some_iff.mp h
  split at hxs
  · rename_i e
    obtain ⟨x, hx, rfl⟩ := Option.map_eq_some_iff.mp hxs
    obtain ⟨v, S1, e1, p1, r1⟩ := pk_ok (h1 e rfl) hN R hx
    obtain ⟨sr, q1, q2, q3, q4⟩ := bsrc1_ok (Γ := Γ) r1 hs
    refine ⟨[v], sr, S1, v, ?_, p1, q1, q2, q3, q4, fun n hn => ?_⟩
    · unfold evs evs
      rw [e1]
      rfl
    · subst hn
      by_cases hh : n < S1.length
      · exact hh
      · exfalso
        have e0 : S1[n]? = none := List.getElem?_eq_none (by omega)
        obtain ⟨sd, so, sa⟩ := x
        cases sd with
        | lst ds => obtain ⟨m, vs, e, q, _⟩ := r1; cases e; rw [e0] at q; cases q
        | dct ks ds => obtain ⟨m, ep, kvs, e, _, q, _⟩ := r1; cases e; rw [e0] at q; cases q
        | obj c fs ds => obtain ⟨m, l, e, _, q, _⟩ := r1; cases e; rw [e0] at q; cases q
        | tup ds => obtain ⟨vs, e, _⟩ := r1; cases e
        | ro ds => obtain ⟨vs, e, _⟩ := r1; cases e
        | non => cases (show Val.loc n = .non from r1)
        | bl b => cases (show Val.loc n = .bl b from r1)
        | int b => cases (show Val.loc n = .int b from r1)
        | str b => cases (show Val.loc n = .str b from r1)
  · rename_i hne
    obtain ⟨vs, S1, e1, p1, r1⟩ := h2 X env cenv S xs hN R hxs
    have hx : ∀ x, xs ≠ [x] := by
      intro x hx
      subst hx
      have : ∀ (es : List E), bevs B env es = some [x] → ∃ e, es = [e] := by
        intro es he
        cases es with
        | nil => unfold bevs at he; cases he
        | cons e es =>
          unfold bevs at he
          obtain ⟨y, hy, he⟩ := Option.bind_eq_some_iff.mp he
          obtain ⟨ys, hys, he⟩ := Option.map_eq_some_iff.mp he
          cases he
          cases es with
          | nil => exact ⟨e, rfl⟩
          | cons e2 es =>
            unfold bevs at hys
            obtain ⟨y2, hy2, hys⟩ := Option.bind_eq_some_iff.mp hys
            obtain ⟨ys2, hys2, hys⟩ := Option.map_eq_some_iff.mp hys
            cases hys
      obtain ⟨e, he⟩ := this es hxs
      exact hne e he
    obtain ⟨sr, q1, q2, q3, q4⟩ := bsrc2_ok (Γ := Γ) (A := Ao env cenv X) (N0 := N0) (P := P) r1 hs hx
    exact ⟨vs, sr, S1, .non, e1, p1, q1, q2, q3, q4, fun n hn => nomatch hn⟩
end
end C
end
section
set_option Elab.async false
set_option linter.all false
set_option maxRecDepth 100000
set_option maxHeartbeats 2000000
/-! B8: every expression on trees. -/
namespace C
open PySem

section
variable {N0 : Nat} {P X A A' : Nat → Prop} {S S' : Store} {env env1 : BEnv} {cenv cenv1 : Env} {o a o' a' : Bool} {d : D} {v w : Val} {n : Nat} {Γ : Cx} {B : BCx} {x y z : BV}
theorem nt {P : Prop} (h : False = True → P) : True := trivial
theorem e_var {i : Nat} : EvE Γ B N0 P (.var i) := by
  intro X env cenv S x hN R h
  unfold bev at h
  split at h
  · rename_i d o e
    cases h
    obtain ⟨v, h1, h2⟩ := R.val i d o e
    refine ⟨v, S, ?_, List.prefix_refl _, h2, (fun z => nomatch z)⟩
    unfold ev
    simp only [h1]
  · rename_i d o e
    cases h
    obtain ⟨n, h1, h2, h3⟩ := R.own i d o e
    refine ⟨.loc n, S, ?_, List.prefix_refl _, h3.rd ⟨fun z => absurd z (by omega), fun _ => rfl⟩ fun m q => q.weak id id (fun _ => rfl), (fun z => nomatch z)⟩
    unfold ev
    simp only [h1]
  · cases h
theorem e_cst {v : Val} : EvE Γ B N0 P (.cst v) := by
  intro X env cenv S x hN R h
  unfold bev at h
  split at h
  · rename_i hd
    cases h
    exact ⟨v, S, by unfold ev; rfl, List.prefix_refl _, RD.of hd, (fun z => nomatch z)⟩
  · cases h
theorem e_nop : EvE Γ B N0 P .nop := by
  intro X env cenv S x hN R h
  unfold bev at h
  cases h
  exact ⟨.non, S, by unfold ev; rfl, List.prefix_refl _, rfl, (fun z => nomatch z)⟩
theorem e_bin {op : Bop} {a b : E} (G : BG B Γ) (h1 : EvE Γ B N0 P a) (h2 : EvE Γ B N0 P b) : EvE Γ B N0 P (.bin op a b) := by
  intro X env cenv S z hN R h
  unfold bev at h
  obtain ⟨x, hx, h⟩ := Option.bind_eq_some_iff.mp h
  obtain ⟨y, hy, h⟩ := Option.bind_eq_some_iff.mp h
  obtain ⟨v, S1, e1, p1, r1⟩ := pk_ok h1 hN R hx
  obtain ⟨w, S2, e2, p2, r2⟩ := pk_ok h2 (prefix_len p1 hN) (R.pre p1) hy
  have R2 := (R.pre p1).pre p2
  obtain ⟨u, S3, e3, p3, r3⟩ := bbin_ok G (prefix_len p2 (prefix_len p1 hN)) (ao_ok R2) (r1.pre p2) r2 h
  refine ⟨u, S3, ?_, (p1.trans p2).trans p3, r3, (fun z => nomatch z)⟩
  unfold ev
  rw [e1]
  simp only [Res.bind_ok, e2, e3]
theorem e_cmp {op : Cop} {a b : E} (G : BG B Γ) (h1 : EvE Γ B N0 P a) (h2 : EvE Γ B N0 P b) : EvE Γ B N0 P (.cmp op a b) := by
  intro X env cenv S z hN R h
  unfold bev at h
  obtain ⟨x, hx, h⟩ := Option.bind_eq_some_iff.mp h
  obtain ⟨y, hy, h⟩ := Option.bind_eq_some_iff.mp h
  obtain ⟨v, S1, e1, p1, r1⟩ := pk_ok h1 hN R hx
  obtain ⟨w, S2, e2, p2, r2⟩ := pk_ok h2 (prefix_len p1 hN) (R.pre p1) hy
  obtain ⟨u, S3, e3, p3, r3, o3, a3⟩ := bcmp_ok (A := Pd N0 P (Ao env cenv X) z.o z.a) G (r1.pre p2) r2 h
  refine ⟨u, S3, ?_, (p1.trans p2).trans p3, r3, (fun z => nomatch z)⟩
  unfold ev
  rw [e1]
  simp only [Res.bind_ok, e2, e3]
theorem e_neg {a : E} (h1 : EvE Γ B N0 P a) : EvE Γ B N0 P (.neg a) := by
  intro X env cenv S z hN R h
  unfold bev at h
  obtain ⟨x, hx, h⟩ := Option.bind_eq_some_iff.mp h
  obtain ⟨v, S1, e1, p1, r1, _⟩ := h1 X env cenv S x hN R hx
  split at h
  · rename_i i e
    cases h
    rw [e] at r1
    cases (show v = .int i from r1)
    refine ⟨.int (-i), S1, ?_, p1, rfl, (fun z => nomatch z)⟩
    unfold ev
    rw [e1]
    rfl
  · cases h
theorem e_isN {a : E} (h1 : EvE Γ B N0 P a) : EvE Γ B N0 P (.isN a) := by
  intro X env cenv S z hN R h
  unfold bev at h
  obtain ⟨x, hx, h⟩ := Option.bind_eq_some_iff.mp h
  cases h
  obtain ⟨v, S1, e1, p1, r1⟩ := pk_ok h1 hN R hx
  refine ⟨.bl (decide (v = .non)), S1, ?_, p1, ?_, (fun z => nomatch z)⟩
  · unfold ev
    rw [e1]
    rfl
  · obtain ⟨xd, xo, xa⟩ := x
    cases xd with
    | non => cases (show v = .non from r1); rfl
    | lst ds => obtain ⟨n, vs, e, _⟩ := r1; subst e; rfl
    | dct ks ds => obtain ⟨n, ep, kvs, e, _⟩ := r1; subst e; rfl
    | obj c fs ds => obtain ⟨n, l, e, _⟩ := r1; subst e; rfl
    | tup ds => obtain ⟨vs, e, _⟩ := r1; subst e; rfl
    | ro ds => obtain ⟨vs, e, _⟩ := r1; subst e; rfl
    | bl b => cases (show v = .bl b from r1); rfl
    | int b => cases (show v = .int b from r1); rfl
    | str b => cases (show v = .str b from r1); rfl
theorem e_notN {a : E} (h1 : EvE Γ B N0 P a) : EvE Γ B N0 P (.notN a) := by
  intro X env cenv S z hN R h
  unfold bev at h
  obtain ⟨x, hx, h⟩ := Option.bind_eq_some_iff.mp h
  cases h
  obtain ⟨v, S1, e1, p1, r1⟩ := pk_ok h1 hN R hx
  refine ⟨.bl (!decide (v = .non)), S1, ?_, p1, ?_, (fun z => nomatch z)⟩
  · unfold ev
    rw [e1]
    rfl
  · obtain ⟨xd, xo, xa⟩ := x
    cases xd with
    | non => cases (show v = .non from r1); rfl
    | lst ds => obtain ⟨n, vs, e, _⟩ := r1; subst e; rfl
    | dct ks ds => obtain ⟨n, ep, kvs, e, _⟩ := r1; subst e; rfl
    | obj c fs ds => obtain ⟨n, l, e, _⟩ := r1; subst e; rfl
    | tup ds => obtain ⟨vs, e, _⟩ := r1; subst e; rfl
    | ro ds => obtain ⟨vs, e, _⟩ := r1; subst e; rfl
    | bl b => cases (show v = .bl b from r1); rfl
    | int b => cases (show v = .int b from r1); rfl
    | str b => cases (show v = .str b from r1); rfl
/-- a test -/
theorem t_ok {c : E} (h1 : EvE Γ B N0 P c) {X : Nat → Prop} {env : BEnv} {cenv : Env} {S : Store} {b : Bool} (hN : N0 ≤ S.length) (R : ER' N0 P X S env cenv) (h : bcond (bev B env c) = some b) : ∃ S', ev Γ c cenv S = .ok (.bl b) S' ∧ S <+: S' := by
  obtain ⟨x, hx, hd⟩ := bcond_some h
  obtain ⟨v, S1, e1, p1, r1, _⟩ := h1 X env cenv S x hN R hx
  rw [hd] at r1
  cases (show v = .bl b from r1)
  exact ⟨S1, e1, p1⟩
theorem e_and {a b : E} (h1 : EvE Γ B N0 P a) (h2 : EvE Γ B N0 P b) : EvE Γ B N0 P (.and a b) := by
  intro X env cenv S z hN R h
  unfold bev at h
  obtain ⟨p, hp, h⟩ := Option.bind_eq_some_iff.mp h
  obtain ⟨S1, e1, p1⟩ := t_ok h1 hN R hp
  cases p with
  | true =>
    rw [if_pos rfl] at h
    obtain ⟨v, S2, e2, p2, r2, _⟩ := h2 X env cenv S1 z (prefix_len p1 hN) (R.pre p1) h
    refine ⟨v, S2, ?_, p1.trans p2, r2, (fun z => nomatch z)⟩
    unfold ev
    rw [e1]
    exact e2
  | false =>
    rw [if_neg Bool.false_ne_true] at h
    cases h
    refine ⟨.bl false, S1, ?_, p1, rfl, (fun z => nomatch z)⟩
    unfold ev
    rw [e1]
    rfl
theorem e_or {a b : E} (h1 : EvE Γ B N0 P a) (h2 : EvE Γ B N0 P b) : EvE Γ B N0 P (.or a b) := by
  intro X env cenv S z hN R h
  unfold bev at h
  obtain ⟨p, hp, h⟩ := Option.bind_eq_some_iff.mp h
  obtain ⟨S1, e1, p1⟩ := t_ok h1 hN R hp
  cases p with
  | false =>
    rw [if_neg Bool.false_ne_true] at h
    obtain ⟨v, S2, e2, p2, r2, _⟩ := h2 X env cenv S1 z (prefix_len p1 hN) (R.pre p1) h
    refine ⟨v, S2, ?_, p1.trans p2, r2, (fun z => nomatch z)⟩
    unfold ev
    rw [e1]
    exact e2
  | true =>
    rw [if_pos rfl] at h
    cases h
    refine ⟨.bl true, S1, ?_, p1, rfl, (fun z => nomatch z)⟩
    unfold ev
    rw [e1]
    rfl
theorem e_not {a : E} (h1 : EvE Γ B N0 P a) : EvE Γ B N0 P (.not a) := by
  intro X env cenv S z hN R h
  unfold bev at h
  obtain ⟨p, hp, h⟩ := Option.bind_eq_some_iff.mp h
  obtain ⟨S1, e1, p1⟩ := t_ok h1 hN R hp
  cases h
  refine ⟨.bl (!p), S1, ?_, p1, rfl, (fun z => nomatch z)⟩
  unfold ev
  rw [e1]
  cases p <;> rfl
theorem e_ite {c a b : E} (h0 : EvE Γ B N0 P c) (h1 : EvE Γ B N0 P a) (h2 : EvE Γ B N0 P b) : EvE Γ B N0 P (.ite c a b) := by
  intro X env cenv S z hN R h
  unfold bev at h
  obtain ⟨p, hp, h⟩ := Option.bind_eq_some_iff.mp h
  obtain ⟨S1, e1, p1⟩ := t_ok h0 hN R hp
  cases p with
  | true =>
    rw [if_pos rfl] at h
    obtain ⟨v, S2, e2, p2, r2, _⟩ := h1 X env cenv S1 z (prefix_len p1 hN) (R.pre p1) h
    refine ⟨v, S2, ?_, p1.trans p2, r2, (fun z => nomatch z)⟩
    unfold ev
    rw [e1]
    exact e2
  | false =>
    rw [if_neg Bool.false_ne_true] at h
    obtain ⟨v, S2, e2, p2, r2, _⟩ := h2 X env cenv S1 z (prefix_len p1 hN) (R.pre p1) h
    refine ⟨v, S2, ?_, p1.trans p2, r2, (fun z => nomatch z)⟩
    unfold ev
    rw [e1]
    exact e2
theorem e_tup {es : List E} (h1 : EvsE Γ B N0 P es) : EvE Γ B N0 P (.tup es) := by
  intro X env cenv S z hN R h
  unfold bev at h
  obtain ⟨xs, hx, h⟩ := Option.bind_eq_some_iff.mp h
  obtain ⟨vs, S1, e1, p1, r1⟩ := h1 X env cenv S xs hN R hx
  split at h
  · rename_i hl
    cases h
    refine ⟨.tup vs, S1, ?_, p1, mk_ok ⟨vs, rfl, r1⟩, (fun z => nomatch z)⟩
    unfold ev
    rw [e1]
    simp only [Res.bind_ok]
    rw [if_pos (by rw [r1.length, List.length_map]; exact hl)]
  · cases h
theorem e_lst {es : List E} (h1 : EvsE Γ B N0 P es) : EvE Γ B N0 P (.lst es) := by
  intro X env cenv S z hN R h
  unfold bev at h
  obtain ⟨xs, hx, h⟩ := Option.bind_eq_some_iff.mp h
  obtain ⟨vs, S1, e1, p1, r1⟩ := h1 X env cenv S xs hN R hx
  split at h
  · rename_i hl
    cases h
    obtain ⟨S2, e2, p2, r2⟩ := newL_ok (prefix_len p1 hN) (ao_ok (R.pre p1)) r1 (by rw [List.length_map]; exact hl)
    refine ⟨_, S2, ?_, p1.trans p2, r2, fun _ => ⟨_, rfl, p1.length_le⟩⟩
    unfold ev
    rw [e1]
    exact e2
  · cases h
theorem e_sub {a i : E} (G : BG B Γ) (h1 : EvE Γ B N0 P a) (h2 : EvE Γ B N0 P i) : EvE Γ B N0 P (.sub a i) := by
  intro X env cenv S z hN R h
  unfold bev at h
  obtain ⟨x, hx, h⟩ := Option.bind_eq_some_iff.mp h
  obtain ⟨y, hy, h⟩ := Option.bind_eq_some_iff.mp h
  obtain ⟨v, S1, e1, p1, r1⟩ := pk_ok h1 hN R hx
  obtain ⟨w, S2, e2, p2, r2, _⟩ := h2 X env cenv S1 y (prefix_len p1 hN) (R.pre p1) hy
  split at h
  · rename_i c fs ds ex
    obtain ⟨f, hf, h⟩ := Option.bind_eq_some_iff.mp h
    rw [ex] at r1
    have r1 : RD S1 (Pd N0 P (Ao env cenv X) x.o x.a) (.obj c fs ds) v := r1
    have r1' := r1.weak (o' := x.o || y.o) (a' := x.a || y.a) p2 (fun _ _ q => q) (by simp +contextual) (by simp +contextual)
    have r2' := r2.weak (o' := x.o || y.o) (a' := x.a || y.a) (List.prefix_refl _) (fun _ _ q => q) (by simp +contextual) (by simp +contextual)
    obtain ⟨n, l, rfl, _, el, hl, _⟩ := r1
    obtain ⟨u, S3, e3, p3, r3⟩ := call_ok G (prefix_len p2 (prefix_len p1 hN)) (ao_ok ((R.pre p1).pre p2)) h (vs := [.loc n, w]) ⟨_, _, rfl, r1', _, _, rfl, r2', rfl⟩
    refine ⟨u, S3, ?_, (p1.trans p2).trans p3, r3, (fun z => nomatch z)⟩
    have hm : methOf Γ c mGet = some f := by unfold methOf; rw [← G.T]; exact hf
    unfold ev
    rw [e1]
    simp only [Res.bind_ok, e2]
    unfold subV
    simp only [pre_at p2 el, hm]
    exact e3
  obtain ⟨u, e3, r3⟩ := bsub_ok (Γ := Γ) (r1.pre p2) r2 h
  refine ⟨u, S2, ?_, p1.trans p2, r3, (fun z => nomatch z)⟩
  unfold ev
  rw [e1]
  simp only [Res.bind_ok, e2, e3]
theorem e_gsub {kvs : List (Str × Val)} {a : E} (h1 : EvE Γ B N0 P a) : EvE Γ B N0 P (.gsub kvs a) := by
  intro X env cenv S z hN R h
  unfold bev at h
  obtain ⟨x, hx, h⟩ := Option.bind_eq_some_iff.mp h
  obtain ⟨v, S1, e1, p1, r1, _⟩ := h1 X env cenv S x hN R hx
  split at h
  · rename_i s ex
    obtain ⟨w, hw, h⟩ := Option.bind_eq_some_iff.mp h
    split at h
    · rename_i hd
      cases h
      rw [ex] at r1
      cases (show v = .str s from r1)
      refine ⟨w, S1, ?_, p1, RD.of hd, (fun z => nomatch z)⟩
      unfold ev
      rw [e1]
      simp only [Res.bind_ok, hw, Res.of_some]
    · cases h
  · cases h
theorem RDs_strs {Q : Nat → Prop} : ∀ l : List (Str × Str), RDs S Q (l.map fun p => .str p.2) (l.map fun p => .str p.2)
  | [] => rfl
  | p :: l => ⟨_, _, rfl, rfl, RDs_strs l⟩
theorem e_dcs {kvs : List (Str × Str)} : EvE Γ B N0 P (.dcs kvs) := by
  intro X env cenv S z hN R h
  unfold bev at h
  cases h
  refine ⟨.loc S.length, _, by unfold ev; rfl, pre_app _ _, ⟨S.length, kvs.length, kvs.map fun p => (.str p.1, .str p.2), rfl, new_pd hN (ao_ok R), by rw [List.getElem?_append_right (Nat.le_refl _)]; simp, by rw [List.map_map]; rfl, ?_⟩, (fun z => nomatch z)⟩
  rw [List.map_map]
  exact RDs_strs kvs
theorem e_prp {a : E} {m : Nat} (G : BG B Γ) (h0 : EvE Γ B N0 P a) : EvE Γ B N0 P (.prp a m) := by
  intro X env cenv S z hN R h
  unfold bev at h
  obtain ⟨x, hx, h⟩ := Option.bind_eq_some_iff.mp h
  obtain ⟨v, S1, e1, p1, r1, _⟩ := h0 X env cenv S x hN R hx
  split at h
  · rename_i c fs ds ex
    obtain ⟨f, hf, h⟩ := Option.bind_eq_some_iff.mp h
    rw [ex] at r1
    have r1' := r1
    obtain ⟨n, l, rfl, _, el, hl, _⟩ := r1
    obtain ⟨u, S3, e3, p3, r3⟩ := call_ok G (prefix_len p1 hN) (ao_ok (R.pre p1)) h (vs := [.loc n]) ⟨_, _, rfl, r1', rfl⟩
    refine ⟨u, S3, ?_, p1.trans p3, r3, (fun z => nomatch z)⟩
    have hm : propOf Γ c m = some f := by unfold propOf; rw [← G.T]; exact hf
    unfold ev
    rw [e1]
    simp only [Res.bind_ok, objAt, el, Option.bind_some, hm, e3, Res.calm_ok]
  · cases h
theorem e_inv {a : E} (G : BG B Γ) (h0 : EvE Γ B N0 P a) : EvE Γ B N0 P (.inv a) := by
  intro X env cenv S z hN R h
  unfold bev at h
  obtain ⟨x, hx, h⟩ := Option.bind_eq_some_iff.mp h
  obtain ⟨v, S1, e1, p1, r1, _⟩ := h0 X env cenv S x hN R hx
  split at h
  · rename_i c fs ds ex
    obtain ⟨f, hf, h⟩ := Option.bind_eq_some_iff.mp h
    rw [ex] at r1
    have r1' := r1
    obtain ⟨n, l, rfl, _, el, hl, _⟩ := r1
    obtain ⟨u, S3, e3, p3, r3⟩ := call_ok G (prefix_len p1 hN) (ao_ok (R.pre p1)) h (vs := [.loc n]) ⟨_, _, rfl, r1', rfl⟩
    refine ⟨u, S3, ?_, p1.trans p3, r3, (fun z => nomatch z)⟩
    unfold ev
    rw [e1]
    simp only [Res.bind_ok, special_of G el hl hf]
    exact e3
  · cases h
theorem e_attr {a : E} {f : Nat} (h1 : EvE Γ B N0 P a) : EvE Γ B N0 P (.attr a f) := by
  intro X env cenv S z hN R h
  unfold bev at h
  obtain ⟨x, hx, h⟩ := Option.bind_eq_some_iff.mp h
  obtain ⟨v, S1, e1, p1, r1⟩ := pk_ok h1 hN R hx
  obtain ⟨u, e3, r3⟩ := batt_ok r1 h
  refine ⟨u, S1, ?_, p1, r3, (fun z => nomatch z)⟩
  unfold ev
  rw [e1]
  exact e3
theorem e_part {a : E} (h1 : EvE Γ B N0 P a) {X : Nat → Prop} {env : BEnv} {cenv : Env} {S : Store} {l : Option Int} (hN : N0 ≤ S.length) (R : ER' N0 P X S env cenv) (h : ((bev B env a).bind fun y => bpart y.d) = some l) :
    ∃ S', (ev Γ a cenv S).prt = .ok l S' ∧ S <+: S' := by
  obtain ⟨x, hx, h⟩ := Option.bind_eq_some_iff.mp h
  obtain ⟨v, S1, e1, p1, r1, _⟩ := h1 X env cenv S x hN R hx
  refine ⟨S1, ?_, p1⟩
  rw [e1]
  unfold bpart at h
  split at h
  · rename_i e
    cases h
    rw [e] at r1
    cases (show v = .non from r1)
    rfl
  · rename_i i e
    cases h
    rw [e] at r1
    cases (show v = .int i from r1)
    rfl
  · cases h
theorem e_slc {a lo hi : E} (h1 : EvE Γ B N0 P a) (h2 : EvE Γ B N0 P lo) (h3 : EvE Γ B N0 P hi) : EvE Γ B N0 P (.slc a lo hi) := by
  intro X env cenv S z hN R h
  unfold bev at h
  obtain ⟨x, hx, h⟩ := Option.bind_eq_some_iff.mp h
  obtain ⟨l, hl, h⟩ := Option.bind_eq_some_iff.mp h
  obtain ⟨u, hu, h⟩ := Option.bind_eq_some_iff.mp h
  obtain ⟨v, S1, e1, p1, r1⟩ := pk_ok h1 hN R hx
  obtain ⟨S2, e2, p2⟩ := e_part h2 (prefix_len p1 hN) (R.pre p1) hl
  obtain ⟨S3, e3, p3⟩ := e_part h3 (prefix_len p2 (prefix_len p1 hN)) ((R.pre p1).pre p2) hu
  have R3 := ((R.pre p1).pre p2).pre p3
  obtain ⟨S4, e4, p4, r4⟩ := bslc_ok (prefix_len p3 (prefix_len p2 (prefix_len p1 hN))) (ao_ok R3) ((r1.pre p2).pre p3) h
  refine ⟨_, S4, ?_, ((p1.trans p2).trans p3).trans p4, r4, fun _ => ⟨_, rfl, ((p1.trans p2).trans p3).length_le⟩⟩
  unfold ev
  rw [e1]
  simp only [Res.bind_ok, e2, e3, e4]
theorem e_call {f : Nat} {es : List E} (G : BG B Γ) (h1 : EvsE Γ B N0 P es) : EvE Γ B N0 P (.call f es) := by
  intro X env cenv S z hN R h
  unfold bev at h
  obtain ⟨xs, hx, h⟩ := Option.bind_eq_some_iff.mp h
  obtain ⟨vs, S1, e1, p1, r1⟩ := h1 X env cenv S xs hN R hx
  obtain ⟨u, S2, e2, p2, r2⟩ := call_ok G (prefix_len p1 hN) (ao_ok (R.pre p1)) h r1
  refine ⟨u, S2, ?_, p1.trans p2, r2, (fun z => nomatch z)⟩
  unfold ev
  rw [e1]
  exact e2
theorem e_meth {a : E} {m : Nat} {es : List E} (G : BG B Γ) (h0 : EvE Γ B N0 P a) (h1 : EvsE Γ B N0 P es) : EvE Γ B N0 P (.meth a m es) := by
  intro X env cenv S z hN R h
  unfold bev at h
  obtain ⟨x, hx, h⟩ := Option.bind_eq_some_iff.mp h
  obtain ⟨v, S1, e1, p1, r1, _⟩ := h0 X env cenv S x hN R hx
  split at h
  · rename_i c fs ds ex
    obtain ⟨f, hf, h⟩ := Option.bind_eq_some_iff.mp h
    obtain ⟨xs, hxs, h⟩ := Option.bind_eq_some_iff.mp h
    rw [ex] at r1
    obtain ⟨vs, S2, e2, p2, r2⟩ := h1 X env cenv S1 xs (prefix_len p1 hN) (R.pre p1) hxs
    have R2 := (R.pre p1).pre p2
    have r1' := r1.weak (o' := x.o || oany xs) (a' := x.a || aany xs) p2 (fun _ _ q => q) (by simp +contextual) (by simp +contextual)
    obtain ⟨n, l, rfl, _, el, hl, _⟩ := r1
    obtain ⟨u, S3, e3, p3, r3⟩ := call_ok G (prefix_len p2 (prefix_len p1 hN)) (ao_ok R2) h (vs := .loc n :: vs) ⟨_, _, rfl, r1', r2.weak (List.prefix_refl _) (fun _ _ q => q) (by simp +contextual) (by simp +contextual)⟩
    refine ⟨u, S3, ?_, (p1.trans p2).trans p3, r3, (fun z => nomatch z)⟩
    unfold ev
    rw [e1]
    simp only [Res.bind_ok, special_of G el hl hf, e2]
    exact e3
  · cases h
theorem e_make {c : Nat} {es : List E} (G : BG B Γ) (h1 : EvsE Γ B N0 P es) : EvE Γ B N0 P (.make c es) := by
  intro X env cenv S z hN R h
  unfold bev at h
  obtain ⟨xs, hx, h⟩ := Option.bind_eq_some_iff.mp h
  obtain ⟨f, hf, h⟩ := Option.bind_eq_some_iff.mp h
  obtain ⟨p, hp, h⟩ := Option.bind_eq_some_iff.mp h
  cases h
  obtain ⟨vs, S1, e1, p1, r1⟩ := h1 X env cenv S xs hN R hx
  have hN1 := prefix_len p1 hN
  have hA := ao_ok (R.pre p1)
  obtain ⟨S2, e2, hl, hs, ow⟩ := G.init f c _ p hp (S1 ++ [.obj c []]) (fun m => Pd N0 P (Ao env cenv X) (oany xs) (aany xs) m ∧ m < S1.length) vs S1.length (by rw [List.getElem?_append_right (Nat.le_refl _)]; simp) (by simp)
    (r1.lt.pre (pre_app _ _)) (fun m q => q.2)
  have pp : S1 <+: S2 := by
    rw [List.prefix_iff_getElem?]
    intro i hi
    exact (hs i _ (by omega) (by rw [List.getElem?_append_left hi]; exact List.getElem?_eq_getElem hi))
  refine ⟨.loc S1.length, S2, ?_, p1.trans pp, ?_, fun _ => ⟨_, rfl, p1.length_le⟩⟩
  · unfold ev
    rw [e1]
    simp only [Res.bind_ok]
    rw [← G.T, hf]
    simp only [e2, Res.bind_ok, if_true]
  · refine ow.rd (new_pd hN1 hA) fun m q => ?_
    obtain ⟨hm, q⟩ := q
    rcases q with q | ⟨q1, q2, q3⟩
    · simp only [List.length_append, List.length_singleton] at q
      exact ⟨fun z => absurd z (by omega), fun z => absurd (hA _ z).1 (by omega)⟩
    · simp only [q1, Bool.true_and]
      exact q2
theorem e_isi {a : E} {t : Ty} (h1 : EvE Γ B N0 P a) : EvE Γ B N0 P (.isi a t) := by
  intro X env cenv S z hN R h
  unfold bev at h
  obtain ⟨x, hx, h⟩ := Option.bind_eq_some_iff.mp h
  obtain ⟨b, hb, rfl⟩ := Option.map_eq_some_iff.mp h
  obtain ⟨kd, hk, hb⟩ := Option.bind_eq_some_iff.mp hb
  obtain ⟨v, S1, e1, p1, r1⟩ := pk_ok h1 hN R hx
  refine ⟨.bl b, S1, ?_, p1, rfl, (fun z => nomatch z)⟩
  unfold ev
  rw [e1]
  simp only [Res.bind_ok]
  unfold isiV
  rw [kind_ok r1 hk]
  simp only [Option.bind_some, hb]
theorem nt_blt {b : Blt} {es : List E} : newTop (.blt b es) = newTop (.blt b []) := by cases b <;> rfl
theorem e_blt {b : Blt} {es : List E} (G : BG B Γ) (h1 : ∀ e, es = [e] → EvE Γ B N0 P e) (h2 : EvsE Γ B N0 P es) : EvE Γ B N0 P (.blt b es) := by
  intro X env cenv S z hN R h
  unfold bev at h
  split at h
  · rename_i e
    obtain ⟨x, hx, h⟩ := Option.bind_eq_some_iff.mp h
    obtain ⟨v, S1, e1, p1, r1⟩ := pk_ok (h1 e rfl) hN R hx
    obtain ⟨u, S2, e2, p2, r2, n2⟩ := bblt1_ok G (prefix_len p1 hN) (ao_ok (R.pre p1)) r1 h
    refine ⟨u, S2, ?_, p1.trans p2, r2, fun q => ?_⟩
    · unfold ev evs evs
      rw [e1]
      exact e2
    · rw [nt_blt] at q
      obtain ⟨n, h3, h4⟩ := n2 q
      exact ⟨n, h3, Nat.le_trans p1.length_le h4⟩
  · rename_i hne
    obtain ⟨xs, hx, h⟩ := Option.bind_eq_some_iff.mp h
    obtain ⟨vs, S1, e1, p1, r1⟩ := h2 X env cenv S xs hN R hx
    rcases bblt_many h with ⟨x, rfl⟩ | ⟨x, y, rfl⟩
    · exfalso
      cases es with
      | nil => unfold bevs at hx; cases hx
      | cons e es =>
        cases es with
        | nil => exact hne e rfl
        | cons e2 es =>
          unfold bevs bevs at hx
          obtain ⟨_, _, hx⟩ := Option.bind_eq_some_iff.mp hx
          obtain ⟨_, hys, hx⟩ := Option.map_eq_some_iff.mp hx
          obtain ⟨_, _, hys⟩ := Option.bind_eq_some_iff.mp hys
          obtain ⟨_, _, rfl⟩ := Option.map_eq_some_iff.mp hys
          cases hx
    · obtain ⟨v, t, rfl, q1, w, t', rfl, q2, q3⟩ := r1
      cases q3
      obtain ⟨u, e2, r2, ho, ha, hn⟩ := bblt2_ok (Γ := Γ) (A := Pd N0 P (Ao env cenv X) z.o z.a) q1 q2 h
      refine ⟨u, S1, ?_, p1, r2, fun q => ?_⟩
      · unfold ev
        rw [e1]
        exact e2
      · rw [nt_blt, hn] at q
        cases q
theorem e_lc {own tgs : List Nat} {k : Nat} {src : List E} {cond elt : E} (h1 : ∀ e, src = [e] → EvE Γ B N0 P e) (h2 : EvsE Γ B N0 P src) (hc : EvE Γ B N0 P cond) (he : EvE Γ B N0 P elt) : EvE Γ B N0 P (.lc own tgs k src cond elt) := by
  intro X env cenv S z hN R h
  unfold bev at h
  obtain ⟨xs, hx, h⟩ := Option.bind_eq_some_iff.mp h
  obtain ⟨s, hs, h⟩ := Option.bind_eq_some_iff.mp h
  obtain ⟨vs, sr, S1, v0, e1, p1, q1, q2, q3, q4, q5⟩ := src_ok h1 h2 (k := k) hN R (Option.bind_eq_some_iff.mpr ⟨xs, hx, hs⟩)
  split at h
  · cases h
  · rename_i hcond
    simp only [Bool.or_eq_true, not_or, Bool.not_eq_true, Bool.not_eq_true'] at hcond
    obtain ⟨⟨hs1, hno⟩, htg⟩ := hcond
    have hno : noOwn env own = true := by
      cases hh : noOwn env own with
      | true => rfl
      | false => rw [hh] at hno; exact absurd rfl hno
    have htg : ∀ t ∈ tgs, t ∈ own := by
      intro t ht
      cases hh : tgs.all (own.contains ·) with
      | true => exact List.contains_iff_mem.mp (List.all_eq_true.mp hh t ht)
      | false => rw [hh] at htg; exact absurd rfl htg
    have hN1 := prefix_len p1 hN
    rw [hs1] at q2
    have R2 := (R.pre p1).more hN1 (.lst [])
    have q2' : RDs (S1 ++ [.lst []]) (Pd N0 P (Ao env cenv (fun m => X m ∨ m = S1.length)) s.2.1 false) s.1 sr.items := q2.to fun m c q e => ⟨pre_at (pre_app _ _) e, q.weak (fun w => by
      rcases w with (w | w) | w
      · exact .inl w
      · have := (List.getElem?_eq_some_iff.mp e).1
        omega
      · exact .inr w) id id⟩
    obtain ⟨S2, accv, es, g1, g2, g3, g4, g5, g6, g7⟩ := blc_ok (Dn := S1.length) hc he hno htg q4 (fun w => absurd (q5 _ w) (Nat.lt_irrefl _)) s.1 sr.items [] false (S1 ++ [.lst []]) [] (by rw [List.length_append]; omega) R2 q2'
      (held_stay q4 q3 fun n c _ e => pre_at (pre_app _ _) e) (by rw [List.getElem?_append_right (Nat.le_refl _)]; simp) rfl h
    have pp : S1 <+: S2 := by
      rw [List.prefix_iff_getElem?]
      intro i hi
      exact g3 i _ (by omega) (by rw [List.getElem?_append_left hi]; exact List.getElem?_eq_getElem hi)
    refine ⟨.loc S1.length, S2, ?_, p1.trans pp, ?_, fun _ => ⟨_, rfl, p1.length_le⟩⟩
    · unfold ev
      rw [e1]
      simp only [Res.bind_ok, q1, Res.of_some]
      exact g1
    · rw [g4, g5]
      refine ⟨S1.length, accv, rfl, new_pd hN1 (ao_ok (R.pre p1)), g6, g7.to fun m c q e => ⟨e, q.weak (fun w => ?_) id id⟩⟩
      rcases w with w | w
      · exact .inl (.inl w)
      · exact .inr w
theorem e_dc {own tgs : List Nat} {k : Nat} {src : List E} {cond elt : E} (h1 : ∀ e, src = [e] → EvE Γ B N0 P e) (h2 : EvsE Γ B N0 P src) (hc : EvE Γ B N0 P cond) (he : EvE Γ B N0 P elt) : EvE Γ B N0 P (.dc own tgs k src cond elt) := by
  intro X env cenv S z hN R h
  unfold bev at h
  obtain ⟨xs, hx, h⟩ := Option.bind_eq_some_iff.mp h
  obtain ⟨s, hs, h⟩ := Option.bind_eq_some_iff.mp h
  obtain ⟨vs, sr, S1, v0, e1, p1, q1, q2, q3, q4, q5⟩ := src_ok h1 h2 (k := k) hN R (Option.bind_eq_some_iff.mpr ⟨xs, hx, hs⟩)
  split at h
  · cases h
  · rename_i hcond
    simp only [Bool.or_eq_true, not_or, Bool.not_eq_true, Bool.not_eq_true'] at hcond
    obtain ⟨⟨hs1, hno⟩, htg⟩ := hcond
    have hno : noOwn env own = true := by
      cases hh : noOwn env own with
      | true => rfl
      | false => rw [hh] at hno; exact absurd rfl hno
    have htg : ∀ t ∈ tgs, t ∈ own := by
      intro t ht
      cases hh : tgs.all (own.contains ·) with
      | true => exact List.contains_iff_mem.mp (List.all_eq_true.mp hh t ht)
      | false => rw [hh] at htg; exact absurd rfl htg
    have hN1 := prefix_len p1 hN
    rw [hs1] at q2
    have R2 := (R.pre p1).more hN1 (.dct 0 [])
    have q2' : RDs (S1 ++ [.dct 0 []]) (Pd N0 P (Ao env cenv (fun m => X m ∨ m = S1.length)) s.2.1 false) s.1 sr.items := q2.to fun m c q e => ⟨pre_at (pre_app _ _) e, q.weak (fun w => by
      rcases w with (w | w) | w
      · exact .inl w
      · have := (List.getElem?_eq_some_iff.mp e).1
        omega
      · exact .inr w) id id⟩
    obtain ⟨S2, ep, accv, es, g1, g2, g3, g4, g5, g6, g7⟩ := bdc_ok (Dn := S1.length) hc he hno htg q4 (fun w => absurd (q5 _ w) (Nat.lt_irrefl _)) s.1 sr.items [] false (S1 ++ [.dct 0 []]) 0 [] (by rw [List.length_append]; omega) R2 q2'
      (held_stay q4 q3 fun n c _ e => pre_at (pre_app _ _) e) (by rw [List.getElem?_append_right (Nat.le_refl _)]; simp) ⟨rfl, rfl⟩ h
    have pp : S1 <+: S2 := by
      rw [List.prefix_iff_getElem?]
      intro i hi
      exact g3 i _ (by omega) (by rw [List.getElem?_append_left hi]; exact List.getElem?_eq_getElem hi)
    refine ⟨.loc S1.length, S2, ?_, p1.trans pp, ?_, fun q => nomatch q⟩
    · unfold ev
      rw [e1]
      simp only [Res.bind_ok, q1, Res.of_some]
      exact g1
    · rw [g4, g5]
      refine ⟨S1.length, ep, accv, rfl, new_pd hN1 (ao_ok (R.pre p1)), g6, g7.1, g7.2.to fun m c q e => ⟨e, q.weak (fun w => ?_) id id⟩⟩
      rcases w with w | w
      · exact .inl (.inl w)
      · exact .inr w
theorem e_none {e : E} (h : ∀ env, bev B env e = none) : EvE Γ B N0 P e := by
  intro X env cenv S z hN R hx
  rw [h] at hx
  cases hx
mutual
theorem e_ok (G : BG B Γ) : ∀ e : E, EvE Γ B N0 P e
  | .nop => e_nop
  | .var i => e_var
  | .cst v => e_cst
  | .bin op a b => e_bin G (e_ok G a) (e_ok G b)
  | .neg a => e_neg (e_ok G a)
  | .inv a => e_inv G (e_ok G a)
  | .cmp op a b => e_cmp G (e_ok G a) (e_ok G b)
  | .isN a => e_isN (e_ok G a)
  | .notN a => e_notN (e_ok G a)
  | .chain _ _ _ _ _ => e_none fun _ => by unfold bev; rfl
  | .and a b => e_and (e_ok G a) (e_ok G b)
  | .or a b => e_or (e_ok G a) (e_ok G b)
  | .not a => e_not (e_ok G a)
  | .ite c a b => e_ite (e_ok G c) (e_ok G a) (e_ok G b)
  | .tup es => e_tup (es_ok G es).1
  | .lst es => e_lst (es_ok G es).1
  | .dct _ _ => e_none fun _ => by unfold bev; rfl
  | .sub a i => e_sub G (e_ok G a) (e_ok G i)
  | .slc a lo hi => e_slc (e_ok G a) (e_ok G lo) (e_ok G hi)
  | .attr a f => e_attr (e_ok G a)
  | .call f es => e_call G (es_ok G es).1
  | .make c es => e_make G (es_ok G es).1
  | .meth a m es => e_meth G (e_ok G a) (es_ok G es).1
  | .blt b es => e_blt G (es_ok G es).2 (es_ok G es).1
  | .isi a t => e_isi (e_ok G a)
  | .gsub _ a => e_gsub (e_ok G a)
  | .prp a _ => e_prp G (e_ok G a)
  | .dcs _ => e_dcs
  | .exq _ _ => e_none fun _ => by unfold bev; rfl
  | .bm _ _ _ => e_none fun _ => by unfold bev; rfl
  | .lc own tg k src cond elt => e_lc (es_ok G src).2 (es_ok G src).1 (e_ok G cond) (e_ok G elt)
  | .dc own tg k src key val => e_dc (es_ok G src).2 (es_ok G src).1 (e_ok G key) (e_ok G val)
theorem es_ok (G : BG B Γ) : ∀ es : List E, EvsE Γ B N0 P es ∧ ∀ e, es = [e] → EvE Γ B N0 P e
  | [] => ⟨evs_nil, fun e h => by cases h⟩
  | e :: es => ⟨evs_cons (e_ok G e) (es_ok G es).1, fun e' h => by
    have h1 := e_ok G e
    cases h
    exact h1⟩
end
end
end C
end
section
set_option Elab.async false
set_option linter.all false
set_option maxRecDepth 100000
set_option maxHeartbeats 2000000
/-! B9: statements on trees. -/
namespace C
open PySem

/-- nothing is temporary between statements -/
abbrev NoX : Nat → Prop := fun _ => False
section
variable {N0 : Nat} {P X A A' : Nat → Prop} {S S' S1 S2 : Store} {env env1 env2 : BEnv} {cenv cenv1 cenv2 : Env} {o a o' a' : Bool} {d : D} {v w : Val} {n : Nat} {Γ : Cx} {B : BCx} {x y z : BV}
/-- behind a statement -/
structure St (B : BCx) (N0 : Nat) (P : Nat → Prop) (S : Store) (env : BEnv) (cenv : Env) (S1 : Store) (env1 : BEnv) (cenv1 : Env) : Prop where
  er : ER' N0 P NoX S1 env1 cenv1
  len : S.length ≤ S1.length
  keep : ∀ n c, ¬ Ao env cenv NoX n → S[n]? = some c → S1[n]? = some c
  ao : ∀ n, Ao env1 cenv1 NoX n → Ao env cenv NoX n ∨ S.length ≤ n
  fix : B.fix0 = true → cenv1[0]? = cenv[0]?
theorem St.trans (s : St B N0 P S env cenv S1 env1 cenv1) (t : St B N0 P S1 env1 cenv1 S2 env2 cenv2) : St B N0 P S env cenv S2 env2 cenv2 := by
  refine ⟨t.er, Nat.le_trans s.len t.len, fun n c h e => t.keep n c (fun z => ?_) (s.keep n c h e), fun n h => ?_, fun h => (t.fix h).trans (s.fix h)⟩
  · rcases s.ao n z with z | z
    · exact h z
    · have := (List.getElem?_eq_some_iff.mp e).1
      omega
  · rcases t.ao n h with z | z
    · exact s.ao n z
    · exact .inr (Nat.le_trans s.len z)
theorem St.pre (R : ER' N0 P NoX S env cenv) (p : S <+: S1) : St B N0 P S env cenv S1 env cenv := ⟨R.pre p, p.length_le, fun _ _ _ e => pre_at p e, fun _ h => .inl h, fun _ => rfl⟩
def FlE (B : BCx) (N0 : Nat) (P : Nat → Prop) (S : Store) (env : BEnv) (cenv : Env) (f : BFl) (r : Fl) : Prop := match f with
  | .nx env1 => ∃ cenv1 S1, r = .nx cenv1 S1 ∧ St B N0 P S env cenv S1 env1 cenv1
  | .bk env1 => ∃ cenv1 S1, r = .bk cenv1 S1 ∧ St B N0 P S env cenv S1 env1 cenv1
  | .rt d o => ∃ v S1, r = .rt v S1 ∧ S.length ≤ S1.length ∧ (∀ n c, ¬ Ao env cenv NoX n → S[n]? = some c → S1[n]? = some c) ∧ RD S1 (fun n => n < N0 → o = true ∧ P n) d v
theorem FlE.after (s : St B N0 P S env cenv S1 env1 cenv1) {f : BFl} {r : Fl} (h : FlE B N0 P S1 env1 cenv1 f r) : FlE B N0 P S env cenv f r := by
  cases f with
  | nx env2 => obtain ⟨c2, S2, e, t⟩ := h; exact ⟨c2, S2, e, s.trans t⟩
  | bk env2 => obtain ⟨c2, S2, e, t⟩ := h; exact ⟨c2, S2, e, s.trans t⟩
  | rt d o =>
    obtain ⟨v, S2, e, hl, hk, r⟩ := h
    refine ⟨v, S2, e, Nat.le_trans s.len hl, fun n c hn e => hk n c (fun z => ?_) (s.keep n c hn e), r⟩
    rcases s.ao n z with z | z
    · exact hn z
    · have := (List.getElem?_eq_some_iff.mp e).1
      omega
def StE (Γ : Cx) (B : BCx) (N0 : Nat) (P : Nat → Prop) (s : C.S) : Prop := ∀ (env : BEnv) (cenv : Env) (S : Store) (f : BFl), N0 ≤ S.length → ER' N0 P NoX S env cenv → bex B s env = some f → FlE B N0 P S env cenv f (ex Γ s cenv S)
def StsE (Γ : Cx) (B : BCx) (N0 : Nat) (P : Nat → Prop) (ss : List C.S) : Prop := ∀ (env : BEnv) (cenv : Env) (S : Store) (f : BFl), N0 ≤ S.length → ER' N0 P NoX S env cenv → bexs B ss env = some f → FlE B N0 P S env cenv f (exs Γ ss cenv S)

/-! ### what is owned -/
theorem disown_get : ∀ {env : BEnv} {i : Nat}, (disown env)[i]? = (env[i]?).map fun b => match b with | some (.own d o) => some (.val d o) | b => b
  | [], i => by simp [disown]
  | some (.own d o) :: r, 0 => rfl
  | some (.own d o) :: r, i + 1 => by
    show (disown r)[i]? = (r[i]?).map _
    exact disown_get
  | some (.val d o) :: r, 0 => rfl
  | some (.val d o) :: r, i + 1 => by
    show (disown r)[i]? = (r[i]?).map _
    exact disown_get
  | none :: r, 0 => rfl
  | none :: r, i + 1 => by
    show (disown r)[i]? = (r[i]?).map _
    exact disown_get
theorem ao_disown : ¬ Ao (disown env) cenv NoX n := by
  rintro (h | ⟨i, d, o, h, _⟩)
  · exact h
  · rw [disown_get] at h
    cases e : env[i]? with
    | none => rw [e] at h; cases h
    | some b =>
      rw [e] at h
      cases b with
      | none => cases h
      | some b => cases b <;> cases h
theorem ER'.disown (R : ER' N0 P NoX S env cenv) : ER' N0 P NoX S (disown env) cenv := by
  have len : (C.disown env).length = env.length := by
    have : ∀ env : BEnv, (C.disown env).length = env.length := by
      intro env
      induction env with
      | nil => rfl
      | cons b r ih =>
        cases b with
        | none => simp [C.disown, ih]
        | some b => cases b <;> simp [C.disown, ih]
    exact this env
  refine ⟨len.trans R.len, fun i d o h => ?_, fun i d o h => ?_, fun i j n d e o p h => ?_, fun n h => h.elim⟩
  · rw [disown_get] at h
    cases e : env[i]? with
    | none => rw [e] at h; cases h
    | some b =>
      rw [e] at h
      cases b with
      | none => cases h
      | some b =>
        cases b with
        | val d' o' =>
          cases h
          obtain ⟨v, h1, h2⟩ := R.val _ _ _ e
          exact ⟨v, h1, h2.weak (List.prefix_refl _) (fun _ _ q => absurd q ao_disown) id id⟩
        | own d' o' =>
          cases h
          obtain ⟨n, h1, h2, h3⟩ := R.own _ _ _ e
          exact ⟨.loc n, h1, h3.rd ⟨fun z => absurd z (by omega), fun q => absurd q ao_disown⟩ fun m q => q.weak (fun q => absurd q ao_disown) id id⟩
  · rw [disown_get] at h
    cases e : env[i]? with
    | none => rw [e] at h; cases h
    | some b =>
      rw [e] at h
      cases b with
      | none => cases h
      | some b => cases b <;> cases h
  · rw [disown_get] at h
    cases e : env[i]? with
    | none => rw [e] at h; cases h
    | some b =>
      rw [e] at h
      cases b with
      | none => cases h
      | some b => cases b <;> cases h
/-- a name takes a new thing -/
theorem ER'.seto (R : ER' N0 P NoX S env cenv) (hN : N0 ≤ S.length) (p : S <+: S1) {i : Nat} (hn : S.length ≤ n) (r : RD S1 (Pd N0 P (Ao env cenv NoX) o false) d (.loc n)) :
    ER' N0 P NoX S1 (env.set i (some (.own d o))) (cenv.set i (some (.loc n))) ∧ ∀ m, Ao (env.set i (some (.own d o))) (cenv.set i (some (.loc n))) NoX m → Ao env cenv NoX m ∨ m = n := by
  have hA : ∀ m, Ao (env.set i (some (.own d o))) (cenv.set i (some (.loc n))) NoX m → Ao env cenv NoX m ∨ m = n := by
    rintro m (h | ⟨j, d', o', h1, h2⟩)
    · exact h.elim
    · by_cases e : i = j
      · subst e
        by_cases hl : i < cenv.length
        · rw [List.getElem?_set_self hl] at h2
          cases h2
          exact .inr rfl
        · rw [List.getElem?_eq_none (by simpa using hl)] at h2
          cases h2
      · rw [List.getElem?_set_ne e] at h1 h2
        exact .inl (.inr ⟨j, d', o', h1, h2⟩)
  have get : ∀ {j : Nat} {b : BS}, (env.set i (some (.own d o)))[j]? = some (some b) → (j = i ∧ b = .own d o ∧ (cenv.set i (some (.loc n)))[j]? = some (some (.loc n))) ∨ (j ≠ i ∧ env[j]? = some (some b) ∧ (cenv.set i (some (.loc n)))[j]? = cenv[j]?) := by
    intro j b h
    by_cases e : i = j
    · subst e
      by_cases hl : i < env.length
      · rw [List.getElem?_set_self hl] at h
        cases h
        exact .inl ⟨rfl, rfl, List.getElem?_set_self (by rw [← R.len]; exact hl)⟩
      · rw [List.getElem?_eq_none (by simpa using hl)] at h
        cases h
    · rw [List.getElem?_set_ne e] at h
      exact .inr ⟨Ne.symm e, h, List.getElem?_set_ne e⟩
  refine ⟨⟨by simp [R.len], fun j d' o' h => ?_, fun j d' o' h => ?_, fun j k m d1 d2 o1 o2 h1 h2 h3 h4 => ?_, fun m h => h.elim⟩, hA⟩
  · rcases get h with ⟨_, e, _⟩ | ⟨_, h1, h2⟩
    · cases e
    · obtain ⟨w, q1, q2⟩ := R.val j d' o' h1
      exact ⟨w, h2.trans q1, q2.to fun m c q e => ⟨pre_at p e, ⟨q.1, fun z => by
        rcases hA m z with z | z
        · exact q.2 z
        · have := (List.getElem?_eq_some_iff.mp e).1
          omega⟩⟩⟩
  · rcases get h with ⟨rfl, e, h2⟩ | ⟨_, h1, h2⟩
    · cases e
      have h0 := r
      refine ⟨n, h2, Nat.le_trans hN hn, ?_⟩
      have fin : ∀ {ds : List D} {vs : List Val}, sizeOf ds < sizeOf d → RDs S1 (Pd N0 P (Ao env cenv NoX) o false) ds vs → RDs S1 (Pd N0 P (Ao (env.set j (some (.own d o))) (cenv.set j (some (.loc n))) NoX) o false) ds vs := by
        intro ds vs hs q
        exact (RDs.off h0 hs q).to fun m c q e => ⟨e, ⟨q.1.1, fun z => by
          rcases hA m z with z | z
          · exact q.1.2 z
          · exact absurd z q.2⟩⟩
      cases d with
      | lst ds => obtain ⟨m, vs, e, _, e1, q⟩ := r; cases e; exact ⟨vs, e1, fin (by simp only [D.lst.sizeOf_spec]; omega) q⟩
      | dct ks ds => obtain ⟨m, ep, kvs, e, _, e1, hk, q⟩ := r; cases e; exact ⟨ep, kvs, e1, hk, fin (by simp only [D.dct.sizeOf_spec]; omega) q⟩
      | obj c fs ds => obtain ⟨m, l, e, _, e1, hk, q⟩ := r; cases e; exact ⟨l, e1, hk, fin (by simp only [D.obj.sizeOf_spec]; omega) q⟩
      | tup ds => obtain ⟨vs, e, _⟩ := r; cases e
      | ro ds => obtain ⟨vs, e, _⟩ := r; cases e
      | non => cases (show Val.loc n = .non from r)
      | bl b => cases (show Val.loc n = .bl b from r)
      | int b => cases (show Val.loc n = .int b from r)
      | str b => cases (show Val.loc n = .str b from r)
    · obtain ⟨m, q1, q2, q3⟩ := R.own j d' o' h1
      refine ⟨m, h2.trans q1, q2, q3.to (fun c q => pre_at p q) fun m c q e => ⟨pre_at p e, ⟨q.1, fun z => ?_⟩⟩⟩
      rcases hA m z with z | z
      · exact q.2 z
      · have := (List.getElem?_eq_some_iff.mp e).1
        omega
  · rcases get h1 with ⟨rfl, _, g1⟩ | ⟨n1, k1, g1⟩
    · rcases get h2 with ⟨rfl, _, g2⟩ | ⟨n2, k2, g2⟩
      · rfl
      · exfalso
        rw [g1] at h3
        cases h3
        rw [g2] at h4
        obtain ⟨m', q1, _, q3⟩ := R.own k d2 o2 k2
        rw [h4] at q1
        cases q1
        have := q3.lt
        omega
    · rcases get h2 with ⟨rfl, _, g2⟩ | ⟨n2, k2, g2⟩
      · exfalso
        rw [g2] at h4
        cases h4
        rw [g1] at h3
        obtain ⟨m', q1, _, q3⟩ := R.own j d1 o1 k1
        rw [h3] at q1
        cases q1
        have := q3.lt
        omega
      · exact R.inj j k m d1 d2 o1 o2 k1 k2 (g1.symm.trans h3) (g2.symm.trans h4)
end
end C
end
section
set_option Elab.async false
set_option linter.all false
set_option maxRecDepth 100000
set_option maxHeartbeats 2000000
/-! B10: every statement on trees, every def. -/
namespace C
open PySem

section
variable {N0 : Nat} {P X A A' : Nat → Prop} {S S' S1 S2 : Store} {env env1 env2 : BEnv} {cenv cenv1 cenv2 : Env} {o a o' a' : Bool} {d d' : D} {v w : Val} {n : Nat} {Γ : Cx} {B : BCx} {x y z : BV}
/-- a cell of an owned name is rewritten -/
theorem St.own (R : ER' N0 P NoX S env cenv) {i : Nat} {c : Cell} (hi : env[i]? = some (some (.own d o))) (hc : cenv[i]? = some (some (.loc n))) (h : OwnAt (S.set n c) (Pd N0 P (Ao env cenv NoX) o' false) d' n) :
    St B N0 P S env cenv (S.set n c) (env.set i (some (.own d' o'))) cenv := by
  have hown : Ao env cenv NoX n := .inr ⟨i, d, o, hi, hc⟩
  have hA : ∀ m, Ao (env.set i (some (.own d' o'))) cenv NoX m → Ao env cenv NoX m := by
    rintro m (h | ⟨j, e, p, h1, h2⟩)
    · exact h.elim
    · by_cases ej : i = j
      · subst ej
        rw [hc] at h2
        cases h2
        exact hown
      · rw [List.getElem?_set_ne ej] at h1
        exact .inr ⟨j, e, p, h1, h2⟩
  have off : ∀ {m : Nat} {c' : Cell}, m ≠ n → S[m]? = some c' → (S.set n c)[m]? = some c' := fun {m c'} hm e => by rw [List.getElem?_set_ne (Ne.symm hm)]; exact e
  have pd : ∀ {m : Nat} {o : Bool}, Pd N0 P (Ao env cenv NoX) o false m → m ≠ n := fun {m o} q z => by
    have := q.2 (by rw [z]; exact hown)
    cases this
  have il : i < env.length := (List.getElem?_eq_some_iff.mp hi).1
  have get : ∀ {j : Nat} {b : BS}, (env.set i (some (.own d' o')))[j]? = some (some b) → (j = i ∧ b = .own d' o') ∨ (j ≠ i ∧ env[j]? = some (some b)) := by
    intro j b h
    by_cases e : i = j
    · subst e
      rw [List.getElem?_set_self il] at h
      cases h
      exact .inl ⟨rfl, rfl⟩
    · rw [List.getElem?_set_ne e] at h
      exact .inr ⟨Ne.symm e, h⟩
  have ownOf : ∀ {j : Nat} {e : D} {p : Bool}, (env.set i (some (.own d' o')))[j]? = some (some (.own e p)) → ∃ e' p', env[j]? = some (some (.own e' p')) := by
    intro j e p h
    rcases get h with ⟨rfl, _⟩ | ⟨_, h⟩
    · exact ⟨d, o, hi⟩
    · exact ⟨e, p, h⟩
  refine ⟨⟨by simp [R.len], fun j e p h1 => ?_, fun j e p h1 => ?_, fun j k m d1 d2 o1 o2 h1 h2 h3 h4 => ?_, fun m h => h.elim⟩, by simp, fun m c' hm e => off (fun z => hm (by rw [z]; exact hown)) e, fun m h => .inl (hA m h), fun _ => rfl⟩
  · rcases get h1 with ⟨_, z⟩ | ⟨_, h1⟩
    · cases z
    · obtain ⟨w, q1, q2⟩ := R.val j e p h1
      exact ⟨w, q1, q2.to fun m c' q e => ⟨off (pd q) e, q.weak (hA m) id id⟩⟩
  · rcases get h1 with ⟨rfl, z⟩ | ⟨hj, h1⟩
    · cases z
      obtain ⟨m, q1, q2, _⟩ := R.own j d o hi
      rw [hc] at q1
      cases q1
      exact ⟨n, hc, q2, h.to (fun _ q => q) fun m c' q e => ⟨e, q.weak (hA m) id id⟩⟩
    · obtain ⟨m, q1, q2, q3⟩ := R.own j e p h1
      have hmn : m ≠ n := fun z => hj (R.inj j i n e d p o h1 hi (by rw [← z]; exact q1) hc)
      exact ⟨m, q1, q2, q3.to (fun c' q => off hmn q) fun m c' q e => ⟨off (pd q) e, q.weak (hA m) id id⟩⟩
  · obtain ⟨e1, p1, g1⟩ := ownOf h1
    obtain ⟨e2, p2, g2⟩ := ownOf h2
    exact R.inj j k m e1 e2 p1 p2 g1 g2 h3 h4
theorem bown_some {i : Nat} {f : D → Bool → Option (D × Bool)} {r : BFl} (h : bown env i f = some r) : ∃ d o p, env[i]? = some (some (.own d o)) ∧ f d o = some p ∧ r = .nx (env.set i (some (.own p.1 p.2))) := by
  unfold bown at h
  split at h
  · rename_i d o e
    obtain ⟨p, hp, rfl⟩ := Option.map_eq_some_iff.mp h
    exact ⟨d, o, p, e, hp, rfl⟩
  · cases h
theorem s0_asg {i : Nat} {e : E} (h1 : EvE Γ B N0 P e) : StE Γ B N0 P (.asg i e) := by
  intro env cenv S f hN R h
  unfold bex at h
  split at h
  · cases h
  · rename_i hf
    obtain ⟨x, hx, rfl⟩ := Option.map_eq_some_iff.mp h
    obtain ⟨v, S1, e1, p1, r1, n1⟩ := h1 _ env cenv S x hN R hx
    have e2 : ex Γ (.asg i e) cenv S = .nx (cenv.set i (some v)) S1 := by
      unfold ex
      rw [e1]
      rfl
    have hfix : B.fix0 = true → (cenv.set i (some v))[0]? = cenv[0]? := fun q => by
      rw [q] at hf
      simp only [Bool.true_and, decide_eq_true_eq] at hf
      exact List.getElem?_set_ne hf
    rw [e2]
    unfold bstore
    split
    · rename_i hc
      simp only [Bool.and_eq_true, Bool.not_eq_true', Bool.not_eq_eq_eq_not, Bool.not_true] at hc
      obtain ⟨n, rfl, hn⟩ := n1 (of_decide_eq_true hc.1)
      rw [hc.2] at r1
      obtain ⟨R1, hA⟩ := R.seto hN p1 hn r1
      refine ⟨_, S1, rfl, R1, p1.length_le, fun _ _ _ e => pre_at p1 e, fun m hm => ?_, hfix⟩
      rcases hA m hm with z | z
      · exact .inl z
      · exact .inr (by rw [z]; exact hn)
    · by_cases ha : x.a = true
      · rw [if_pos ha]
        have R1 := (R.pre p1).disown
        have r2 : RD S1 (Pd N0 P (Ao (disown env) cenv NoX) x.o false) x.d v := r1.to fun m c q e => ⟨e, ⟨q.1, fun z => absurd z ao_disown⟩⟩
        refine ⟨_, S1, rfl, R1.setv r2, p1.length_le, fun _ _ _ e => pre_at p1 e, fun m hm => absurd (ao_set (fun _ _ z => by cases z) hm) ao_disown, hfix⟩
      · rw [if_neg ha]
        rw [show x.a = false by simpa using ha] at r1
        exact ⟨_, S1, rfl, (R.pre p1).setv r1, p1.length_le, fun _ _ _ e => pre_at p1 e, fun m hm => .inl (ao_set (fun _ _ z => by cases z) hm), hfix⟩
theorem ao_off {is : List Nat} (h : ∀ j, j ∉ is → env1[j]? = env[j]? ∧ cenv1[j]? = cenv[j]?) : True := trivial
/-- targets: nothing new is owned -/
theorem bsetAll_ao : ∀ {is : List Nat} {ds : List D} {vs : List Val} {env : BEnv} {cenv : Env}, bsetAll is ds o env = some env1 → setAll is vs cenv = some cenv1 → ∀ m, Ao env1 cenv1 X m → Ao env cenv X m
  | [], [], [], env, cenv, h, h', m, q => by cases h; cases h'; exact q
  | [], [], _ :: _, _, _, _, h', _, _ => by cases h'
  | [], _ :: _, _, _, _, h, _, _, _ => by cases h
  | _ :: _, [], _, _, _, h, _, _, _ => by cases h
  | _ :: _, _ :: _, [], _, _, _, h', _, _ => by cases h'
  | i :: is, d :: ds, v :: vs, env, cenv, h, h', m, q => by
    have h : bsetAll is ds o (env.set i (some (.val d (o && !d.flat)))) = some env1 := h
    have h' : setAll is vs (cenv.set i (some v)) = some cenv1 := h'
    exact ao_set (fun _ _ z => by cases z) (bsetAll_ao h h' m q)
theorem bsetN_ao {is : List Nat} (h : bsetN is d o env = some env1) (h' : setN is v cenv = some cenv1) (m : Nat) (q : Ao env1 cenv1 X m) : Ao env cenv X m := by
  unfold bsetN at h
  split at h
  · rename_i i
    cases h
    have e : cenv1 = cenv.set i (some v) := (Option.some.inj h').symm
    subst e
    exact ao_set (fun _ _ z => by cases z) q
  · rename_i hn
    split at h
    · rename_i ds
      unfold setN at h'
      split at h'
      · rename_i i; exact absurd rfl (hn i)
      · split at h'
        · rename_i vs
          exact bsetAll_ao h h' m q
        · cases h'
    · cases h
theorem fix_of {is : List Nat} (hf : ¬ (B.fix0 && is.contains 0) = true) (same : ∀ j, j ∉ is → env1[j]? = env[j]? ∧ cenv1[j]? = cenv[j]?) (q : B.fix0 = true) : cenv1[0]? = cenv[0]? := by
  rw [q] at hf
  simp only [Bool.true_and, List.contains_iff_mem] at hf
  exact (same 0 hf).2
theorem s0_asgT {is : List Nat} {e : E} (h1 : EvE Γ B N0 P e) : StE Γ B N0 P (.asgT is e) := by
  intro env cenv S f hN R h
  unfold bex at h
  split at h
  · cases h
  · rename_i hf
    obtain ⟨x, hx, h⟩ := Option.bind_eq_some_iff.mp h
    split at h
    · cases h
    · rename_i ha
      obtain ⟨env1, h2, rfl⟩ := Option.map_eq_some_iff.mp h
      obtain ⟨v, S1, e1, p1, r1, n1⟩ := h1 _ env cenv S x hN R hx
      rw [show x.a = false by simpa using ha] at r1
      obtain ⟨cenv1, h3, R1, same⟩ := bsetN_ok (R.pre p1) r1 h2
      refine ⟨cenv1, S1, ?_, R1, p1.length_le, fun _ _ _ e => pre_at p1 e, fun m q => .inl (bsetN_ao h2 h3 m q), fix_of hf same⟩
      unfold ex
      rw [e1]
      simp only [Res.fl_ok, h3, Res.of_some]
theorem s0_expr {e : E} (h1 : EvE Γ B N0 P e) (h2 : ∀ i y, e = .bm .append (.var i) [y] → EvE Γ B N0 P y) : StE Γ B N0 P (.expr e) := by
  intro env cenv S f hN R h
  unfold bex at h
  split at h
  · rename_i i y
    obtain ⟨x, hx, h⟩ := Option.bind_eq_some_iff.mp h
    obtain ⟨d, o, p, hi, hp, rfl⟩ := bown_some h
    obtain ⟨n, hc, hn0, ow⟩ := R.own i d o hi
    unfold bapp at hp
    split at hp
    · rename_i ds
      split at hp
      · rename_i hcond
        cases hp
        obtain ⟨v, S1, e1, p1, r1, _⟩ := h2 i y rfl _ env cenv S x hN R hx
        rw [hcond.1] at r1
        obtain ⟨vs, q1, q2⟩ := ow
        have R1 := R.pre p1
        have q1' := pre_at p1 q1
        have hl : n < S1.length := (List.getElem?_eq_some_iff.mp q1').1
        have hpd : ∀ {o : Bool} {m : Nat}, Pd N0 P (Ao env cenv NoX) o false m → m ≠ n := fun {o m} q z => by
          have := q.2 (by rw [z]; exact .inr ⟨i, _, _, hi, hc⟩)
          cases this
        have off : ∀ {m : Nat} {c : Cell}, m ≠ n → S1[m]? = some c → (S1.set n (.lst (vs ++ [v])))[m]? = some c := fun {m c} hm e => by rw [List.getElem?_set_ne (Ne.symm hm)]; exact e
        have st : St B N0 P S1 env cenv (S1.set n (.lst (vs ++ [v]))) (env.set i (some (.own (.lst (ds ++ [x.d])) (o || x.o)))) cenv := by
          refine St.own R1 hi hc ⟨vs ++ [v], List.getElem?_set_self hl, RDs.append ?_ ⟨v, [], rfl, ?_, rfl⟩⟩
          · exact (q2.pre p1).to fun m c q e => ⟨off (hpd q) e, q.weak id (by simp +contextual) id⟩
          · exact r1.to fun m c q e => ⟨off (hpd q) e, q.weak id (by simp +contextual) id⟩
        refine ⟨cenv, _, ?_, (St.pre R p1).trans st⟩
        unfold ex
        unfold ev
        have e0 : ev Γ (.var i) cenv S = .ok (.loc n) S := by unfold ev; simp only [hc]
        rw [e0]
        simp only [Res.bind_ok]
        have e3 : bmTy .append (.loc n) S = true := by
          show (lstAt S n).isSome = true
          unfold lstAt
          rw [q1]
          rfl
        rw [if_pos e3]
        have e4 : evs Γ [y] cenv S = .ok [v] S1 := by
          unfold evs evs
          rw [e1]
          rfl
        rw [e4]
        simp only [Res.bind_ok]
        have e5 : bmV .append (.loc n) [v] S1 = .ok .non (S1.set n (.lst (vs ++ [v]))) := by
          show appendV (.loc n) [v] S1 = _
          unfold appendV
          simp only [q1']
          rw [if_pos (by rw [q2.length]; exact hcond.2)]
        rw [e5]
        rfl
      · cases hp
    · cases hp
  · obtain ⟨x, hx, rfl⟩ := Option.map_eq_some_iff.mp h
    obtain ⟨v, S1, e1, p1, r1, n1⟩ := h1 _ env cenv S x hN R hx
    refine ⟨cenv, S1, ?_, St.pre R p1⟩
    unfold ex
    rw [e1]
    rfl
theorem s0_setI {ob j e : E} (h1 : EvE Γ B N0 P e) (h2 : EvE Γ B N0 P j) : StE Γ B N0 P (.setI ob j e) := by
  intro env cenv S f hN R h
  unfold bex at h
  split at h
  · rename_i i
    obtain ⟨x, hx, h⟩ := Option.bind_eq_some_iff.mp h
    obtain ⟨y, hy, h⟩ := Option.bind_eq_some_iff.mp h
    obtain ⟨d, o, p, hi, hp, rfl⟩ := bown_some h
    obtain ⟨n, hc, hn0, ow⟩ := R.own i d o hi
    unfold bsetI at hp
    split at hp
    · rename_i ds k hk
      split at hp
      · rename_i hcond
        cases hp
        obtain ⟨v, S1, e1, p1, r1, _⟩ := h1 _ env cenv S x hN R hx
        obtain ⟨w, S2, e2, p2, r2, _⟩ := h2 _ env cenv S1 y (prefix_len p1 hN) (R.pre p1) hy
        rw [hk] at r2
        cases (show w = .int k from r2)
        rw [hcond.1] at r1
        obtain ⟨vs, q1, q2⟩ := ow
        have p12 := p1.trans p2
        have R1 := R.pre p12
        have q1' := pre_at p12 q1
        have hl : n < S2.length := (List.getElem?_eq_some_iff.mp q1').1
        have hpd : ∀ {o : Bool} {m : Nat}, Pd N0 P (Ao env cenv NoX) o false m → m ≠ n := fun {o m} q z => by
          have := q.2 (by rw [z]; exact .inr ⟨i, _, _, hi, hc⟩)
          cases this
        have off : ∀ {m : Nat} {c : Cell}, m ≠ n → S2[m]? = some c → (S2.set n (.lst (vs.set k.toNat v)))[m]? = some c := fun {m c} hm e => by rw [List.getElem?_set_ne (Ne.symm hm)]; exact e
        have st : St B N0 P S2 env cenv (S2.set n (.lst (vs.set k.toNat v))) (env.set i (some (.own (.lst (ds.set k.toNat x.d)) (o || x.o)))) cenv := by
          refine St.own R1 hi hc ⟨vs.set k.toNat v, List.getElem?_set_self hl, RDs.set ?_ _ ?_⟩
          · exact (r1.pre p2).to fun m c q e => ⟨off (hpd q) e, q.weak id (by simp +contextual) id⟩
          · exact (q2.pre p12).to fun m c q e => ⟨off (hpd q) e, q.weak id (by simp +contextual) id⟩
        refine ⟨cenv, _, ?_, (St.pre R p12).trans st⟩
        unfold ex
        rw [e1]
        simp only [Res.fl_ok]
        have e0 : ev Γ (.var i) cenv S1 = .ok (.loc n) S1 := by unfold ev; simp only [hc]
        rw [e0]
        simp only [Res.fl_ok, e2]
        have e5 : setIV Γ (.loc n) (.int k) v S2 = .ok () (S2.set n (.lst (vs.set k.toNat v))) := by
          unfold setIV
          simp only [q1']
          rw [if_pos (by rw [q2.length]; simp [hcond.2.1, hcond.2.2])]
        rw [e5]
        rfl
      · cases hp
    · cases hp
  · cases h
theorem putF_ok {Q : Nat → Prop} {f : Nat} (q : RD S Q d v) : ∀ {fs : List Nat} {ds : List D} {l : List (Nat × Val)}, l.map (·.1) = fs → RDs S Q ds (l.map (·.2)) → (C.put f v l).map (·.1) = (bputF f d fs ds).1 ∧ RDs S Q (bputF f d fs ds).2 ((C.put f v l).map (·.2))
  | [], ds, [], _, r => by
    cases ds with
    | nil => exact ⟨rfl, v, [], rfl, q, rfl⟩
    | cons d ds => obtain ⟨_, _, e, _⟩ := r; cases e
  | [], ds, _ :: _, h, _ => by cases h
  | g :: fs, ds, [], h, _ => by cases h
  | g :: fs, ds, (g', u) :: l, h, r => by
    simp only [List.map_cons, List.cons.injEq] at h
    obtain ⟨rfl, h⟩ := h
    cases ds with
    | nil => cases r
    | cons x ds =>
      obtain ⟨u', t, e, r1, r2⟩ := r
      simp only [List.map_cons, List.cons.injEq] at e
      obtain ⟨rfl, e⟩ := e
      subst e
      by_cases hg : g' = f
      · simp only [bputF, C.put, if_pos hg]
        exact ⟨by simp [h], v, _, rfl, q, r2⟩
      · simp only [bputF, C.put, if_neg hg]
        obtain ⟨h1, h2⟩ := putF_ok (f := f) q h r2
        exact ⟨by simp [h1], u, _, rfl, r1, h2⟩
theorem s0_setF (G : BG B Γ) {ob e : E} {f : Nat} (h1 : EvE Γ B N0 P e) : StE Γ B N0 P (.setF ob f e) := by
  intro env cenv S r hN R h
  unfold bex at h
  split at h
  · rename_i i
    obtain ⟨x, hx, h⟩ := Option.bind_eq_some_iff.mp h
    obtain ⟨d, o, p, hi, hp, rfl⟩ := bown_some h
    obtain ⟨n, hc, hn0, ow⟩ := R.own i d o hi
    unfold bsetF at hp
    split at hp
    · rename_i c fs ds
      obtain ⟨ci, hci, hp⟩ := Option.bind_eq_some_iff.mp hp
      split at hp
      · rename_i hcond
        cases hp
        obtain ⟨v, S1, e1, p1, r1, _⟩ := h1 _ env cenv S x hN R hx
        rw [hcond.1] at r1
        obtain ⟨l, q1, hfs, q2⟩ := ow
        have R1 := R.pre p1
        have q1' := pre_at p1 q1
        have hl : n < S1.length := (List.getElem?_eq_some_iff.mp q1').1
        have hpd : ∀ {o : Bool} {m : Nat}, Pd N0 P (Ao env cenv NoX) o false m → m ≠ n := fun {o m} q z => by
          have := q.2 (by rw [z]; exact .inr ⟨i, _, _, hi, hc⟩)
          cases this
        have off : ∀ {m : Nat} {c' : Cell}, m ≠ n → S1[m]? = some c' → (S1.set n (.obj c (C.put f v l)))[m]? = some c' := fun {m c'} hm e => by rw [List.getElem?_set_ne (Ne.symm hm)]; exact e
        have rv : RD (S1.set n (.obj c (C.put f v l))) (Pd N0 P (Ao env cenv NoX) (o || x.o) false) x.d v := r1.to fun m c q e => ⟨off (hpd q) e, q.weak id (by simp +contextual) id⟩
        have rl : RDs (S1.set n (.obj c (C.put f v l))) (Pd N0 P (Ao env cenv NoX) (o || x.o) false) ds (l.map (·.2)) := (q2.pre p1).to fun m c q e => ⟨off (hpd q) e, q.weak id (by simp +contextual) id⟩
        obtain ⟨g1, g2⟩ := putF_ok (f := f) rv hfs rl
        have st : St B N0 P S1 env cenv (S1.set n (.obj c (C.put f v l))) (env.set i (some (.own (.obj c (bputF f x.d fs ds).1 (bputF f x.d fs ds).2) (o || x.o)))) cenv :=
          St.own R1 hi hc ⟨C.put f v l, List.getElem?_set_self hl, g1, g2⟩
        refine ⟨cenv, _, ?_, (St.pre R p1).trans st⟩
        unfold ex
        rw [e1]
        simp only [Res.fl_ok]
        have e0 : ev Γ (.var i) cenv S1 = .ok (.loc n) S1 := by unfold ev; simp only [hc]
        rw [e0]
        simp only [Res.fl_ok]
        have e5 : setFV Γ (.loc n) f v S1 = some (S1.set n (.obj c (C.put f v l))) := by
          unfold setFV objAt
          simp only [q1']
          rw [← G.T, hci]
          simp only
          have hll : l.length < 900 := by rw [← List.length_map (f := (·.1)), hfs]; exact hcond.2.2
          rw [if_pos (by rw [hcond.2.1]; simp [hll])]
        rw [e5]
        rfl
      · cases hp
    · cases hp
  · cases h
theorem s0_ret {e : E} (h1 : EvE Γ B N0 P e) : StE Γ B N0 P (.ret e) := by
  intro env cenv S f hN R h
  unfold bex at h
  obtain ⟨x, hx, rfl⟩ := Option.map_eq_some_iff.mp h
  obtain ⟨v, S1, e1, p1, r1, n1⟩ := h1 _ env cenv S x hN R hx
  refine ⟨v, S1, ?_, p1.length_le, fun _ _ _ e => pre_at p1 e, r1.to fun m c q e => ⟨e, q.1⟩⟩
  unfold ex
  rw [e1]
  rfl
theorem s0_ifs {c : E} {a b : List C.S} (h0 : EvE Γ B N0 P c) (h1 : StsE Γ B N0 P a) (h2 : StsE Γ B N0 P b) : StE Γ B N0 P (.ifs c a b) := by
  intro env cenv S f hN R h
  unfold bex at h
  obtain ⟨p, hp, h⟩ := Option.bind_eq_some_iff.mp h
  obtain ⟨S1, e1, p1⟩ := t_ok h0 hN R hp
  have e2 : ex Γ (.ifs c a b) cenv S = if p = true then exs Γ a cenv S1 else exs Γ b cenv S1 := by
    unfold ex
    rw [e1, Res.flB_bl]
  rw [e2]
  cases p with
  | true =>
    rw [if_pos rfl] at h ⊢
    exact FlE.after (St.pre R p1) (h1 env cenv S1 f (prefix_len p1 hN) (R.pre p1) h)
  | false =>
    rw [if_neg Bool.false_ne_true] at h ⊢
    exact FlE.after (St.pre R p1) (h2 env cenv S1 f (prefix_len p1 hN) (R.pre p1) h)
theorem turn_some {r : Option BFl} {k : BEnv → Option BFl} {f : BFl} (h : BFl.turn r k = some f) : (∃ env, r = some (.nx env) ∧ k env = some f) ∨ (∃ env, r = some (.bk env) ∧ f = .nx env) ∨ ∃ d o, r = some (.rt d o) ∧ f = .rt d o := by
  unfold BFl.turn at h
  obtain ⟨g, hg, h⟩ := Option.bind_eq_some_iff.mp h
  cases g with
  | nx env => exact .inl ⟨env, hg, h⟩
  | bk env => cases h; exact .inr (.inl ⟨env, hg, rfl⟩)
  | rt d o => cases h; exact .inr (.inr ⟨d, o, hg, rfl⟩)
theorem bfor_ok {body : List C.S} {tg : List Nat} {sr : Src} {v0 : Val} {L0 : Nat} {A0 : Nat → Prop} (hb : StsE Γ B N0 P body) (hf : ¬ (B.fix0 && tg.contains 0) = true) (hh : HeldBy sr.held v0) (hv : ∀ n, v0 = .loc n → ¬ A0 n ∧ n < L0) :
    ∀ (ds : List D) (vs : List Val) (env : BEnv) (cenv : Env) (S : Store) (f : BFl), N0 ≤ S.length → L0 ≤ S.length → ER' N0 P NoX S env cenv → (∀ m, Ao env cenv NoX m → A0 m ∨ L0 ≤ m) → RDs S (fun m => Pd N0 P A0 o false m ∧ m < L0) ds vs → sr.ok S = true →
      bfor (fun env => bexs B body env) tg o ds env = some f → FlE B N0 P S env cenv f (forGo (fun e S => exs Γ body e S) tg sr vs cenv S)
  | [], vs, env, cenv, S, f, hN, hL, R, hA, r, hok, h => by
    cases (show vs = [] from r)
    cases h
    refine ⟨cenv, S, ?_, St.pre R (List.prefix_refl _)⟩
    unfold forGo
    rw [if_pos hok]
  | d :: ds, vs, env, cenv, S, f, hN, hL, R, hA, r, hok, h => by
    obtain ⟨v, t, rfl, r1, r2⟩ := r
    unfold bfor at h
    obtain ⟨env1, h1, h⟩ := Option.bind_eq_some_iff.mp h
    have r1' : RD S (Pd N0 P (Ao env cenv NoX) o false) d v := r1.to fun m c q e => ⟨e, ⟨q.1.1, fun z => by
      rcases hA m z with z | z
      · exact q.1.2 z
      · omega⟩⟩
    obtain ⟨cenv1, e1, R1, same⟩ := bsetN_ok R r1' h1
    have st1 : St B N0 P S env cenv S env1 cenv1 := ⟨R1, Nat.le_refl _, fun _ _ _ e => e, fun m q => .inl (bsetN_ao h1 e1 m q), fix_of hf same⟩
    have e2 : forGo (fun e S => exs Γ body e S) tg sr (v :: t) cenv S = (exs Γ body cenv1 S).turn fun env2 S2 => forGo (fun e S => exs Γ body e S) tg sr t env2 S2 := by
      rw [forGo, if_pos hok, e1]
      rfl
    rw [e2]
    rcases turn_some h with ⟨env2, h2, h3⟩ | ⟨env2, h2, rfl⟩ | ⟨d2, o2, h2, rfl⟩
    · obtain ⟨cenv2, S2, e3, st2⟩ := hb env1 cenv1 S (.nx env2) hN R1 h2
      rw [e3]
      simp only [Fl.turn_nx]
      have st := st1.trans st2
      have hA2 : ∀ m, Ao env2 cenv2 NoX m → A0 m ∨ L0 ≤ m := fun m q => by
        rcases st.ao m q with z | z
        · exact hA m z
        · exact .inr (Nat.le_trans hL z)
      have stay : ∀ {m : Nat} {c : Cell}, (¬ A0 m) → m < L0 → S[m]? = some c → S2[m]? = some c := fun {m c} h1 h2 e => st.keep m c (fun z => by
        rcases hA m z with z | z
        · exact h1 z
        · omega) e
      refine FlE.after st (bfor_ok hb hf hh hv ds t env2 cenv2 S2 f (Nat.le_trans hN st.len) (Nat.le_trans hL st.len) st.er hA2 (r2.to fun m c q e => ⟨stay (fun z => by have := q.1.2 z; cases this) q.2 e, q⟩) (held_stay hh hok fun n c hn e => ?_) h3)
      obtain ⟨q1, q2⟩ := hv n hn
      exact stay q1 q2 e
    · obtain ⟨cenv2, S2, e3, st2⟩ := hb env1 cenv1 S (.bk env2) hN R1 h2
      rw [e3]
      exact ⟨cenv2, S2, rfl, st1.trans st2⟩
    · have q := FlE.after st1 (hb env1 cenv1 S (.rt d2 o2) hN R1 h2)
      obtain ⟨v2, S2, e3, q2⟩ := q
      rw [e3]
      exact ⟨v2, S2, rfl, q2⟩
theorem bwhile_ok {c : E} {body : List C.S} (hc : EvE Γ B N0 P c) (hb : StsE Γ B N0 P body) : ∀ (k : Nat) (env : BEnv) (cenv : Env) (S : Store) (f : BFl), N0 ≤ S.length → ER' N0 P NoX S env cenv → bwhile (fun env => bev B env c) (fun env => bexs B body env) k env = some f →
    FlE B N0 P S env cenv f (whileGo (fun e S => ev Γ c e S) (fun e S => exs Γ body e S) k cenv S)
  | 0, env, cenv, S, f, hN, R, h => by cases h
  | k + 1, env, cenv, S, f, hN, R, h => by
    unfold bwhile at h
    obtain ⟨p, hp, h⟩ := Option.bind_eq_some_iff.mp h
    obtain ⟨S1, e1, p1⟩ := t_ok hc hN R hp
    unfold whileGo
    rw [e1, Res.flB_bl]
    cases p with
    | false =>
      rw [if_neg Bool.false_ne_true] at h ⊢
      cases h
      exact ⟨cenv, S1, rfl, St.pre R p1⟩
    | true =>
      rw [if_pos rfl] at h ⊢
      have R1 := R.pre p1
      have hN1 := prefix_len p1 hN
      refine FlE.after (St.pre R p1) ?_
      rcases turn_some h with ⟨env2, h2, h3⟩ | ⟨env2, h2, rfl⟩ | ⟨d2, o2, h2, rfl⟩
      · obtain ⟨cenv2, S2, e3, st2⟩ := hb env cenv S1 (.nx env2) hN1 R1 h2
        rw [e3]
        exact FlE.after st2 (bwhile_ok hc hb k env2 cenv2 S2 f (Nat.le_trans hN1 st2.len) st2.er h3)
      · obtain ⟨cenv2, S2, e3, st2⟩ := hb env cenv S1 (.bk env2) hN1 R1 h2
        rw [e3]
        exact ⟨cenv2, S2, rfl, st2⟩
      · obtain ⟨v2, S2, e3, q2⟩ := hb env cenv S1 (.rt d2 o2) hN1 R1 h2
        rw [e3]
        exact ⟨v2, S2, rfl, q2⟩
/-- ahead of a loop -/
theorem ER'.disown1 (R : ER' N0 P NoX S env cenv) {e : E} : ER' N0 P NoX S (disown1 env e) cenv ∧ (∀ m, Ao (disown1 env e) cenv NoX m → Ao env cenv NoX m) ∧
    ∀ j d o, e = .var j → env[j]? = some (some (.own d o)) → ∀ n, cenv[j]? = some (some (.loc n)) → ¬ Ao (disown1 env e) cenv NoX n := by
  unfold C.disown1
  split
  · rename_i j
    split
    · rename_i d o hj
      obtain ⟨n, hc, h0, ow⟩ := R.own j d o hj
      have hself : cenv.set j (some (.loc n)) = cenv := by
        apply List.ext_getElem?
        intro i
        by_cases e : j = i
        · subst e
          rw [List.getElem?_set_self (List.getElem?_eq_some_iff.mp hc).1, hc]
        · rw [List.getElem?_set_ne e]
      have hA : ∀ m, Ao (env.set j (some (.val d o))) cenv NoX m → Ao env cenv NoX m ∧ m ≠ n := by
        rintro m (h | ⟨i, d', o', h1, h2⟩)
        · exact h.elim
        · by_cases e : j = i
          · subst e
            rw [List.getElem?_set_self (List.getElem?_eq_some_iff.mp hj).1] at h1
            cases h1
          · rw [List.getElem?_set_ne e] at h1
            exact ⟨.inr ⟨i, d', o', h1, h2⟩, fun z => e (R.inj j i n d d' o o' hj h1 hc (by rw [← z]; exact h2))⟩
      have get : ∀ {i : Nat} {b : BS}, (env.set j (some (.val d o)))[i]? = some (some b) → (i = j ∧ b = .val d o) ∨ env[i]? = some (some b) := by
        intro i b h
        by_cases e : j = i
        · subst e
          rw [List.getElem?_set_self (List.getElem?_eq_some_iff.mp hj).1] at h
          cases h
          exact .inl ⟨rfl, rfl⟩
        · rw [List.getElem?_set_ne e] at h
          exact .inr h
      refine ⟨⟨by simp [R.len], fun i d' o' h => ?_, fun i d' o' h => ?_, fun i k m d1 d2 o1 o2 h1 h2 h3 h4 => ?_, fun m h => h.elim⟩, fun m h => (hA m h).1, fun j' d' o' e he n' hn' z => ?_⟩
      · rcases get h with ⟨rfl, e⟩ | h
        · cases e
          exact ⟨.loc n, hc, ow.rd ⟨fun z => absurd z (by omega), fun z => absurd rfl (hA n z).2⟩ fun m q => q.weak (fun z => (hA m z).1) id id⟩
        · obtain ⟨v, q1, q2⟩ := R.val i d' o' h
          exact ⟨v, q1, q2.weak (List.prefix_refl _) (fun m _ z => (hA m z).1) id id⟩
      · rcases get h with ⟨_, e⟩ | h
        · cases e
        · obtain ⟨m, q1, q2, q3⟩ := R.own i d' o' h
          exact ⟨m, q1, q2, q3.to (fun _ q => q) fun m c q e => ⟨e, q.weak (fun z => (hA m z).1) id id⟩⟩
      · rcases get h1 with ⟨_, e⟩ | h1
        · cases e
        · rcases get h2 with ⟨_, e⟩ | h2
          · cases e
          · exact R.inj i k m d1 d2 o1 o2 h1 h2 h3 h4
      · cases e
        rw [hc] at hn'
        cases hn'
        exact (hA n z).2 rfl
    · rename_i hno
      refine ⟨R, fun m h => h, fun j' d' o' e he => ?_⟩
      cases e
      exact absurd he (hno d' o')
  · rename_i hno
    exact ⟨R, fun m h => h, fun j' d' o' e he => absurd e (hno j')⟩
/-- the place that holds what is walked is not owned -/
theorem held_at {k : Nat} {s : List D × Bool × Bool} (r : RD S (Pd N0 P A x.o x.a) x.d (.loc n)) (h : bsrc k [x] = some s) (hs : s.2.2 = false) : ¬ A n ∧ n < S.length := by
  obtain ⟨xd, xo, xa⟩ := x
  unfold bsrc at h
  split at h
  · rename_i y he
    cases he
    split at h
    · rename_i ds ex
      simp only at ex
      subst ex
      cases h
      obtain ⟨m, vs, e, q, e1, _⟩ := r
      cases e
      exact ⟨(fun z => by have := q.2 z; rw [show xa = false from hs] at this; cases this), (List.getElem?_eq_some_iff.mp e1).1⟩
    · rename_i ds ex
      simp only at ex
      subst ex
      obtain ⟨vs, e, _⟩ := r
      cases e
    · rename_i ds ex
      simp only at ex
      subst ex
      obtain ⟨vs, e, _⟩ := r
      cases e
    · rename_i ks ds ex
      simp only at ex
      subst ex
      split at h
      · cases h
        obtain ⟨m, ep, kvs, e, q, e1, _⟩ := r
        cases e
        exact ⟨(fun z => by have := q.2 z; rw [show xa = false from hs] at this; cases this), (List.getElem?_eq_some_iff.mp e1).1⟩
      · cases h
    · cases h
  · rename_i y he
    cases he
    split at h
    · rename_i j ex
      simp only at ex
      subst ex
      cases (show Val.loc n = .int j from r)
    · cases h
  · rename_i y he
    cases he
    split at h
    · rename_i ds ex
      simp only at ex
      subst ex
      cases h
      obtain ⟨m, vs, e, q, e1, _⟩ := r
      cases e
      exact ⟨(fun z => by have := q.2 z; rw [show xa = false from hs] at this; cases this), (List.getElem?_eq_some_iff.mp e1).1⟩
    · rename_i ds ex
      simp only at ex
      subst ex
      obtain ⟨vs, e, _⟩ := r
      cases e
    · rename_i ds ex
      simp only at ex
      subst ex
      obtain ⟨vs, e, _⟩ := r
      cases e
    · cases h
  · rename_i he
    cases he
  · cases h
end
end C
end
section
set_option Elab.async false
set_option linter.all false
set_option maxRecDepth 100000
set_option maxHeartbeats 2000000
/-! B11: every def on trees. -/
namespace C
open PySem

section
variable {N0 : Nat} {P X A A' : Nat → Prop} {S S' S1 S2 : Store} {env env1 env2 : BEnv} {cenv cenv1 cenv2 : Env} {o a o' a' : Bool} {d d' : D} {v w : Val} {n : Nat} {Γ : Cx} {B : BCx} {x y z : BV}
theorem for_run {tg : List Nat} {k : Nat} {src : List E} {body : List C.S} {vs : List Val} {sr : Src} (e1 : evs Γ src cenv S = .ok vs S1) (e2 : srcV Γ k vs S1 = some sr) : ex Γ (.for_ tg k src body) cenv S = forGo (fun e S => exs Γ body e S) tg sr sr.items cenv S1 := by
  unfold ex
  rw [e1]
  simp only [Res.bind_ok, e2, Res.of_some, Res.fl_ok]
theorem s0_for {tg : List Nat} {k : Nat} {src : List E} {body : List C.S} (h1 : ∀ e, src = [e] → EvE Γ B N0 P e) (h2 : EvsE Γ B N0 P src) (hb : StsE Γ B N0 P body) : StE Γ B N0 P (.for_ tg k src body) := by
  intro env cenv S f hN R h
  unfold bex at h
  split at h
  · cases h
  · rename_i hf
    split at h
    · rename_i e
      obtain ⟨x, hx, h⟩ := Option.bind_eq_some_iff.mp h
      obtain ⟨s, hs, h⟩ := Option.bind_eq_some_iff.mp h
      split at h
      · cases h
      · rename_i hs2
        have hs2 : s.2.2 = false := by simpa using hs2
        obtain ⟨R1, sub, off⟩ := R.disown1 (e := e)
        -- the value, the place that is held
        have main : ∃ v S1 v0 A0, ev Γ e cenv S = .ok v S1 ∧ S <+: S1 ∧ RI S1 (Pd N0 P A0 x.o x.a) x.d v ∧ (∀ m, Ao (disown1 env e) cenv NoX m → A0 m) ∧ (∀ sr : Src, HeldBy sr.held v → HeldBy sr.held v0) ∧ ∀ n, v0 = .loc n → ¬ A0 n ∧ n < S1.length := by
          unfold pk at hx
          have gen : bev B env e = some x → ∃ v S1 v0 A0, ev Γ e cenv S = .ok v S1 ∧ S <+: S1 ∧ RI S1 (Pd N0 P A0 x.o x.a) x.d v ∧ (∀ m, Ao (disown1 env e) cenv NoX m → A0 m) ∧ (∀ sr : Src, HeldBy sr.held v → HeldBy sr.held v0) ∧ ∀ n, v0 = .loc n → ¬ A0 n ∧ n < S1.length := by
            intro hx
            obtain ⟨v, S1, e1, p1, r1, _⟩ := h1 e rfl _ env cenv S x hN R hx
            by_cases hl : ∃ n, v = .loc n
            · obtain ⟨n, rfl⟩ := hl
              refine ⟨.loc n, S1, .loc n, Ao env cenv NoX, e1, p1, RI.ofRD r1, sub, fun _ h => h, fun m hm => ?_⟩
              cases hm
              exact held_at r1 hs hs2
            · refine ⟨v, S1, .non, Ao env cenv NoX, e1, p1, RI.ofRD r1, sub, fun sr hb => ?_, fun n hn => nomatch hn⟩
              cases hh : sr.held with
              | non => trivial
              | lst n xs => rw [hh] at hb; exact absurd ⟨n, hb⟩ hl
              | dct n ep ks => rw [hh] at hb; exact absurd ⟨n, hb⟩ hl
          split at hx
          · rename_i j _ _
            split at hx
            · rename_i ds o he
              cases hx
              obtain ⟨n, g1, g2, vs, g3, g4⟩ := R.own _ _ _ he
              refine ⟨.loc n, S, .loc n, Ao (disown1 env (.var j)) cenv NoX, ?_, List.prefix_refl _, ⟨n, vs, rfl, g3, g4.weak (List.prefix_refl _) (fun m _ q => sub m q) id id⟩, fun m h => h, fun _ h => h, fun m hm => ?_⟩
              · unfold ev
                simp only [g1]
              · cases hm
                exact ⟨off j _ _ rfl he n g1, (List.getElem?_eq_some_iff.mp g3).1⟩
            · exact gen hx
          · exact gen hx
        obtain ⟨v, S1, v0, A0, e1, p1, r1, q1, q2, q3⟩ := main
        obtain ⟨sr, g1, g2, g3, g4⟩ := bsrc1_ok (Γ := Γ) r1 hs
        rw [hs2] at g2
        have e2 : evs Γ [e] cenv S = .ok [v] S1 := by
          unfold evs evs
          rw [e1]
          rfl
        rw [for_run e2 g1]
        have st : St B N0 P S env cenv S1 (disown1 env e) cenv := ⟨R1.pre p1, p1.length_le, fun _ _ _ e => pre_at p1 e, fun m h => .inl (sub m h), fun _ => rfl⟩
        exact FlE.after st (bfor_ok hb hf (q2 sr g4) q3 s.1 sr.items _ cenv S1 f (prefix_len p1 hN) (Nat.le_refl _) (R1.pre p1) (fun m h => .inl (q1 m h)) (g2.to fun m c q e => ⟨e, q, (List.getElem?_eq_some_iff.mp e).1⟩) g3 h)
    · rename_i hne
      obtain ⟨xs, hx, h⟩ := Option.bind_eq_some_iff.mp h
      obtain ⟨s, hs, h⟩ := Option.bind_eq_some_iff.mp h
      split at h
      · cases h
      · rename_i hs2
        have hs2 : s.2.2 = false := by simpa using hs2
        obtain ⟨vs, S1, e1, p1, r1⟩ := h2 _ env cenv S xs hN R hx
        have hxs : ∀ x, xs ≠ [x] := by
          intro x hx'
          subst hx'
          cases src with
          | nil => unfold bevs at hx; cases hx
          | cons e es =>
            cases es with
            | nil => exact hne e rfl
            | cons e2 es =>
              unfold bevs bevs at hx
              obtain ⟨_, _, hx⟩ := Option.bind_eq_some_iff.mp hx
              obtain ⟨_, hys, hx⟩ := Option.map_eq_some_iff.mp hx
              obtain ⟨_, _, hys⟩ := Option.bind_eq_some_iff.mp hys
              obtain ⟨_, _, rfl⟩ := Option.map_eq_some_iff.mp hys
              cases hx
        obtain ⟨sr, g1, g2, g3, g4⟩ := bsrc2_ok (Γ := Γ) (A := Ao env cenv NoX) (N0 := N0) (P := P) r1 hs hxs
        rw [hs2] at g2
        rw [for_run e1 g1]
        exact FlE.after (St.pre R p1) (bfor_ok hb hf g4 (fun n hn => nomatch hn) s.1 sr.items env cenv S1 f (prefix_len p1 hN) (Nat.le_refl _) (R.pre p1) (fun m h => .inl h) (g2.to fun m c q e => ⟨e, q, (List.getElem?_eq_some_iff.mp e).1⟩) g3 h)
theorem s0_none {s : C.S} (h : ∀ env, bex B s env = none) : StE Γ B N0 P s := by
  intro env cenv S f hN R hx
  rw [h] at hx
  cases hx
mutual
theorem st_ok (G : BG B Γ) : ∀ s : C.S, StE Γ B N0 P s
  | .asg i e => s0_asg (e_ok G e)
  | .asgT is e => s0_asgT (e_ok G e)
  | .setF o f e => s0_setF G (e_ok G e)
  | .setI o i e => s0_setI (e_ok G e) (e_ok G i)
  | .bad => s0_none fun _ => by unfold bex; rfl
  | .raise _ => s0_none fun _ => by unfold bex; rfl
  | .try_ _ _ _ _ _ => s0_none fun _ => by unfold bex; rfl
  | .aug i op e => s0_none fun _ => by unfold bex; rfl
  | .expr e => s0_expr (e_ok G e) fun i y _ => e_ok G y
  | .ifs c a b => s0_ifs (e_ok G c) (sts_ok G a) (sts_ok G b)
  | .for_ tg k src body => s0_for (fun e _ => e_ok G e) (es_ok G src).1 (sts_ok G body)
  | .while_ c body => by
    intro env cenv S f hN R h
    unfold bex at h
    unfold ex
    rw [← G.fuel]
    exact bwhile_ok (e_ok G c) (sts_ok G body) _ env cenv S f hN R h
  | .ret e => s0_ret (e_ok G e)
  | .retN => by
    intro env cenv S f hN R h
    unfold bex at h
    cases h
    exact ⟨.non, S, by unfold ex; rfl, Nat.le_refl _, fun _ _ _ e => e, rfl⟩
  | .brk => by
    intro env cenv S f hN R h
    unfold bex at h
    cases h
    exact ⟨cenv, S, by unfold ex; rfl, St.pre R (List.prefix_refl _)⟩
  | .pass => by
    intro env cenv S f hN R h
    unfold bex at h
    cases h
    exact ⟨cenv, S, by unfold ex; rfl, St.pre R (List.prefix_refl _)⟩
theorem sts_ok (G : BG B Γ) : ∀ ss : List C.S, StsE Γ B N0 P ss
  | [] => by
    intro env cenv S f hN R h
    unfold bexs at h
    cases h
    exact ⟨cenv, S, by unfold exs; rfl, St.pre R (List.prefix_refl _)⟩
  | s :: ss => by
    have h1 := st_ok G s
    have h2 := sts_ok G ss
    intro env cenv S f hN R h
    unfold bexs BFl.seq at h
    obtain ⟨g, hg, h⟩ := Option.bind_eq_some_iff.mp h
    have q := h1 env cenv S g hN R hg
    unfold exs
    cases g with
    | nx env1 =>
      obtain ⟨cenv1, S1, e1, st⟩ := q
      rw [e1]
      exact FlE.after st (h2 env1 cenv1 S1 f (Nat.le_trans hN st.len) st.er h)
    | bk env1 =>
      cases h
      obtain ⟨cenv1, S1, e1, st⟩ := q
      rw [e1]
      exact ⟨cenv1, S1, rfl, st⟩
    | rt d o =>
      cases h
      obtain ⟨v, S1, e1, st⟩ := q
      rw [e1]
      exact ⟨v, S1, rfl, st⟩
end
/-! ### calls -/
theorem start_own {ds : List D} {m : Nat} {i : Nat} {d : D} {o : Bool} (h : (ds.map (fun d => some (BS.val d (!d.flat))) ++ List.replicate m none)[i]? = some (some (.own d o))) : False := by
  by_cases hi : i < ds.length
  · rw [List.getElem?_append_left (by simpa using hi), List.getElem?_map] at h
    cases e : ds[i]? with
    | none => rw [e] at h; cases h
    | some d => rw [e] at h; cases h
  · rw [List.getElem?_append_right (by simpa using hi), List.getElem?_replicate] at h
    split at h <;> cases h
theorem start_val {ds : List D} {vs : List Val} {m k : Nat} {i : Nat} {d : D} {o : Bool} {Q : Nat → Prop} (r : RDs S Q ds vs) (h : (ds.map (fun d => some (BS.val d (!d.flat))) ++ List.replicate m none)[i]? = some (some (.val d o))) :
    ∃ v, (vs.map some ++ List.replicate k none)[i]? = some (some v) ∧ RD S Q d v ∧ o = !d.flat := by
  by_cases hi : i < ds.length
  · rw [List.getElem?_append_left (by simpa using hi), List.getElem?_map] at h
    cases e : ds[i]? with
    | none => rw [e] at h; cases h
    | some d' =>
      rw [e] at h
      cases h
      obtain ⟨v, h1, h2⟩ := r.get e
      refine ⟨v, ?_, h2, rfl⟩
      rw [List.getElem?_append_left (by rw [List.length_map, r.length]; exact hi), List.getElem?_map, h1]
      rfl
  · rw [List.getElem?_append_right (by simpa using hi), List.getElem?_replicate] at h
    split at h <;> cases h
theorem call_run {d : Def} (G : BG B Γ) {ds : List D} {p : D × Bool} (h : brun B d ds = some p) {S : Store} {Q : Nat → Prop} {vs : List Val} (r : RDs S Q ds vs) :
    ∃ v S', runDef Γ d vs S = .ok v S' ∧ S <+: S' ∧ RD S' (fun n => S.length ≤ n ∨ (p.2 = true ∧ Q n)) p.1 v := by
  unfold brun at h
  split at h
  · rename_i hl
    have hvl : vs.length = d.np := by rw [r.length]; exact hl
    have hno : ∀ n, ¬ Ao (bstart d ds) (vs.map some ++ List.replicate (d.nv - d.np) none) NoX n := by
      rintro n (h | ⟨i, d', o, h, _⟩)
      · exact h
      · exact start_own h
    have R : ER' S.length Q NoX S (bstart d ds) (vs.map some ++ List.replicate (d.nv - d.np) none) := by
      refine ⟨?_, fun i d' o h => ?_, fun i d' o h => (start_own h).elim, fun i j n d' e o p h => (start_own h).elim, fun n h => h.elim⟩
      · unfold bstart
        simp [r.length]
      · obtain ⟨v, h1, h2, rfl⟩ := start_val (k := d.nv - d.np) r h
        refine ⟨v, h1, ?_⟩
        cases hf : d'.flat with
        | true => exact RD.flat hf h2
        | false => exact h2.to fun n c q e => ⟨e, ⟨fun _ => ⟨rfl, q⟩, fun z => absurd z (hno n)⟩⟩
    cases hb : bexs B d.body (bstart d ds) with
    | none => rw [hb] at h; cases h
    | some f =>
      rw [hb] at h
      have q := sts_ok (N0 := S.length) (P := Q) G d.body _ _ S f (Nat.le_refl _) R hb
      have pre : ∀ {S1 : Store}, (∀ n c, ¬ Ao (bstart d ds) (vs.map some ++ List.replicate (d.nv - d.np) none) NoX n → S[n]? = some c → S1[n]? = some c) → S <+: S1 := by
        intro S1 hk
        rw [List.prefix_iff_getElem?]
        intro i hi
        exact hk i _ (hno i) (List.getElem?_eq_getElem hi)
      unfold runDef
      rw [if_pos hvl]
      cases f with
      | nx env1 =>
        cases h
        obtain ⟨cenv1, S1, e1, st⟩ := q
        rw [e1]
        exact ⟨.non, S1, rfl, pre st.keep, rfl⟩
      | bk env1 => cases h
      | rt d' o =>
        cases h
        obtain ⟨v, S1, e1, hl1, hk, hr⟩ := q
        rw [e1]
        refine ⟨v, S1, rfl, pre hk, hr.to fun n c q e => ⟨e, ?_⟩⟩
        by_cases hn : n < S.length
        · exact .inr (q hn)
        · exact .inl (by omega)
  · cases h
theorem init_run {d : Def} (G : BG B Γ) {c : Nat} {ds : List D} {p : D × Bool} (h : binit B d (.obj c [] []) ds = some p) {S : Store} {Q : Nat → Prop} {vs : List Val} {n : Nat} (hn : S[n]? = some (.obj c [])) (hl : n + 1 = S.length) (r : RDs S Q ds vs) (hQ : ∀ m, Q m → m < n) :
    ∃ S', runDef Γ d (.loc n :: vs) S = .ok .non S' ∧ S.length ≤ S'.length ∧ (∀ m c, m ≠ n → S[m]? = some c → S'[m]? = some c) ∧ OwnAt S' (fun m => m ≠ n ∧ (S.length ≤ m ∨ (p.2 = true ∧ Q m))) p.1 n := by
  unfold binit at h
  split at h
  · rename_i hnp
    have hvl : (Val.loc n :: vs).length = d.np := by rw [List.length_cons, r.length]; exact hnp
    generalize henv : (some (BS.own (.obj c [] []) false) :: bstart ⟨d.np - 1, d.nv - 1, d.body⟩ ds) = env at h
    generalize hcenv : ((Val.loc n :: vs).map some ++ List.replicate (d.nv - d.np) none) = cenv
    have c0 : cenv[0]? = some (some (.loc n)) := by rw [← hcenv]; rfl
    have own : ∀ {i : Nat} {d' : D} {o : Bool}, env[i]? = some (some (.own d' o)) → i = 0 ∧ d' = .obj c [] [] ∧ o = false := by
      intro i d' o h
      rw [← henv] at h
      cases i with
      | zero => cases h; exact ⟨rfl, rfl, rfl⟩
      | succ i => exact (start_own h).elim
    have hA : ∀ m, Ao env cenv NoX m → m = n := by
      rintro m (h | ⟨i, d', o, h1, h2⟩)
      · exact h.elim
      · obtain ⟨rfl, _, _⟩ := own h1
        rw [c0] at h2
        cases h2
        rfl
    have R : ER' n Q NoX S env cenv := by
      refine ⟨?_, fun i d' o h => ?_, fun i d' o h => ?_, fun i j m d' e o p h1 h2 _ _ => ?_, fun m h => h.elim⟩
      · rw [← henv, ← hcenv]
        unfold bstart
        simp only [List.length_cons, List.length_append, List.length_map, List.length_replicate, List.map_cons]
        have := r.length
        omega
      · rw [← henv] at h
        cases i with
        | zero => cases h
        | succ i =>
          obtain ⟨v, h1, h2, rfl⟩ := start_val (k := d.nv - d.np) r h
          refine ⟨v, by rw [← hcenv]; exact h1, ?_⟩
          cases hf : d'.flat with
          | true => exact RD.flat hf h2
          | false => exact h2.to fun m c q e => ⟨e, ⟨fun _ => ⟨rfl, q⟩, fun z => by have := hA m z; have := hQ m q; omega⟩⟩
      · obtain ⟨rfl, rfl, rfl⟩ := own h
        exact ⟨n, c0, Nat.le_refl _, [], hn, rfl, rfl⟩
      · rw [(own h1).1, (own h2).1]
    have G' : BG { B with fix0 := true } Γ := ⟨G.T, G.fuel, G.call, G.init⟩
    cases hb : bexs { B with fix0 := true } d.body env with
    | none => rw [hb] at h; cases h
    | some f =>
      rw [hb] at h
      have q := sts_ok (N0 := n) (P := Q) G' d.body env cenv S f (by omega) R hb
      unfold runDef
      rw [if_pos hvl, hcenv]
      cases f with
      | nx env1 =>
        obtain ⟨cenv1, S1, e1, st⟩ := q
        have h : own0 env1 = some p := h
        unfold own0 at h
        split at h
        · rename_i d1 o1 r1 _
          cases h
          obtain ⟨n1, g1, g2, g3⟩ := st.er.own 0 d1 o1 rfl
          have g4 : cenv1[0]? = cenv[0]? := st.fix rfl
          rw [g4, c0] at g1
          cases g1
          rw [e1]
          refine ⟨S1, rfl, st.len, fun m c hm e => st.keep m c (fun z => hm (hA m z)) e, g3.to (fun _ q => q) fun m c q e => ⟨e, ?_⟩⟩
          have hmn : m ≠ n := fun z => by
            have := q.2 (.inr ⟨0, d1, o1, rfl, by rw [g4, c0, z]⟩)
            cases this
          refine ⟨hmn, ?_⟩
          by_cases hlt : m < n
          · exact .inr (q.1 hlt)
          · exact .inl (by omega)
        · cases h
      | bk env1 => cases h
      | rt d' o => cases h
  · cases h
end
theorem bg_ok (T : Tab) (fuel : Nat) : ∀ k, BG ⟨T, bcall T fuel k, bmake T fuel k, fuel, false⟩ ⟨T, callM T fuel k, fuel⟩
  | 0 => ⟨rfl, rfl, (fun f ds p h => by simp only [bcall] at h; cases h), (fun f c ds p h => by simp only [bmake] at h; cases h)⟩
  | k + 1 => by
    have G := bg_ok T fuel k
    refine ⟨rfl, rfl, fun f ds p h S Q vs r => ?_, fun f c ds p h S Q vs n hn hl r hQ => ?_⟩
    · simp only [bcall] at h
      simp only [callM]
      cases hd : T.defs f with
      | none => rw [hd] at h; cases h
      | some d =>
        rw [hd] at h
        exact call_run G h r
    · simp only [bmake] at h
      simp only [callM]
      cases hd : T.defs f with
      | none => rw [hd] at h; cases h
      | some d =>
        rw [hd] at h
        exact init_run G h hn hl r hQ
/-- a def's call on trees is the def's call -/
theorem bcall_ok {T : Tab} {fuel k f : Nat} {ds : List D} {p : D × Bool} (h : bcall T fuel k f ds = some p) {S : Store} {Q : Nat → Prop} {vs : List Val} (r : RDs S Q ds vs) :
    ∃ v S', callM T fuel k f vs S = .ok v S' ∧ S <+: S' ∧ RD S' (fun n => S.length ≤ n ∨ (p.2 = true ∧ Q n)) p.1 v := (bg_ok T fuel k).call f ds p h S Q vs r
end C
end
section
set_option Elab.async false
set_option linter.all false
set_option maxRecDepth 100000
set_option maxHeartbeats 1000000
/-! B12: for the plain laws: small evaluations, loops. -/
namespace C
open PySem

section
variable {B : BCx} {i j : Int} {o p a b : Bool}
theorem ii_add : sc2 (binV noCx .add) (.int i) (.int j) = some (.int (i + j)) := rfl
theorem ii_sub : sc2 (binV noCx .sub) (.int i) (.int j) = some (.int (i - j)) := rfl
theorem ii_mul (h : j.natAbs < 2 ^ 64) : sc2 (binV noCx .mul) (.int i) (.int j) = some (.int (i * j)) := by
  simp only [sc2, D.val, binV, h, decide_true, Bool.or_true, if_true, D.of]
theorem ii_mul' (h : i.natAbs < 2 ^ 64) : sc2 (binV noCx .mul) (.int i) (.int j) = some (.int (i * j)) := by
  simp only [sc2, D.val, binV, h, decide_true, Bool.true_or, if_true, D.of]
theorem ii_mod (h : 0 < j) : sc2 (binV noCx .mod) (.int i) (.int j) = some (.int (i % j)) := by
  simp only [sc2, D.val, binV, h, decide_true, if_true, D.of]
theorem ii_fdiv (h : 0 < j) (h2 : j < 1073741824) : sc2 (binV noCx .fdiv) (.int i) (.int j) = some (.int (i / j)) := by
  simp only [sc2, D.val, binV, h, h2, decide_true, Bool.and_self, if_true, D.of]
theorem ii_eq : sc2 (cmpV noCx .eq) (.int i) (.int j) = some (.bl (decide (i = j))) := by
  simp [sc2, D.val, cmpV, eqVal, scalV, D.of]
theorem ii_ne : sc2 (cmpV noCx .ne) (.int i) (.int j) = some (.bl (!decide (i = j))) := by
  simp [sc2, D.val, cmpV, eqVal, scalV, D.of]
theorem ii_lt : sc2 (cmpV noCx .lt) (.int i) (.int j) = some (.bl (decide (i < j))) := rfl
theorem ii_gt : sc2 (cmpV noCx .gt) (.int i) (.int j) = some (.bl (decide (j < i))) := rfl
theorem ii_le : sc2 (cmpV noCx .le) (.int i) (.int j) = some (.bl (decide (i ≤ j))) := rfl
theorem ii_ge : sc2 (cmpV noCx .ge) (.int i) (.int j) = some (.bl (decide (j ≤ i))) := rfl
theorem bb_eq {x y : Bool} : sc2 (cmpV noCx .eq) (.bl x) (.bl y) = some (.bl (decide (x = y))) := by
  simp [sc2, D.val, cmpV, eqVal, scalV, D.of]
theorem ss_eq {x y : Str} : sc2 (cmpV noCx .eq) (.str x) (.str y) = some (.bl (decide (x = y))) := by
  simp [sc2, D.val, cmpV, eqVal, scalV, D.of]
/-- a loop whose turns go on -/
theorem bfor_inv {body : BEnv → Option BFl} {tg : List Nat} {o : Bool} : ∀ (ds : List D) (Q : List D → BEnv → Prop) (env : BEnv), Q ds env → (∀ x xs env, Q (x :: xs) env → ∃ env1 env2, bsetN tg x o env = some env1 ∧ body env1 = some (.nx env2) ∧ Q xs env2) →
    ∃ env', bfor body tg o ds env = some (.nx env') ∧ Q [] env'
  | [], Q, env, h, _ => ⟨env, rfl, h⟩
  | x :: xs, Q, env, h, step => by
    obtain ⟨env1, env2, h1, h2, h3⟩ := step x xs env h
    obtain ⟨env', h4, h5⟩ := bfor_inv xs Q env2 h3 step
    refine ⟨env', ?_, h5⟩
    unfold bfor BFl.turn
    rw [h1]
    simp only [Option.bind_some, h2]
    exact h4
/-- a list comprehension over pure parts: filter, map -/
theorem blc_run {cond elt : BEnv → Option BV} {own tg : List Nat} {o : Bool} {env : BEnv} {f : D → Bool} {g : D → D} : ∀ (ds acc : List D) (po : Bool), (∀ d ∈ ds, ∃ env1, bsetN tg d o (bwipe env own) = some env1 ∧ bcond (cond env1) = some (f d) ∧ (f d = true → elt env1 = some ⟨g d, false, false⟩)) → acc.length + ds.length ≤ lineC →
    blc cond elt own tg o env ds acc po = some ⟨.lst (acc ++ (ds.filter f).map g), po, false⟩
  | [], acc, po, h, hl => by simp [blc]
  | d :: ds, acc, po, h, hl => by
    obtain ⟨env1, h1, h2, h3⟩ := h d List.mem_cons_self
    unfold blc
    rw [h1]
    simp only [Option.bind_some, h2]
    rw [List.length_cons] at hl
    by_cases hf : f d = true
    · rw [if_pos hf, h3 hf]
      simp only [Option.bind_some]
      rw [if_pos ⟨trivial, by omega⟩, blc_run ds _ _ (fun d hd => h d (List.mem_cons_of_mem _ hd)) (by rw [List.length_append, List.length_singleton]; omega)]
      simp [List.filter_cons, hf]
    · rw [if_neg hf, blc_run ds _ _ (fun d hd => h d (List.mem_cons_of_mem _ hd)) (by omega)]
      simp [List.filter_cons, hf]
end
end C
end
section
set_option Elab.async false
set_option linter.all false
set_option maxRecDepth 100000
/-! B13: steps of the tree interpreter, for the plain laws. -/
namespace C
open PySem
section
variable {B : BCx} {env env1 env2 : BEnv} {x : BV} {e c : E} {a b : List S} {ss : List C.S} {d : D} {o : Bool} {r : Option BFl}
theorem sk_if (h : bcond (bev B env c) = some false) : bexs B (.ifs c a [] :: ss) env = bexs B ss env := by
  simp only [bexs, bex, h, Option.bind_some, BFl.seq, Bool.false_eq_true, if_false]
theorem sk_ift (h : bcond (bev B env c) = some true) (h2 : bexs B a env = some (.nx env1)) : bexs B (.ifs c a b :: ss) env = bexs B ss env1 := by
  simp only [bexs, bex, h, Option.bind_some, BFl.seq, if_true, h2]
theorem sk_iff (h : bcond (bev B env c) = some false) (h2 : bexs B b env = some (.nx env1)) : bexs B (.ifs c a b :: ss) env = bexs B ss env1 := by
  simp only [bexs, bex, h, Option.bind_some, BFl.seq, Bool.false_eq_true, if_false, h2]
theorem sk_ifr (h : bcond (bev B env c) = some true) (h2 : bexs B a env = some (.rt d o)) : bexs B (.ifs c a b :: ss) env = some (.rt d o) := by
  simp only [bexs, bex, h, Option.bind_some, BFl.seq, if_true, h2]
theorem sk_ret (h : bev B env e = some x) : bexs B (.ret e :: ss) env = some (.rt x.d x.o) := by
  simp only [bexs, bex, h, Option.map_some, BFl.seq, Option.bind_some]
theorem sk_asg {i : Nat} (hf : B.fix0 = false) (h : bev B env e = some x) : bexs B (.asg i e :: ss) env = bexs B ss (bstore i (newTop e) x env) := by
  simp only [bexs, bex, hf, Bool.false_and, Bool.false_eq_true, if_false, h, Option.map_some, BFl.seq, Option.bind_some]
theorem sk_app {i : Nat} {ds : List D} (h : bev B env e = some x) (he : env[i]? = some (some (.own (.lst ds) o))) (ha : x.a = false) (hl : ds.length < lineC) : bexs B (.expr (.bm .append (.var i) [e]) :: ss) env = bexs B ss (env.set i (some (.own (.lst (ds ++ [x.d])) (o || x.o)))) := by
  simp only [bexs, bex, h, Option.bind_some, BFl.seq, bown, he, bapp, ha, hl, and_self, if_true, Option.map_some]
theorem sk_setI {i : Nat} {j : E} {y : BV} {n : Nat} {ds : List D} (h : bev B env e = some x) (hj : bev B env j = some y) (hy : y.d = .int n) (he : env[i]? = some (some (.own (.lst ds) o))) (ha : x.a = false) (hl : n < ds.length) : bexs B (.setI (.var i) j e :: ss) env = bexs B ss (env.set i (some (.own (.lst (ds.set n x.d)) (o || x.o)))) := by
  have h0 : (0 : Int) ≤ n := by omega
  have h1 : (n : Int) < ds.length := by omega
  simp only [bexs, bex, h, hj, Option.bind_some, BFl.seq, bown, he, bsetI, hy, ha, h0, h1, and_self, if_true, Option.map_some, Int.toNat_natCast]
theorem sk_for {tg : List Nat} {k : Nat} {xs : List D} (hf : B.fix0 = false) (hx : pk env e (bev B env e) = some x) (hs : bsrc k [x] = some (xs, o, false)) : bexs B (.for_ tg k [e] a :: ss) env = BFl.seq (bfor (fun env => bexs B a env) tg o xs (disown1 env e)) fun env1 => bexs B ss env1 := by
  simp only [bexs, bex, hf, Bool.false_and, Bool.false_eq_true, if_false, hx, hs, Option.bind_some]
theorem sk_forn {tg : List Nat} {k : Nat} {xs : List D} (hf : B.fix0 = false) (hx : pk env e (bev B env e) = some x) (hs : bsrc k [x] = some (xs, o, false)) (h : bfor (fun env => bexs B a env) tg o xs (disown1 env e) = some (.nx env1)) : bexs B (.for_ tg k [e] a :: ss) env = bexs B ss env1 := by
  rw [sk_for hf hx hs, h]
  rfl
theorem sk_forr {tg : List Nat} {k : Nat} {xs : List D} (hf : B.fix0 = false) (hx : pk env e (bev B env e) = some x) (hs : bsrc k [x] = some (xs, o, false)) (h : bfor (fun env => bexs B a env) tg o xs (disown1 env e) = some (.rt d false)) : bexs B (.for_ tg k [e] a :: ss) env = some (.rt d false) := by
  rw [sk_for hf hx hs, h]
  rfl
theorem b_bin {op : Bop} {p q : E} {y : BV} (h : pk env p (bev B env p) = some x) (h2 : pk env q (bev B env q) = some y) : bev B env (.bin op p q) = bbin B op x y := by
  simp only [bev, h, h2, Option.bind_some]
theorem b_cmp {op : Cop} {p q : E} {y : BV} (h : pk env p (bev B env p) = some x) (h2 : pk env q (bev B env q) = some y) : bev B env (.cmp op p q) = bcmp B op x y := by
  simp only [bev, h, h2, Option.bind_some]
theorem b_blt1 {t : Blt} {p : E} (h : pk env p (bev B env p) = some x) : bev B env (.blt t [p]) = bblt B t [x] := by
  simp only [bev, h, Option.bind_some]
theorem b_call {f : Nat} {es : List E} {xs : List BV} (h : bevs B env es = some xs) : bev B env (.call f es) = ofCall (B.call f (xs.map (·.d))) (oany xs) (aany xs) := by
  simp only [bev, h, Option.bind_some]
theorem b_lst {es : List E} {xs : List BV} (h : bevs B env es = some xs) (hl : xs.length ≤ lineC) : bev B env (.lst es) = some (mkL (xs.map (·.d)) (oany xs) (aany xs)) := by
  simp only [bev, h, Option.bind_some, hl, if_true]
theorem b_not {p : E} {v : Bool} (h : bcond (bev B env p) = some v) : bev B env (.not p) = some ⟨.bl (!v), false, false⟩ := by
  simp only [bev, h, Option.bind_some]
theorem b_lc {own tg : List Nat} {k : Nat} {cond elt : E} {xs : List D} (hx : pk env e (bev B env e) = some x) (hs : bsrc k [x] = some (xs, o, false)) (hn : noOwn env own = true) (ht : tg.all (own.contains ·) = true) : bev B env (.lc own tg k [e] cond elt) = blc (fun env => bev B env cond) (fun env => bev B env elt) own tg o env xs [] false := by
  simp only [bev, hx, hs, hn, ht, Option.map_some, Option.bind_some, Bool.not_true, Bool.or_self, Bool.false_eq_true, if_false]
theorem b_make {c2 : Nat} {es : List E} {xs : List BV} {f : Nat} {p : D × Bool} (h : bevs B env es = some xs) (hi : (B.T.cls c2).bind (·.init) = some f) (hp : B.init f (.obj c2 [] []) (xs.map (·.d)) = some p) : bev B env (.make c2 es) = some ⟨p.1, p.2 && oany xs, p.2 && aany xs⟩ := by
  simp only [bev, h, hi, hp, Option.bind_some]
theorem b_ci {i : Int} : bev B env (.cst (.int i)) = some ⟨.int i, false, false⟩ := rfl
theorem b_cb {v : Bool} : bev B env (.cst (.bl v)) = some ⟨.bl v, false, false⟩ := rfl
theorem brun_rt {D0 : Def} {ds : List D} (hl : ds.length = D0.np) (h : bexs B D0.body (bstart D0 ds) = some (.rt d o)) : brun B D0 ds = some (d, o) := by
  simp only [brun, hl, if_true, h, bresD]
end
end C
end
section
set_option Elab.async false
set_option linter.all false
set_option maxRecDepth 100000
/-! B14: loops by index. -/
namespace C
open PySem
theorem bfor_ix {body : BEnv → Option BFl} {tg : List Nat} {o : Bool} (ds : List D) (P : Nat → BEnv → Prop) (env : BEnv) (h0 : P 0 env)
    (step : ∀ i d env, ds[i]? = some d → P i env → ∃ env1 env2, bsetN tg d o env = some env1 ∧ body env1 = some (.nx env2) ∧ P (i + 1) env2) : ∃ env', bfor body tg o ds env = some (.nx env') ∧ P ds.length env' := by
  obtain ⟨env', h1, i, h2, h3, h4⟩ := bfor_inv (body := body) (tg := tg) (o := o) ds (fun xs env => ∃ i, xs = ds.drop i ∧ i ≤ ds.length ∧ P i env) env ⟨0, by rw [List.drop_zero], Nat.zero_le _, h0⟩ (by
    rintro x xs env ⟨i, e, hi, hp⟩
    have hx : ds[i]? = some x := by
      have : (ds.drop i)[0]? = some x := by rw [← e]; rfl
      rwa [List.getElem?_drop, Nat.add_zero] at this
    obtain ⟨env1, env2, a, b, c⟩ := step i x env hx hp
    refine ⟨env1, env2, a, b, i + 1, ?_, (List.getElem?_eq_some_iff.mp hx).1, c⟩
    rw [← List.drop_drop, ← e]
    rfl)
  have : i = ds.length := by
    have h5 : (ds.drop i).length = 0 := by rw [← h2]; rfl
    rw [List.length_drop] at h5
    omega
  subst this
  exact ⟨env', h1, h4⟩
/-- range(n) -/
theorem bfor_rng {body : BEnv → Option BFl} {j n : Nat} (P : Nat → BEnv → Prop) (env : BEnv) (h0 : P 0 env)
    (step : ∀ i env, i < n → P i env → ∃ env2, body (env.set j (some (.val (.int (i : Int)) false))) = some (.nx env2) ∧ P (i + 1) env2) : ∃ env', bfor body [j] false ((List.range n).map fun (i : Nat) => D.int (i : Int)) env = some (.nx env') ∧ P n env' := by
  obtain ⟨env', h1, h2⟩ := bfor_ix (body := body) (tg := [j]) (o := false) ((List.range n).map fun (i : Nat) => D.int (i : Int)) P env h0 (by
    intro i d env hd hp
    rw [List.getElem?_map] at hd
    have hi : i < n := by
      by_cases h : i < n
      · exact h
      · rw [List.getElem?_eq_none (by simpa using Nat.le_of_not_lt h)] at hd
        cases hd
    rw [List.getElem?_range hi] at hd
    cases hd
    obtain ⟨env2, a, b⟩ := step i env hi hp
    exact ⟨_, env2, by simp [bsetN], a, b⟩)
  exact ⟨env', h1, by simpa using h2⟩
end C
end
section
set_option Elab.async false
set_option linter.all false
set_option maxRecDepth 100000
set_option maxHeartbeats 1000000
/-! W1: from trees to the store: pure expressions, statements one by one. -/
namespace C
open PySem
section
variable {T : Tab} {fuel k : Nat} {S S' : Store} {cenv : Env} {benv : BEnv} {Γ : Cx}
theorem exs_cons {s : C.S} {ss : List C.S} {env : Env} : exs Γ (s :: ss) env S = (ex Γ s env S).seq fun e S1 => exs Γ ss e S1 := by
  conv => lhs; unfold exs
theorem exs_nil {env : Env} : exs Γ [] env S = .nx env S := by unfold exs; rfl
theorem exs_append : ∀ (a b : List C.S) (env : Env) (S : Store), exs Γ (a ++ b) env S = (exs Γ a env S).seq fun e S1 => exs Γ b e S1
  | [], b, env, S => by rw [List.nil_append, exs_nil]; rfl
  | s :: a, b, env, S => by
    rw [List.cons_append, exs_cons, exs_cons]
    cases h : ex Γ s env S with
    | nx e1 S1 => simp only [Fl.seq_nx]; exact exs_append a b e1 S1
    | rt v S1 => rfl
    | bk e1 S1 => rfl
    | exc c fs e1 S1 => rfl
    | bad => rfl
theorem no_ao {env : BEnv} {cenv : Env} (h : ∀ (i : Nat) (d : D) (o : Bool), env[i]? ≠ some (some (.own d o))) (n : Nat) : ¬ Ao env cenv NoX n := by
  rintro (z | ⟨i, d, o, z, _⟩)
  · exact z
  · exact h i d o z
/-- what the trees of names' values are in the store -/
structure BR' (S : Store) (Q : Nat → Prop) (benv : BEnv) (cenv : Env) : Prop where
  len : benv.length = cenv.length
  own : ∀ (i : Nat) (d : D) (o : Bool), benv[i]? ≠ some (some (.own d o))
  val : ∀ (i : Nat) (d : D) (o : Bool), benv[i]? = some (some (.val d o)) → ∃ v, cenv[i]? = some (some v) ∧ RD S Q d v ∧ (o = true ∨ d.flat = true)
theorem BR'.er {Q : Nat → Prop} (b : BR' S Q benv cenv) : ER' S.length Q NoX S benv cenv := by
  refine ⟨b.len, fun i d o h => ?_, fun i d o h => absurd h (b.own i d o), fun i j n d e o p h => absurd h (b.own i d o), fun n h => h.elim⟩
  obtain ⟨v, h1, h2, h3⟩ := b.val i d o h
  refine ⟨v, h1, ?_⟩
  rcases h3 with rfl | h3
  · exact h2.to fun n c q e => ⟨e, fun _ => ⟨rfl, q⟩, fun z => absurd z (no_ao b.own n)⟩
  · exact RD.flat h3 h2
/-- a pure expression -/
theorem ev_pure {Q : Nat → Prop} {e : E} {x : BV} (b : BR' S Q benv cenv) (h : bev ⟨T, bcall T fuel k, bmake T fuel k, fuel, false⟩ benv e = some x) :
    ∃ v S', ev ⟨T, callM T fuel k, fuel⟩ e cenv S = .ok v S' ∧ S <+: S' ∧ RD S' (fun n => S.length ≤ n ∨ (x.o = true ∧ Q n)) x.d v := by
  obtain ⟨v, S', h1, h2, h3, _⟩ := e_ok (bg_ok T fuel k) e NoX benv cenv S x (Nat.le_refl _) b.er h
  refine ⟨v, S', h1, h2, h3.to fun n c q e => ⟨e, ?_⟩⟩
  by_cases hn : n < S.length
  · exact .inr (q.1 hn)
  · exact .inl (by omega)
theorem callM_succ {f : Nat} {vs : List Val} {d : Def} (h : T.defs f = some d) : callM T fuel (k + 1) f vs S = runDef ⟨T, callM T fuel k, fuel⟩ d vs S := by
  conv => lhs; unfold callM
  rw [h]
theorem runDef_eq {d : Def} {vs : List Val} (h : vs.length = d.np) : runDef Γ d vs S = (exs Γ d.body (vs.map some ++ List.replicate (d.nv - d.np) none) S).res := by
  unfold runDef
  rw [if_pos h]
/-- a test that is known -/
theorem ex_if {c : E} {a b : List C.S} {v : Bool} (h : ev Γ c cenv S = .ok (.bl v) S') : ex Γ (.ifs c a b) cenv S = if v = true then exs Γ a cenv S' else exs Γ b cenv S' := by
  unfold ex
  rw [h, Res.flB_bl]
theorem ex_asg {i : Nat} {e : E} {v : Val} (h : ev Γ e cenv S = .ok v S') : ex Γ (.asg i e) cenv S = .nx (cenv.set i (some v)) S' := by
  unfold ex
  rw [h]
  rfl
theorem ex_ret {e : E} {v : Val} (h : ev Γ e cenv S = .ok v S') : ex Γ (.ret e) cenv S = .rt v S' := by
  unfold ex
  rw [h]
  rfl
theorem ex_setI {o i e : E} {v x j : Val} {S1 S2 S3 S4 : Store} (h1 : ev Γ e cenv S = .ok v S1) (h2 : ev Γ o cenv S1 = .ok x S2) (h3 : ev Γ i cenv S2 = .ok j S3) (h4 : setIV Γ x j v S3 = .ok () S4) : ex Γ (.setI o i e) cenv S = .nx cenv S4 := by
  unfold ex
  rw [h1]
  simp only [Res.fl_ok, h2, h3, h4]
theorem ev_var {i : Nat} {v : Val} (h : cenv[i]? = some (some v)) : ev Γ (.var i) cenv S = .ok v S := by
  unfold ev
  simp only [h]
theorem ev_cst {v : Val} : ev Γ (.cst v) cenv S = .ok v S := by unfold ev; rfl
theorem ev_sub {a i : E} {x y z : Val} {S1 S2 S3 : Store} (h1 : ev Γ a cenv S = .ok x S1) (h2 : ev Γ i cenv S1 = .ok y S2) (h3 : subV Γ x y S2 = .ok z S3) : ev Γ (.sub a i) cenv S = .ok z S3 := by
  unfold ev
  rw [h1]
  simp only [Res.bind_ok, h2, h3]
theorem ev_cmp {op : Cop} {a b : E} {x y : Val} {S1 S2 : Store} (h1 : ev Γ a cenv S = .ok x S1) (h2 : ev Γ b cenv S1 = .ok y S2) : ev Γ (.cmp op a b) cenv S = cmpV Γ op x y S2 := by
  conv => lhs; unfold ev
  rw [h1]
  simp only [Res.bind_ok, h2]
theorem ev_bin {op : Bop} {a b : E} {x y : Val} {S1 S2 : Store} (h1 : ev Γ a cenv S = .ok x S1) (h2 : ev Γ b cenv S1 = .ok y S2) : ev Γ (.bin op a b) cenv S = binV Γ op x y S2 := by
  conv => lhs; unfold ev
  rw [h1]
  simp only [Res.bind_ok, h2]
theorem ev_and {a b : E} {p : Bool} (h1 : ev Γ a cenv S = .ok (.bl p) S') : ev Γ (.and a b) cenv S = if p = true then ev Γ b cenv S' else .ok (.bl false) S' := by
  conv => lhs; unfold ev
  rw [h1]
  cases p <;> rfl
theorem ev_or {a b : E} {p : Bool} (h1 : ev Γ a cenv S = .ok (.bl p) S') : ev Γ (.or a b) cenv S = if p = true then .ok (.bl true) S' else ev Γ b cenv S' := by
  conv => lhs; unfold ev
  rw [h1]
  cases p <;> rfl
theorem ev_call {f : Nat} {es : List E} {xs : List Val} {S1 : Store} (h : evs Γ es cenv S = .ok xs S1) : ev Γ (.call f es) cenv S = Γ.call f xs S1 := by
  unfold ev
  rw [h]
  rfl
theorem evs_nil0 : evs Γ [] cenv S = .ok [] S := by unfold evs; rfl
theorem evs_cons0 {e : E} {es : List E} {x : Val} {xs : List Val} {S1 S2 : Store} (h1 : ev Γ e cenv S = .ok x S1) (h2 : evs Γ es cenv S1 = .ok xs S2) : evs Γ (e :: es) cenv S = .ok (x :: xs) S2 := by
  conv => lhs; unfold evs
  rw [h1]
  simp only [Res.bind_ok, h2]
theorem ev_not {a : E} {b : Bool} (h : ev Γ a cenv S = .ok (.bl b) S') : ev Γ (.not a) cenv S = .ok (.bl (!b)) S' := by
  unfold ev
  rw [h]
  cases b <;> rfl
/-- a list of strings in the store -/
theorem RDs_str {Q : Nat → Prop} : ∀ ws : List Str, RDs S Q (ws.map D.str) (ws.map Val.str)
  | [] => rfl
  | w :: ws => ⟨_, _, rfl, rfl, RDs_str ws⟩
end
end C
end
section
set_option Elab.async false
set_option linter.all false
set_option maxRecDepth 100000
set_option maxHeartbeats 4000000
namespace Lw
open PySem PySem.Spec L2 ItX C
open PyProof.Rows hiding St
def top (i : Nat) : Stmt := PySem.Challenge.pw_unshuffled_k07_rules_numbered.main.body.getD i (.Pass ⟨0, 0, 0, 0⟩)
/-- the names of attributes and methods -/
def nms : List Str := ["", "__iter__", "__contains__", "__or__", "__and__", "__len__", "__getitem__", "__setitem__", "__invert__", "__xor__", "__add__", "__iadd__", "__next__", "number", "table"]
/-! values_of -/
abbrev st1 : Stmt := top 20
abbrev sc1 : Scope := defScope st1
abbrev nm1 : List Str := ["key"]
theorem nd1 : nm1.Nodup := by decide +kernel
/-! values_of_number -/
abbrev st3 : Stmt := top 25
abbrev sc3 : Scope := defScope st3
abbrev nm3 : List Str := ["number", "values", "key", "counted", "other"]
theorem nd3 : nm3.Nodup := by decide +kernel
/-! Rule.__init__ -/
abbrev st4 : Stmt := inClass (top 26) 1
abbrev sc4 : Scope := defScope st4
abbrev nm4 : List Str := ["self", "values", "at", "key"]
theorem nd4 : nm4.Nodup := by decide +kernel
/-! Rule.from_number -/
abbrev st5 : Stmt := inClass (top 26) 2
abbrev sc5 : Scope := defScope st5
abbrev nm5 : List Str := ["number"]
theorem nd5 : nm5.Nodup := by decide +kernel
/-! Rule.number -/
abbrev st6 : Stmt := inClass (top 26) 3
abbrev sc6 : Scope := defScope st6
abbrev nm6 : List Str := ["self", "total", "weight", "key"]
theorem nd6 : nm6.Nodup := by decide +kernel
/-! Rule.__getitem__ -/
abbrev st7 : Stmt := inClass (top 26) 6
abbrev sc7 : Scope := defScope st7
abbrev nm7 : List Str := ["self", "key"]
theorem nd7 : nm7.Nodup := by decide +kernel
/-! Rule.__setitem__ -/
abbrev st8 : Stmt := inClass (top 26) 7
abbrev sc8 : Scope := defScope st8
abbrev nm8 : List Str := ["self", "key", "value"]
theorem nd8 : nm8.Nodup := by decide +kernel
/-! _law_cell -/
abbrev st10 : Stmt := top 28
abbrev sc10 : Scope := defScope st10
abbrev nm10 : List Str := ["script", "k"]
theorem nd10 : nm10.Nodup := by decide +kernel
/-! _law_whole -/
abbrev st11 : Stmt := top 29
abbrev sc11 : Scope := defScope st11
abbrev nm11 : List Str := ["actual"]
theorem nd11 : nm11.Nodup := by decide +kernel
/-! _law_same -/
abbrev st12 : Stmt := top 30
abbrev sc12 : Scope := defScope st12
abbrev nm12 : List Str := ["actual", "due", "k"]
theorem nd12 : nm12.Nodup := by decide +kernel
/-! _law_keys -/
abbrev st13 : Stmt := top 31
abbrev sc13 : Scope := defScope st13
abbrev nm13 : List Str := ["keys", "side", "word"]
theorem nd13 : nm13.Nodup := by decide +kernel
/-! _law_values -/
abbrev st14 : Stmt := top 32
abbrev sc14 : Scope := defScope st14
abbrev nm14 : List Str := ["number", "rest", "values", "k", "words"]
theorem nd14 : nm14.Nodup := by decide +kernel
/-! _law_other -/
abbrev st15 : Stmt := top 33
abbrev sc15 : Scope := defScope st15
abbrev nm15 : List Str := ["value", "pairs"]
theorem nd15 : nm15.Nodup := by decide +kernel
/-! _law_entries -/
abbrev st17 : Stmt := top 34
abbrev sc17 : Scope := defScope st17
abbrev nm17 : List Str := ["rule", "key"]
theorem nd17 : nm17.Nodup := by decide +kernel
/-! law -/
abbrev st19 : Stmt := top 39
abbrev sc19 : Scope := defScope st19
abbrev nm19 : List Str := ["script", "number", "second", "far", "asked", "one", "usual", "keys", "values", "rule", "other", "start", "changed", "k", "at", "cell"]
theorem nd19 : nm19.Nodup := by decide +kernel
/-! _law_number -/
abbrev st20 : Stmt := top 35
abbrev sc20 : Scope := defScope st20
abbrev nm20 : List Str := ["values", "total", "weight", "value"]
theorem nd20 : nm20.Nodup := by decide +kernel
/-! _law_cut -/
abbrev st21 : Stmt := top 36
abbrev sc21 : Scope := defScope st21
abbrev nm21 : List Str := ["cell"]
theorem nd21 : nm21.Nodup := by decide +kernel
/-! _law_refused -/
abbrev st22 : Stmt := top 37
abbrev sc22 : Scope := defScope st22
abbrev nm22 : List Str := ["number", "e", "others"]
theorem nd22 : nm22.Nodup := by decide +kernel
/-! _law_asked -/
abbrev st23 : Stmt := top 38
abbrev sc23 : Scope := defScope st23
abbrev nm23 : List Str := ["number", "rule"]
theorem nd23 : nm23.Nodup := by decide +kernel
def tabD (n : Nat) : Option Def := match n with
  | 1 => some P.d1
  | 3 => some P.d3
  | 4 => some P.d4
  | 5 => some P.d5v1
  | 6 => some P.d6
  | 7 => some P.d7v1
  | 8 => some P.d8v1
  | 10 => some P.d10
  | 11 => some P.d11
  | 12 => some P.d12
  | 13 => some P.d13
  | 14 => some P.d14
  | 15 => some P.d15
  | 17 => some P.d17
  | 19 => some P.d19v1
  | 20 => some P.d20
  | 21 => some P.d21
  | 22 => some P.d22
  | 23 => some P.d23
  | _ => none
def tabC (n : Nat) : Option ClsI := match n with
  | 0 => some { meths := [(6, 7), (7, 8)], init := some 4, fields := [14], itf := none, props := [(13, 6)] }
  | _ => none
def tab : Tab := ⟨tabD, tabC⟩
def tyT0 (ca : Nat → Addr) (n : Nat) : Value := match n with
  | 1000 => .ref (ca 2)
  | 1001 => .ref (ca 3)
  | 1002 => .ref (ca 4)
  | 1003 => .ref (ca 5)
  | 1004 => .ref (ca 6)
  | 1005 => .ref (ca 7)
  | 1006 => .ref (ca 8)
  | 1007 => .ref (ca 9)
  | 1008 => .ref (ca 10)
  | 1009 => .ref (ca 11)
  | 1010 => .ref (ca 12)
  | 1011 => .type "ValueError"
  | _ => .none
/-- what the derivations lean on -/
structure Facts (L : Lk) (ca : Nat → Addr) (cv : Nat → Value) : Prop where
  T : L.T = tab
  nm : L.names = nms
  n_ValueError : L.mg "ValueError" = none
  n_bool : L.mg "bool" = none
  n_enumerate : L.mg "enumerate" = none
  n_int : L.mg "int" = none
  n_isinstance : L.mg "isinstance" = none
  n_len : L.mg "len" = none
  n_list : L.mg "list" = none
  n_range : L.mg "range" = none
  n_str : L.mg "str" = none
  n_tuple : L.mg "tuple" = none
  g_values_of : L.mg "values_of" = some (.ref (L.fn 1).a)
  g_values_of_number : L.mg "values_of_number" = some (.ref (L.fn 3).a)
  g__law_cell : L.mg "_law_cell" = some (.ref (L.fn 10).a)
  g__law_whole : L.mg "_law_whole" = some (.ref (L.fn 11).a)
  g__law_same : L.mg "_law_same" = some (.ref (L.fn 12).a)
  g__law_keys : L.mg "_law_keys" = some (.ref (L.fn 13).a)
  g__law_values : L.mg "_law_values" = some (.ref (L.fn 14).a)
  g__law_other : L.mg "_law_other" = some (.ref (L.fn 15).a)
  g__law_entries : L.mg "_law_entries" = some (.ref (L.fn 17).a)
  g_law : L.mg "law" = some (.ref (L.fn 19).a)
  g__law_number : L.mg "_law_number" = some (.ref (L.fn 20).a)
  g__law_cut : L.mg "_law_cut" = some (.ref (L.fn 21).a)
  g__law_refused : L.mg "_law_refused" = some (.ref (L.fn 22).a)
  g__law_asked : L.mg "_law_asked" = some (.ref (L.fn 23).a)
  g_Rule : L.mg "Rule" = some (.ref (ca 0))
  ca_Rule : L.caddr 0 = some (ca 0)
  g_KEYS : L.mg "KEYS" = some (cv 0)
  k_KEYS : kvB L.K P.kKEYS (cv 0) = true
  g_USUAL : L.mg "USUAL" = some (cv 1)
  k_USUAL : kvB L.K P.kUSUAL (cv 1) = true
  g_MANY : L.mg "MANY" = some (cv 2)
  k_MANY : kvB L.K P.kMANY (cv 2) = true
  fnin : ∀ f d, L.T.defs f = some d → PySem.W.fnIn L.K (L.fn f).a = true
  prp : PrpOk L
  df_4_1 : Dfl L 4 [.non]
  s_Rule_from_number : SMet L.K (ca 0) "from_number" (L.fn 5).a
  isi_0 : IsisOk L 0
  g_InvalidNumber : L.mg "InvalidNumber" = some (.ref (ca 1))
  ca_InvalidNumber : L.caddr 1 = some (ca 1)
  g_InvalidEntry : L.mg "InvalidEntry" = some (.ref (ca 2))
  ca_InvalidEntry : L.caddr 2 = some (ca 2)
  g_InvalidNotation : L.mg "InvalidNotation" = some (.ref (ca 3))
  ca_InvalidNotation : L.caddr 3 = some (ca 3)
  g_InvalidEvent : L.mg "InvalidEvent" = some (.ref (ca 4))
  ca_InvalidEvent : L.caddr 4 = some (ca 4)
  g_OutOfScript : L.mg "OutOfScript" = some (.ref (ca 5))
  ca_OutOfScript : L.caddr 5 = some (ca 5)
  g_EventRefused : L.mg "EventRefused" = some (.ref (ca 6))
  ca_EventRefused : L.caddr 6 = some (ca 6)
  g_UnknownSign : L.mg "UnknownSign" = some (.ref (ca 7))
  ca_UnknownSign : L.caddr 7 = some (ca 7)
  g_NotSiblings : L.mg "NotSiblings" = some (.ref (ca 8))
  ca_NotSiblings : L.caddr 8 = some (ca 8)
  g_NotMirrored : L.mg "NotMirrored" = some (.ref (ca 9))
  ca_NotMirrored : L.caddr 9 = some (ca 9)
  g_CopyError : L.mg "CopyError" = some (.ref (ca 10))
  ca_CopyError : L.caddr 10 = some (ca 10)
  g_JudgeError : L.mg "JudgeError" = some (.ref (ca 11))
  ca_JudgeError : L.caddr 11 = some (ca 11)
  g_UnshuffledError : L.mg "UnshuffledError" = some (.ref (ca 12))
  ca_UnshuffledError : L.caddr 12 = some (ca 12)
  xc_InvalidNumber : XcOk L.K (ca 1)
  xc_InvalidEntry : XcOk L.K (ca 2)
  try_0 : TryOk L (.ref (ca 1)) (tyT0 ca) [(1, true), (2, false)] [(1, [(1000, false), (1001, false), (1002, false), (1003, false), (1004, false), (1005, false), (1006, false), (1007, false), (1008, false), (1009, false), (1010, true), (1011, true)])]
  cc_Rule_COUNT : CCst L.K (ca 0) "COUNT" (.int 131072)
section
variable {L : Lk} {ca : Nat → Addr} {cv : Nat → Value}
theorem Facts.defs (F : Facts L ca cv) (n : Nat) : L.T.defs n = tabD n := by rw [F.T]; rfl
theorem Facts.cls (F : Facts L ca cv) (n : Nat) : L.T.cls n = tabC n := by rw [F.T]; rfl
theorem Facts.names (F : Facts L ca cv) (n : Nat) : L.names[n]? = nms[n]? := by rw [F.nm]
theorem Facts.nmIn (F : Facts L ca cv) : L.names[mContains]? = some "__contains__" := F.names 2
theorem cls_cases {P : Nat → ClsI → Prop} (h : ∀ p ∈ ([0] : List Nat), ∀ ci, tabC p = some ci → P p ci) : ∀ c ci, tabC c = some ci → P c ci := fun c ci e => by
  unfold tabC at e
  split at e
  · exact h 0 (by decide) ci e
  · cases e
variable {base : Heap} {Γ : C.Cx} {W : WX} {k : Nat} {cdv : Value} {A : Around} {outer : List PySem.Env} {s : Shared} {H : Hp} {E : XK}
theorem b1 (F : Facts L ca cv) (G : Good (XB L base nm1 "values_of" st1 (L.fn 1).a cdv A outer s H E) L Γ W k) : PSs (XB L base nm1 "values_of" st1 (L.fn 1).a cdv A outer s H E) (defBody st1) (tS L W (exs Γ P.d1.body)) :=
  (s_cons (s_if (mt_cmp (o_eq G.hK G.hu) (m_sub G (m_var (pv 0)) m_int (fun _ _ => rfl) (ownGet G (F.names mGet) F.fnin)) m_str) (s_cons (s_ret (m_tup (m_cons m_str (m_cons m_str m_nil)))) s_nil) s_nil) (s_cons (s_ret (m_tup (m_cons m_str (m_cons m_str m_nil)))) s_nil))
theorem b3 (F : Facts L ca cv) (G : Good (XB L base nm3 "values_of_number" st3 (L.fn 3).a cdv A outer s H E) L Γ W k) : PSs (XB L base nm3 "values_of_number" st3 (L.fn 3).a cdv A outer s H E) (defBody st3) (tS L W (exs Γ P.d3.body)) :=
  (s_cons (s_set nd3 (m_lst m_nil)) (s_cons (s_for rfl passX (m_iter G (m_gcst G rfl F.g_KEYS F.k_KEYS)) (g_one (pg_name nd3 rfl (by first | exact Or.inl rfl | exact Or.inr rfl))) (s_cons (s_asgT (m_call G (F.defs 1) rfl F.g_values_of (m_cons (m_var (pv 2)) m_nil)) (g_tup G.hK rfl (g_cons (pg_name nd3 rfl (by first | exact Or.inl rfl | exact Or.inr rfl)) (g_cons (pg_name nd3 rfl (by first | exact Or.inl rfl | exact Or.inr rfl)) g_nil)) rfl)) (s_cons (s_expr (m_append G (m_var (pv 1)) (m_ite (mt_cmp (o_eq G.hK G.hu) (m_bin o_mod (m_var (pv 0)) m_int) m_int) (m_var (pv 3)) (m_var (pv 4))))) (s_cons (s_set nd3 (m_bin o_fdiv (m_var (pv 0)) m_int)) s_nil)))) (s_cons (s_ret (m_var (pv 1))) s_nil)))
theorem b4 (F : Facts L ca cv) (G : Good (XB L base nm4 "Rule.__init__" st4 (L.fn 4).a cdv A outer s H E) L Γ W k) : PSs (XB L base nm4 "Rule.__init__" st4 (L.fn 4).a cdv A outer s H E) (defBody st4) (tS L W (exs Γ P.d4.body)) :=
  (s_cons (s_if (mt_isN (m_var (pv 1))) (s_cons (s_set nd4 (m_call G (F.defs 3) rfl F.g_values_of_number (m_cons (m_gcst G rfl F.g_USUAL F.k_USUAL) m_nil))) s_nil) s_nil) (s_cons (s_fld G (F.names 14) (m_var (pv 0)) (m_dc (own := [("at", 2), ("key", 3)]) G nd4 (m_enum G rfl F.n_enumerate (m_cons (m_gcst G rfl F.g_KEYS F.k_KEYS) m_nil)) (blk_by nm4 sc4 (by decide +kernel)) (by decide) (fun _ _ _ _ _ => (g_tup G.blk.hK rfl (g_cons (pg_name nd4 rfl (by first | exact Or.inl rfl | exact Or.inr rfl)) (g_cons (pg_name nd4 rfl (by first | exact Or.inl rfl | exact Or.inr rfl)) g_nil)) rfl)) (fun _ _ _ _ _ => (m_var (pv 3))) (fun _ _ _ _ _ => (m_sub G.blk (m_var (pv 1)) (m_var (pv 2)) (fun _ _ => rfl) (ownGet G.blk (F.names mGet) F.fnin))))) s_nil))
theorem b5 (F : Facts L ca cv) (G : Good (XB L base nm5 "Rule.from_number" st5 (L.fn 5).a cdv A outer s H E) L Γ W k) : PSs (XB L base nm5 "Rule.from_number" st5 (L.fn 5).a cdv A outer s H E) (defBody st5) (tS L W (exs Γ P.d5v1.body)) :=
  (s_cons (s_if (PW.pt (mt_or (mt_cmp (o_lt G.hK G.hu) (m_var (pv 0)) m_int) (mt_or1 (mt_cmp o_ge (m_var (pv 0)) (m_gcst G rfl F.g_MANY F.k_MANY))))) (s_cons (s_raise G F.ca_InvalidNumber F.xc_InvalidNumber rfl F.g_InvalidNumber) s_nil) s_nil) (s_cons (s_ret (m_make G (F.cls 0) rfl F.ca_Rule rfl F.g_Rule (m_cons (m_call G (F.defs 3) rfl F.g_values_of_number (m_cons (m_var (pv 0)) m_nil)) m_nil))) s_nil))
theorem b6 (F : Facts L ca cv) (G : Good (XB L base nm6 "Rule.number" st6 (L.fn 6).a cdv A outer s H E) L Γ W k) : PSs (XB L base nm6 "Rule.number" st6 (L.fn 6).a cdv A outer s H E) (defBody st6) (tS L W (exs Γ P.d6.body)) :=
  (s_cons (s_set nd6 m_int) (s_cons (s_set nd6 m_int) (s_cons (s_for rfl passX (m_iter G (m_gcst G rfl F.g_KEYS F.k_KEYS)) (g_one (pg_name nd6 rfl (by first | exact Or.inl rfl | exact Or.inr rfl))) (s_cons (s_if (mt_cmp (o_eq G.hK G.hu) (m_sub G (m_attr G (F.names 14) (m_var (pv 0))) (m_var (pv 3)) (fun _ _ => rfl) (ownGet G (F.names mGet) F.fnin)) (m_sub G (m_call G (F.defs 1) rfl F.g_values_of (m_cons (m_var (pv 3)) m_nil)) m_int (fun _ _ => rfl) (ownGet G (F.names mGet) F.fnin))) (s_cons (s_set nd6 (m_bin o_add (m_var (pv 1)) (m_var (pv 2)))) s_nil) s_nil) (s_cons (s_set nd6 (m_bin o_mul (m_var (pv 2)) m_int)) s_nil))) (s_cons (s_ret (m_var (pv 1))) s_nil))))
theorem b7 (F : Facts L ca cv) (G : Good (XB L base nm7 "Rule.__getitem__" st7 (L.fn 7).a cdv A outer s H E) L Γ W k) : PSs (XB L base nm7 "Rule.__getitem__" st7 (L.fn 7).a cdv A outer s H E) (defBody st7) (tS L W (exs Γ P.d7v1.body)) :=
  (s_cons (s_if (mt_cmp (o_notin G F.nmIn) (m_var (pv 1)) (m_gcst G rfl F.g_KEYS F.k_KEYS)) (s_cons (s_raise G F.ca_InvalidEntry F.xc_InvalidEntry rfl F.g_InvalidEntry) s_nil) s_nil) (s_cons (s_ret (m_sub G (m_attr G (F.names 14) (m_var (pv 0))) (m_var (pv 1)) (fun _ _ => rfl) (ownGet G (F.names mGet) F.fnin))) s_nil))
theorem b8 (F : Facts L ca cv) (G : Good (XB L base nm8 "Rule.__setitem__" st8 (L.fn 8).a cdv A outer s H E) L Γ W k) : PSs (XB L base nm8 "Rule.__setitem__" st8 (L.fn 8).a cdv A outer s H E) (defBody st8) (tS L W (exs Γ P.d8v1.body)) :=
  (s_cons (s_if (mt_cmp (o_notin G F.nmIn) (m_var (pv 1)) (m_gcst G rfl F.g_KEYS F.k_KEYS)) (s_cons (s_raise G F.ca_InvalidEntry F.xc_InvalidEntry rfl F.g_InvalidEntry) s_nil) s_nil) (s_cons (s_if (mt_cmp (o_notin G F.nmIn) (m_var (pv 2)) (m_call G (F.defs 1) rfl F.g_values_of (m_cons (m_var (pv 1)) m_nil))) (s_cons (s_raise G F.ca_InvalidEntry F.xc_InvalidEntry rfl F.g_InvalidEntry) s_nil) s_nil) (s_cons (s_setI G (ownSet G (F.names mSet)) (m_attr G (F.names 14) (m_var (pv 0))) (m_var (pv 1)) (m_var (pv 2))) s_nil)))
theorem b10 (F : Facts L ca cv) (G : Good (XB L base nm10 "_law_cell" st10 (L.fn 10).a cdv A outer s H E) L Γ W k) : PSs (XB L base nm10 "_law_cell" st10 (L.fn 10).a cdv A outer s H E) (defBody st10) (tS L W (exs Γ P.d10.body)) :=
  (s_cons (s_if (mt_cmp (o_lt G.hK G.hu) (m_var (pv 1)) (m_blt G (b_len G) rfl F.n_len bt_len (m_cons (m_var (pv 0)) m_nil))) (s_cons (s_ret (m_sub G (m_var (pv 0)) (m_var (pv 1)) (fun _ _ => rfl) (ownGet G (F.names mGet) F.fnin))) s_nil) s_nil) (s_cons (s_ret m_int) s_nil))
theorem b11 (F : Facts L ca cv) (G : Good (XB L base nm11 "_law_whole" st11 (L.fn 11).a cdv A outer s H E) L Γ W k) : PSs (XB L base nm11 "_law_whole" st11 (L.fn 11).a cdv A outer s H E) (defBody st11) (tS L W (exs Γ P.d11.body)) :=
  (s_cons (s_ret (m_and (m_isi G (m_var (pv 0)) rfl F.n_isinstance rfl F.n_int bt_int rfl) (m_one (m_not (m_isi G (m_var (pv 0)) rfl F.n_isinstance rfl F.n_bool bt_bool rfl))))) s_nil)
theorem b12 (F : Facts L ca cv) (G : Good (XB L base nm12 "_law_same" st12 (L.fn 12).a cdv A outer s H E) L Γ W k) : PSs (XB L base nm12 "_law_same" st12 (L.fn 12).a cdv A outer s H E) (defBody st12) (tS L W (exs Γ P.d12.body)) :=
  (s_cons (s_if (mt_isN (m_var (pv 1))) (s_cons (s_ret (m_isN (m_var (pv 0)))) s_nil) s_nil) (s_cons (s_if (mt_val (m_isi G (m_var (pv 1)) rfl F.n_isinstance rfl F.n_bool bt_bool rfl)) (s_cons (s_ret (m_and (m_isi G (m_var (pv 0)) rfl F.n_isinstance rfl F.n_bool bt_bool rfl) (m_one (m_cmp (o_eq G.hK G.hu) (m_var (pv 0)) (m_var (pv 1)))))) s_nil) s_nil) (s_cons (s_if (mt_val (m_isi G (m_var (pv 1)) rfl F.n_isinstance rfl F.n_int bt_int rfl)) (s_cons (s_ret (m_and (m_call G (F.defs 11) rfl F.g__law_whole (m_cons (m_var (pv 0)) m_nil)) (m_one (m_cmp (o_eq G.hK G.hu) (m_var (pv 0)) (m_var (pv 1)))))) s_nil) s_nil) (s_cons (s_if (mt_val (m_isi G (m_var (pv 1)) rfl F.n_isinstance rfl F.n_str bt_str rfl)) (s_cons (s_ret (m_and (m_isi G (m_var (pv 0)) rfl F.n_isinstance rfl F.n_str bt_str rfl) (m_one (m_cmp (o_eq G.hK G.hu) (m_var (pv 0)) (m_var (pv 1)))))) s_nil) s_nil) (s_cons (s_if (PW.pt (mt_and (mt_val (m_isi G (m_var (pv 1)) rfl F.n_isinstance rfl F.n_list bt_list rfl)) (mt_and1 (mt_not (mt_val (m_isi G (m_var (pv 0)) rfl F.n_isinstance rfl F.n_list bt_list rfl)))))) (s_cons (s_ret m_bl) s_nil) s_nil) (s_cons (s_if (PW.pt (mt_and (mt_val (m_isi G (m_var (pv 1)) rfl F.n_isinstance rfl F.n_tuple bt_tuple rfl)) (mt_and1 (mt_not (mt_val (m_isi G (m_var (pv 0)) rfl F.n_isinstance rfl F.n_tuple bt_tuple rfl)))))) (s_cons (s_ret m_bl) s_nil) s_nil) (s_cons (s_if (mt_cmp (o_ne G.hK G.hu) (m_blt G (b_len G) rfl F.n_len bt_len (m_cons (m_var (pv 0)) m_nil)) (m_blt G (b_len G) rfl F.n_len bt_len (m_cons (m_var (pv 1)) m_nil))) (s_cons (s_ret m_bl) s_nil) s_nil) (s_cons (s_for rfl passX (m_rng1 G rfl F.n_range (m_cons (m_blt G (b_len G) rfl F.n_len bt_len (m_cons (m_var (pv 1)) m_nil)) m_nil)) (g_one (pg_name nd12 rfl (by first | exact Or.inl rfl | exact Or.inr rfl))) (s_cons (s_if (mt_not (mt_val (m_call G (F.defs 12) rfl F.g__law_same (m_cons (m_sub G (m_var (pv 0)) (m_var (pv 2)) (fun _ _ => rfl) (ownGet G (F.names mGet) F.fnin)) (m_cons (m_sub G (m_var (pv 1)) (m_var (pv 2)) (fun _ _ => rfl) (ownGet G (F.names mGet) F.fnin)) m_nil))))) (s_cons (s_ret m_bl) s_nil) s_nil) s_nil)) (s_cons (s_ret m_bl) s_nil)))))))))
theorem b13 (F : Facts L ca cv) (G : Good (XB L base nm13 "_law_keys" st13 (L.fn 13).a cdv A outer s H E) L Γ W k) : PSs (XB L base nm13 "_law_keys" st13 (L.fn 13).a cdv A outer s H E) (defBody st13) (tS L W (exs Γ P.d13.body)) :=
  (s_cons (s_set nd13 (m_lst m_nil)) (s_cons (s_for rfl passX (m_iter G (m_lst (m_cons m_str (m_cons m_str m_nil)))) (g_one (pg_name nd13 rfl (by first | exact Or.inl rfl | exact Or.inr rfl))) (s_cons (s_for rfl passX (m_iter G (m_lst (m_cons m_str (m_cons m_str (m_cons m_str (m_cons m_str m_nil)))))) (g_one (pg_name nd13 rfl (by first | exact Or.inl rfl | exact Or.inr rfl))) (s_cons (s_expr (m_append G (m_var (pv 0)) (m_tup (m_cons (m_var (pv 1)) (m_cons m_str (m_cons (m_var (pv 2)) m_nil)))))) s_nil)) (s_cons (s_expr (m_append G (m_var (pv 0)) (m_tup (m_cons (m_var (pv 1)) (m_cons m_str (m_cons m_str m_nil)))))) (s_cons (s_expr (m_append G (m_var (pv 0)) (m_tup (m_cons (m_var (pv 1)) (m_cons m_str (m_cons m_str m_nil)))))) s_nil)))) (s_cons (s_for rfl passX (m_iter G (m_lst (m_cons m_str (m_cons m_str (m_cons m_str (m_cons m_str (m_cons m_str m_nil))))))) (g_one (pg_name nd13 rfl (by first | exact Or.inl rfl | exact Or.inr rfl))) (s_cons (s_expr (m_append G (m_var (pv 0)) (m_tup (m_cons m_str (m_cons (m_var (pv 2)) m_nil))))) s_nil)) (s_cons (s_ret (m_var (pv 0))) s_nil))))
theorem b14 (F : Facts L ca cv) (G : Good (XB L base nm14 "_law_values" st14 (L.fn 14).a cdv A outer s H E) L Γ W k) : PSs (XB L base nm14 "_law_values" st14 (L.fn 14).a cdv A outer s H E) (defBody st14) (tS L W (exs Γ P.d14.body)) :=
  (s_cons (s_set nd14 (m_bin o_mod (m_bltT G (b_int) rfl F.n_int bt_int (m_cons (m_var (pv 0)) m_nil)) m_int)) (s_cons (s_set nd14 (m_lst m_nil)) (s_cons (s_for rfl passX (m_rng1 G rfl F.n_range (m_cons m_int m_nil)) (g_one (pg_name nd14 rfl (by first | exact Or.inl rfl | exact Or.inr rfl))) (s_cons (s_set nd14 (m_lst (m_cons m_str (m_cons m_str m_nil)))) (s_cons (s_if (mt_cmp o_ge (m_var (pv 3)) m_int) (s_cons (s_set nd14 (m_lst (m_cons m_str (m_cons m_str m_nil)))) s_nil) s_nil) (s_cons (s_expr (m_append G (m_var (pv 2)) (m_sub G (m_var (pv 4)) (m_bin o_mod (m_var (pv 1)) m_int) (fun _ _ => rfl) (ownGet G (F.names mGet) F.fnin)))) (s_cons (s_set nd14 (m_bin o_fdiv (m_var (pv 1)) m_int)) s_nil))))) (s_cons (s_ret (m_var (pv 2))) s_nil))))
theorem b15 (F : Facts L ca cv) (G : Good (XB L base nm15 "_law_other" st15 (L.fn 15).a cdv A outer s H E) L Γ W k) : PSs (XB L base nm15 "_law_other" st15 (L.fn 15).a cdv A outer s H E) (defBody st15) (tS L W (exs Γ P.d15.body)) :=
  (s_cons (s_set nd15 (m_dcs (kvs := [("near", "far"), ("far", "near"), ("behind", "ahead"), ("ahead", "behind")]) G (pps_cons pe_str pe_str (pps_cons pe_str pe_str (pps_cons pe_str pe_str (pps_cons pe_str pe_str pps_nil)))) (by decide +kernel) rfl rfl rfl (by intro z; cases z) (by decide))) (s_cons (s_ret (m_sub G (m_var (pv 1)) (m_var (pv 0)) (fun _ _ => rfl) (ownGet G (F.names mGet) F.fnin))) s_nil))
theorem b17 (F : Facts L ca cv) (G : Good (XB L base nm17 "_law_entries" st17 (L.fn 17).a cdv A outer s H E) L Γ W k) : PSs (XB L base nm17 "_law_entries" st17 (L.fn 17).a cdv A outer s H E) (defBody st17) (tS L W (exs Γ P.d17.body)) :=
  (s_cons (s_ret (m_lc (own := [("key", 1)]) G nd17 (m_iter G (m_call0 G (F.defs 13) rfl F.g__law_keys)) (blk_by nm17 sc17 (by decide +kernel)) (by decide) (fun _ _ _ _ _ => (g_one (pg_name nd17 rfl (by first | exact Or.inl rfl | exact Or.inr rfl)))) (fun _ _ _ _ _ => pts0) (fun _ _ _ _ _ => (m_sub G.blk (m_var (pv 0)) (m_var (pv 1)) (fun _ _ => rfl) (ownGet G.blk (F.names mGet) F.fnin))))) s_nil)
theorem b19 (F : Facts L ca cv) (G : Good (XB L base nm19 "law" st19 (L.fn 19).a cdv A outer s H E) L Γ W k) : PSs (XB L base nm19 "law" st19 (L.fn 19).a cdv A outer s H E) (defBody st19) (tS L W (exs Γ P.d19v1.body)) :=
  (s_cons (s_set nd19 (m_bin o_mod (m_bltT G (b_int) rfl F.n_int bt_int (m_cons (m_call G (F.defs 10) rfl F.g__law_cell (m_cons (m_var (pv 0)) (m_cons m_int m_nil))) m_nil)) m_int)) (s_cons (s_set nd19 (m_bin o_mod (m_bltT G (b_int) rfl F.n_int bt_int (m_cons (m_call G (F.defs 10) rfl F.g__law_cell (m_cons (m_var (pv 0)) (m_cons m_int m_nil))) m_nil)) m_int)) (s_cons (s_set nd19 (m_call G (F.defs 21) rfl F.g__law_cut (m_cons (m_call G (F.defs 10) rfl F.g__law_cell (m_cons (m_var (pv 0)) (m_cons m_int m_nil))) m_nil))) (s_cons (s_if (mt_cmp (o_lt G.hK G.hu) (m_var (pv 3)) m_int) (s_cons (s_set nd19 (m_bin o_sub (m_neg m_int) (m_var (pv 3)))) s_nil) s_nil) (s_cons (s_set nd19 (m_lst (m_cons (m_var (pv 1)) (m_cons (m_var (pv 2)) (m_cons m_int (m_cons m_int (m_cons (m_bin o_sub m_int (m_var (pv 1))) (m_cons (m_neg m_int) (m_cons m_int (m_cons (m_bin o_add m_int (m_var (pv 3))) (m_cons (m_bin o_sub (m_neg m_int) (m_var (pv 3))) m_nil))))))))))) (s_cons (s_for rfl passX (m_iter G (m_bin o_add (m_var (pv 4)) (m_lc (own := [("cell", 15)]) G nd19 (m_iter G (m_slc G (m_var (pv 0)) mo_none (mo_some m_int))) (blk_by nm19 sc19 (by decide +kernel)) (by decide) (fun _ _ _ _ _ => (g_one (pg_name nd19 rfl (by first | exact Or.inl rfl | exact Or.inr rfl)))) (fun _ _ _ _ _ => pts0) (fun _ _ _ _ _ => (m_call G.blk (F.defs 21) rfl F.g__law_cut (m_cons (m_var (pv 15)) m_nil)))))) (g_one (pg_name nd19 rfl (by first | exact Or.inl rfl | exact Or.inr rfl))) (s_cons (s_if (mt_not (mt_val (m_call G (F.defs 23) rfl F.g__law_asked (m_cons (m_var (pv 5)) m_nil)))) (s_cons (s_ret m_bl) s_nil) s_nil) s_nil)) (s_cons (s_set nd19 (m_lst (m_cons m_str (m_cons m_str (m_cons m_str (m_cons m_str (m_cons m_str (m_cons m_str m_nil)))))))) (s_cons (s_set nd19 (m_bin o_add (m_bin o_add (m_var (pv 6)) (m_var (pv 6))) (m_lst (m_cons m_str (m_cons m_str (m_cons m_str (m_cons m_str (m_cons m_str m_nil)))))))) (s_cons (s_if (PW.pt (mt_or (mt_not (mt_val (m_call G (F.defs 12) rfl F.g__law_same (m_cons (m_call G (F.defs 17) rfl F.g__law_entries (m_cons (m_makeD0 (dv := [.non]) G (F.cls 0) rfl F.df_4_1 F.ca_Rule rfl F.g_Rule) m_nil)) (m_cons (m_var (pv 6)) m_nil))))) (mt_or1 (mt_not (mt_val (m_call G (F.defs 12) rfl F.g__law_same (m_cons (m_prp G F.prp (F.names 13) (m_makeD0 (dv := [.non]) G (F.cls 0) rfl F.df_4_1 F.ca_Rule rfl F.g_Rule)) (m_cons m_int m_nil)))))))) (s_cons (s_ret m_bl) s_nil) s_nil) (s_cons (s_if (mt_not (mt_val (m_call G (F.defs 12) rfl F.g__law_same (m_cons (m_ccst G rfl F.g_Rule F.cc_Rule_COUNT) (m_cons m_int m_nil))))) (s_cons (s_ret m_bl) s_nil) s_nil) (s_cons (s_set nd19 (m_call0 G (F.defs 13) rfl F.g__law_keys)) (s_cons (s_set nd19 (m_call G (F.defs 14) rfl F.g__law_values (m_cons (m_var (pv 1)) m_nil))) (s_cons (s_set nd19 (m_scall (dv := []) (ms := [.var 1]) G (F.defs 5) (Dfl.none G.link (F.defs 5)) rfl F.g_Rule F.s_Rule_from_number (m_cons (m_var (pv 1)) m_nil))) (s_cons (s_set nd19 (m_scall (dv := []) (ms := [.var 2]) G (F.defs 5) (Dfl.none G.link (F.defs 5)) rfl F.g_Rule F.s_Rule_from_number (m_cons (m_var (pv 2)) m_nil))) (s_cons (s_set nd19 (m_bin o_mod (m_bltT G (b_int) rfl F.n_int bt_int (m_cons (m_call G (F.defs 10) rfl F.g__law_cell (m_cons (m_var (pv 0)) (m_cons m_int m_nil))) m_nil)) m_int)) (s_cons (s_set nd19 (m_makeD0 (dv := [.non]) G (F.cls 0) rfl F.df_4_1 F.ca_Rule rfl F.g_Rule)) (s_cons (s_setI G (ownSet G (F.names mSet)) (m_var (pv 12)) (m_sub G (m_var (pv 7)) (m_var (pv 11)) (fun _ _ => rfl) (ownGet G (F.names mGet) F.fnin)) (m_call G (F.defs 15) rfl F.g__law_other (m_cons (m_sub G (m_var (pv 6)) (m_var (pv 11)) (fun _ _ => rfl) (ownGet G (F.names mGet) F.fnin)) m_nil))) (s_cons (s_if (mt_not (mt_val (m_call G (F.defs 12) rfl F.g__law_same (m_cons (m_call G (F.defs 17) rfl F.g__law_entries (m_cons (m_makeD0 (dv := [.non]) G (F.cls 0) rfl F.df_4_1 F.ca_Rule rfl F.g_Rule) m_nil)) (m_cons (m_var (pv 6)) m_nil))))) (s_cons (s_ret m_bl) s_nil) s_nil) (s_cons (s_for rfl passX (m_rng1 G rfl F.n_range (m_cons m_int m_nil)) (g_one (pg_name nd19 rfl (by first | exact Or.inl rfl | exact Or.inr rfl))) (s_cons (s_set nd19 (m_bin o_mod (m_bin o_add (m_var (pv 11)) (m_var (pv 13))) m_int)) (s_cons (s_setI G (ownSet G (F.names mSet)) (m_var (pv 8)) (m_var (pv 14)) (m_call G (F.defs 15) rfl F.g__law_other (m_cons (m_sub G (m_var (pv 8)) (m_var (pv 14)) (fun _ _ => rfl) (ownGet G (F.names mGet) F.fnin)) m_nil))) (s_cons (s_setI G (ownSet G (F.names mSet)) (m_var (pv 9)) (m_sub G (m_var (pv 7)) (m_var (pv 14)) (fun _ _ => rfl) (ownGet G (F.names mGet) F.fnin)) (m_sub G (m_var (pv 8)) (m_var (pv 14)) (fun _ _ => rfl) (ownGet G (F.names mGet) F.fnin))) (s_cons (s_if (PW.pt (mt_or (mt_not (mt_val (m_call G (F.defs 12) rfl F.g__law_same (m_cons (m_prp G F.prp (F.names 13) (m_var (pv 9))) (m_cons (m_call G (F.defs 20) rfl F.g__law_number (m_cons (m_var (pv 8)) m_nil)) m_nil))))) (mt_or1 (mt_not (mt_val (m_call G (F.defs 12) rfl F.g__law_same (m_cons (m_prp G F.prp (F.names 13) (m_var (pv 10))) (m_cons (m_var (pv 2)) m_nil)))))))) (s_cons (s_ret m_bl) s_nil) s_nil) s_nil))))) (s_cons (s_ret (m_and (m_call G (F.defs 12) rfl F.g__law_same (m_cons (m_call G (F.defs 17) rfl F.g__law_entries (m_cons (m_var (pv 9)) m_nil)) (m_cons (m_var (pv 8)) m_nil))) (m_one (m_call G (F.defs 23) rfl F.g__law_asked (m_cons (m_var (pv 1)) m_nil))))) s_nil))))))))))))))))))))
theorem b20 (F : Facts L ca cv) (G : Good (XB L base nm20 "_law_number" st20 (L.fn 20).a cdv A outer s H E) L Γ W k) : PSs (XB L base nm20 "_law_number" st20 (L.fn 20).a cdv A outer s H E) (defBody st20) (tS L W (exs Γ P.d20.body)) :=
  (s_cons (s_set nd20 m_int) (s_cons (s_set nd20 m_int) (s_cons (s_for rfl passX (m_iter G (m_var (pv 0))) (g_one (pg_name nd20 rfl (by first | exact Or.inl rfl | exact Or.inr rfl))) (s_cons (s_if (PW.pt (mt_or (mt_cmp (o_eq G.hK G.hu) (m_var (pv 3)) m_str) (mt_or1 (mt_cmp (o_eq G.hK G.hu) (m_var (pv 3)) m_str)))) (s_cons (s_set nd20 (m_bin o_add (m_var (pv 1)) (m_var (pv 2)))) s_nil) s_nil) (s_cons (s_set nd20 (m_bin o_mul (m_var (pv 2)) m_int)) s_nil))) (s_cons (s_ret (m_var (pv 1))) s_nil))))
theorem b21 (F : Facts L ca cv) (G : Good (XB L base nm21 "_law_cut" st21 (L.fn 21).a cdv A outer s H E) L Γ W k) : PSs (XB L base nm21 "_law_cut" st21 (L.fn 21).a cdv A outer s H E) (defBody st21) (tS L W (exs Γ P.d21.body)) :=
  (s_cons (s_if (mt_cmp (o_lt G.hK G.hu) (m_var (pv 0)) m_int) (s_cons (s_ret (m_bin o_sub (m_neg m_int) (m_bin o_mod (m_bltT G (b_int) rfl F.n_int bt_int (m_cons (m_bin o_sub (m_neg m_int) (m_var (pv 0))) m_nil)) (m_bin o_pow m_int m_int)))) s_nil) s_nil) (s_cons (s_ret (m_bin o_mod (m_bltT G (b_int) rfl F.n_int bt_int (m_cons (m_var (pv 0)) m_nil)) (m_bin o_pow m_int m_int))) s_nil))
theorem b22 (F : Facts L ca cv) (G : Good (XB L base nm22 "_law_refused" st22 (L.fn 22).a cdv A outer s H E) L Γ W k) : PSs (XB L base nm22 "_law_refused" st22 (L.fn 22).a cdv A outer s H E) (defBody st22) (tS L W (exs Γ P.d22.body)) :=
  (s_cons (s_try G F.try_0 nd22 rfl rfl ⟨rfl, by decide, .inl ((congrFun G.hm _).trans F.g_InvalidNumber)⟩ (fun W1 pn1 xe1 G1 po => (s_cons (s_expr (m_scall (dv := []) (ms := [.var 0]) G1 (F.defs 5) (Dfl.none G1.link (F.defs 5)) rfl F.g_Rule F.s_Rule_from_number (m_cons (m_var (pv 0)) m_nil))) s_nil)) (fun cc Ca ah oe pn2 hC hz hf G2 => (s_cons (s_set nd22 (m_lst (m_cons (m_isE F.try_0 hC hz hf G2 rfl (.inl rfl) rfl F.n_isinstance (pe_glob rfl ((congrFun G2.hm _).trans F.g_InvalidEntry) (show RelV (.ref _) _ from rfl)) (fun u h => h)) (m_cons (m_isE F.try_0 hC hz hf G2 rfl (.inl rfl) rfl F.n_isinstance (pe_glob rfl ((congrFun G2.hm _).trans F.g_InvalidNotation) (show RelV (.ref _) _ from rfl)) (fun u h => h)) (m_cons (m_isE F.try_0 hC hz hf G2 rfl (.inl rfl) rfl F.n_isinstance (pe_glob rfl ((congrFun G2.hm _).trans F.g_InvalidEvent) (show RelV (.ref _) _ from rfl)) (fun u h => h)) m_nil))))) (s_cons (s_set nd22 (m_bin o_add (m_var (pv 2)) (m_lst (m_cons (m_isE F.try_0 hC hz hf G2 rfl (.inl rfl) rfl F.n_isinstance (pe_glob rfl ((congrFun G2.hm _).trans F.g_OutOfScript) (show RelV (.ref _) _ from rfl)) (fun u h => h)) (m_cons (m_isE F.try_0 hC hz hf G2 rfl (.inl rfl) rfl F.n_isinstance (pe_glob rfl ((congrFun G2.hm _).trans F.g_EventRefused) (show RelV (.ref _) _ from rfl)) (fun u h => h)) (m_cons (m_isE F.try_0 hC hz hf G2 rfl (.inl rfl) rfl F.n_isinstance (pe_glob rfl ((congrFun G2.hm _).trans F.g_UnknownSign) (show RelV (.ref _) _ from rfl)) (fun u h => h)) m_nil)))))) (s_cons (s_set nd22 (m_bin o_add (m_var (pv 2)) (m_lst (m_cons (m_isE F.try_0 hC hz hf G2 rfl (.inl rfl) rfl F.n_isinstance (pe_glob rfl ((congrFun G2.hm _).trans F.g_NotSiblings) (show RelV (.ref _) _ from rfl)) (fun u h => h)) (m_cons (m_isE F.try_0 hC hz hf G2 rfl (.inl rfl) rfl F.n_isinstance (pe_glob rfl ((congrFun G2.hm _).trans F.g_NotMirrored) (show RelV (.ref _) _ from rfl)) (fun u h => h)) (m_cons (m_isE F.try_0 hC hz hf G2 rfl (.inl rfl) rfl F.n_isinstance (pe_glob rfl ((congrFun G2.hm _).trans F.g_CopyError) (show RelV (.ref _) _ from rfl)) (fun u h => h)) m_nil)))))) (s_cons (s_expr (m_append G2 (m_var (pv 2)) (m_isE F.try_0 hC hz hf G2 rfl (.inl rfl) rfl F.n_isinstance (pe_glob rfl ((congrFun G2.hm _).trans F.g_JudgeError) (show RelV (.ref _) _ from rfl)) (fun u h => h)))) (s_cons (s_ret (m_and (m_isE F.try_0 hC hz hf G2 rfl (.inl rfl) rfl F.n_isinstance (pe_glob rfl ((congrFun G2.hm _).trans F.g_UnshuffledError) (show RelV (.ref _) _ from rfl)) (fun u h => h)) (m_and (m_isE F.try_0 hC hz hf G2 rfl (.inl rfl) rfl F.n_isinstance (pe_bltn rfl ((congrFun G2.hm _).trans F.n_ValueError) bt_ValueError (show RelV (.ty _) _ from rfl)) (fun u h => h)) (m_one (m_cmp (o_notin G2 F.nmIn) m_bl (m_var (pv 2))))))) s_nil))))))) (s_cons (s_ret m_bl) s_nil))
theorem b23 (F : Facts L ca cv) (G : Good (XB L base nm23 "_law_asked" st23 (L.fn 23).a cdv A outer s H E) L Γ W k) : PSs (XB L base nm23 "_law_asked" st23 (L.fn 23).a cdv A outer s H E) (defBody st23) (tS L W (exs Γ P.d23.body)) :=
  (s_cons (s_if (PW.pt (mt_or (mt_cmp (o_lt G.hK G.hu) (m_var (pv 0)) m_int) (mt_or1 (mt_cmp o_gt (m_var (pv 0)) m_int)))) (s_cons (s_ret (m_call G (F.defs 22) rfl F.g__law_refused (m_cons (m_var (pv 0)) m_nil))) s_nil) s_nil) (s_cons (s_set nd23 (m_scall (dv := []) (ms := [.var 0]) G (F.defs 5) (Dfl.none G.link (F.defs 5)) rfl F.g_Rule F.s_Rule_from_number (m_cons (m_var (pv 0)) m_nil))) (s_cons (s_if (mt_not (mt_val (m_isiC G F.isi_0 (m_var (pv 1)) rfl F.n_isinstance rfl F.g_Rule F.ca_Rule))) (s_cons (s_ret m_bl) s_nil) s_nil) (s_cons (s_ret (m_and (m_call G (F.defs 12) rfl F.g__law_same (m_cons (m_call G (F.defs 17) rfl F.g__law_entries (m_cons (m_var (pv 1)) m_nil)) (m_cons (m_call G (F.defs 14) rfl F.g__law_values (m_cons (m_var (pv 0)) m_nil)) m_nil))) (m_one (m_call G (F.defs 12) rfl F.g__law_same (m_cons (m_prp G F.prp (F.names 13) (m_var (pv 1))) (m_cons (m_var (pv 0)) m_nil)))))) s_nil))))
end
end Lw
end
section
set_option Elab.async false
set_option linter.all false
set_option maxRecDepth 100000
set_option maxHeartbeats 4000000
/-! R1: the rule's table, on trees. -/
namespace Lw
open C PySem
/-- the word of an entry -/
def wd (k : Nat) (b : Bool) : Str := if k < 12 then (if b then "near" else "far") else (if b then "behind" else "ahead")
abbrev wD (k : Nat) (b : Bool) : D := .str (wd k b)
/-- the values of a rule -/
def vw (f : Nat → Bool) : List D := [wD 0 (f 0), wD 1 (f 1), wD 2 (f 2), wD 3 (f 3), wD 4 (f 4), wD 5 (f 5), wD 6 (f 6), wD 7 (f 7), wD 8 (f 8), wD 9 (f 9), wD 10 (f 10), wD 11 (f 11), wD 12 (f 12), wD 13 (f 13), wD 14 (f 14), wD 15 (f 15), wD 16 (f 16)]
def keysV : List Val := match P.kKEYS with
  | .tup ks => ks
  | _ => []
def keysD : List D := D.ofs keysV
def RuleD (f : Nat → Bool) : D := .obj 0 [14] [.dct keysV (vw f)]
theorem keys_len : keysV.length = 17 := by decide +kernel
theorem vw_len (f : Nat → Bool) : (vw f).length = 17 := rfl
/-- one entry changed -/
def ch (f : Nat → Bool) (i : Nat) (b : Bool) : Nat → Bool := fun k => if k = i then b else f k
theorem vw_ch (f : Nat → Bool) (b : Bool) : ∀ i, i < 17 → vw (ch f i b) = (vw f).set i (wD i b) := by
  intro i hi
  match i, hi with
  | 0, _ => rfl | 1, _ => rfl | 2, _ => rfl | 3, _ => rfl | 4, _ => rfl | 5, _ => rfl | 6, _ => rfl | 7, _ => rfl | 8, _ => rfl
  | 9, _ => rfl | 10, _ => rfl | 11, _ => rfl | 12, _ => rfl | 13, _ => rfl | 14, _ => rfl | 15, _ => rfl | 16, _ => rfl
  | n + 17, h => omega
theorem vw_at (f : Nat → Bool) : ∀ i, i < 17 → (vw f)[i]? = some (wD i (f i)) := by
  intro i hi
  match i, hi with
  | 0, _ => rfl | 1, _ => rfl | 2, _ => rfl | 3, _ => rfl | 4, _ => rfl | 5, _ => rfl | 6, _ => rfl | 7, _ => rfl | 8, _ => rfl
  | 9, _ => rfl | 10, _ => rfl | 11, _ => rfl | 12, _ => rfl | 13, _ => rfl | 14, _ => rfl | 15, _ => rfl | 16, _ => rfl
  | n + 17, h => omega
/-- the mirrored rule's values -/
def mir (f : Nat → Bool) : Nat → Bool := fun k => if k < 6 then f (k + 6) else if k < 12 then f (k - 6) else if k = 12 then !f 13 else if k = 13 then !f 12 else if k = 14 then !f 14 else if k = 15 then !f 16 else !f 15

abbrev Bx (k : Nat) : BCx := ⟨tab, bcall tab 0 k, bmake tab 0 k, 0, false⟩
theorem bcall_succ {k f : Nat} {ds : List D} {d : Def} (h : tab.defs f = some d) : bcall tab 0 (k + 1) f ds = brun (Bx k) d ds := by
  simp only [bcall, h]
theorem bmake_succ {k f : Nat} {x : D} {ds : List D} {d : Def} (h : tab.defs f = some d) : bmake tab 0 (k + 1) f x ds = binit (Bx k) d x ds := by
  simp only [bmake, h]
/-- _law_keys() -/
theorem keys_ok (k : Nat) : bcall tab 0 (k + 1) 13 [] = some (.lst keysD, false) := by kernel_rfl
theorem get_ok (k : Nat) (f : Nat → Bool) : ∀ i, i < 17 → bcall tab 0 (k + 1) 7 [RuleD f, keysD.getD i .non] = some (wD i (f i), false) := by
  intro i hi
  match i, hi with
  | 0, _ => kernel_rfl | 1, _ => kernel_rfl | 2, _ => kernel_rfl | 3, _ => kernel_rfl | 4, _ => kernel_rfl | 5, _ => kernel_rfl | 6, _ => kernel_rfl | 7, _ => kernel_rfl | 8, _ => kernel_rfl
  | 9, _ => kernel_rfl | 10, _ => kernel_rfl | 11, _ => kernel_rfl | 12, _ => kernel_rfl | 13, _ => kernel_rfl | 14, _ => kernel_rfl | 15, _ => kernel_rfl | 16, _ => kernel_rfl
  | n + 17, h => omega
theorem entries_ok (k : Nat) (f : Nat → Bool) : bcall tab 0 (k + 2) 17 [RuleD f] = some (.lst (vw f), false) := by kernel_rfl
theorem other_ok (k : Nat) (b : Bool) : ∀ i, i < 17 → bcall tab 0 (k + 1) 15 [wD i b] = some (wD i (!b), false) := by
  intro i hi
  match i, hi with
  | 0, _ => cases b <;> kernel_rfl
  | 1, _ => cases b <;> kernel_rfl
  | 2, _ => cases b <;> kernel_rfl
  | 3, _ => cases b <;> kernel_rfl
  | 4, _ => cases b <;> kernel_rfl
  | 5, _ => cases b <;> kernel_rfl
  | 6, _ => cases b <;> kernel_rfl
  | 7, _ => cases b <;> kernel_rfl
  | 8, _ => cases b <;> kernel_rfl
  | 9, _ => cases b <;> kernel_rfl
  | 10, _ => cases b <;> kernel_rfl
  | 11, _ => cases b <;> kernel_rfl
  | 12, _ => cases b <;> kernel_rfl
  | 13, _ => cases b <;> kernel_rfl
  | 14, _ => cases b <;> kernel_rfl
  | 15, _ => cases b <;> kernel_rfl
  | 16, _ => cases b <;> kernel_rfl
  | n + 17, h => omega
/-- Rule(values) -/
theorem init_ok (k : Nat) (f : Nat → Bool) : bmake tab 0 (k + 2) 4 (.obj 0 [] []) [.lst (vw f)] = some (RuleD f, false) := by kernel_rfl
end Lw
end
section
set_option Elab.async false
set_option linter.all false
set_option maxRecDepth 100000
set_option maxHeartbeats 4000000
/-! R2: equal things are the same; the values of a number. -/
namespace Lw
open C PySem
theorem whole_int (k : Nat) (i : Int) : bcall tab 0 (k + 1) 11 [.int i] = some (.bl true, false) := by
  rw [bcall_succ rfl]
  rfl
theorem same_int (k : Nat) (i : Int) : bcall tab 0 (k + 2) 12 [.int i, .int i] = some (.bl true, false) := by
  rw [bcall_succ rfl]
  simp [brun, P.d12, bstart, bexs, bex, bev, bevs, BFl.seq, pk, bcond, kindD, Kd.is, whole_int, bcmp, C.sc2, cmpV, eqVal, scalV, D.val, D.of, bresD, ofCall, BV.mk', D.flat, oany, aany]
theorem same_bl (k : Nat) (b : Bool) : bcall tab 0 (k + 1) 12 [.bl b, .bl b] = some (.bl true, false) := by
  rw [bcall_succ rfl]
  simp [brun, P.d12, bstart, bexs, bex, bev, bevs, BFl.seq, pk, bcond, kindD, Kd.is, bcmp, C.sc2, cmpV, eqVal, scalV, D.val, D.of, bresD, ofCall, BV.mk', D.flat, oany, aany]
theorem same_non (k : Nat) : bcall tab 0 (k + 1) 12 [.non, .non] = some (.bl true, false) := by
  rw [bcall_succ rfl]
  simp [brun, P.d12, bstart, bexs, bex, bev, bevs, BFl.seq, pk, bcond, kindD, Kd.is, bcmp, C.sc2, cmpV, eqVal, scalV, D.val, D.of, bresD, ofCall, BV.mk', D.flat, oany, aany]
theorem same_str (k : Nat) (z : Str) : bcall tab 0 (k + 1) 12 [.str z, .str z] = some (.bl true, false) := by
  rw [bcall_succ rfl]
  simp [brun, P.d12, bstart, bexs, bex, bev, bevs, BFl.seq, pk, bcond, kindD, Kd.is, bcmp, C.sc2, cmpV, eqVal, scalV, D.val, D.of, bresD, ofCall, BV.mk', D.flat, oany, aany]
/-- the walk over two equal lists -/
theorem same_walk {k : Nat} {ds : List D} {t : D} {o : Bool} (ht : t = .lst ds ∨ t = .tup ds) (hs : ∀ d ∈ ds, bcall tab 0 k 12 [d, d] = some (.bl true, false)) {x : Option BS} :
    ∃ env', bfor (fun env => bexs (Bx k) [.ifs (.not (.call 12 [.sub (.var 0) (.var 2), .sub (.var 1) (.var 2)])) [.ret (.cst (.bl false))] []] env) [2] false ((List.range ds.length).map fun (i : Nat) => D.int (i : Int)) [some (.val t o), some (.val t o), x] = some (.nx env') := by
  obtain ⟨env', h, _⟩ := bfor_inv (o := false) (tg := [2]) (body := fun env => bexs (Bx k) [.ifs (.not (.call 12 [.sub (.var 0) (.var 2), .sub (.var 1) (.var 2)])) [.ret (.cst (.bl false))] []] env) ((List.range ds.length).map fun (i : Nat) => D.int (i : Int)) (fun xs env => (∀ e ∈ xs, ∃ n : Nat, e = .int n ∧ n < ds.length) ∧ ∃ x, env = [some (.val t o), some (.val t o), x]) [some (.val t o), some (.val t o), x] ⟨fun e he => by
    obtain ⟨n, hn, rfl⟩ := List.mem_map.mp he
    exact ⟨n, rfl, List.mem_range.mp hn⟩, x, rfl⟩ (by
    rintro y ys env ⟨h1, x, rfl⟩
    obtain ⟨n, rfl, hn⟩ := h1 y List.mem_cons_self
    refine ⟨[some (.val t o), some (.val t o), some (.val (.int n) false)], [some (.val t o), some (.val t o), some (.val (.int n) false)], by simp [bsetN], ?_, fun e he => h1 e (List.mem_cons_of_mem _ he), _, rfl⟩
    have hat : L2.atI ds (n : Int) = some ds[n] := by simp [L2.atI, L2.ixN, hn]
    have hc := hs ds[n] (List.getElem_mem hn)
    rcases ht with rfl | rfl <;> simp [bexs, bex, bev, bevs, pk, bsub, hat, BV.mk', ofCall, BFl.seq, bcond]
    all_goals (by_cases hf : ds[n].flat = true <;> simp [hf, hc, D.flat]))
  exact ⟨env', h⟩
theorem same_lst {k : Nat} {ds : List D} (hs : ∀ d ∈ ds, bcall tab 0 k 12 [d, d] = some (.bl true, false)) (hl : ds.length ≤ lineC) : bcall tab 0 (k + 1) 12 [.lst ds, .lst ds] = some (.bl true, false) := by
  obtain ⟨env', h⟩ := same_walk (o := true) (x := none) (.inl rfl) hs
  have hl2 : (ds.length : Int) < 2 ^ 62 := by unfold lineC at hl; omega
  rw [bcall_succ rfl]
  refine brun_rt rfl ?_
  simp only [P.d12, bstart, D.flat]
  rw [sk_if (by simp [bev, pk, bcond]), sk_if (by simp [bev, pk, bcond, kindD, Kd.is]), sk_if (by simp [bev, pk, bcond, kindD, Kd.is]), sk_if (by simp [bev, pk, bcond, kindD, Kd.is]), sk_if (by simp [bev, pk, bcond, kindD, Kd.is]), sk_if (by simp [bev, pk, bcond, kindD, Kd.is]), sk_if (by simp [bev, pk, bcond, bblt, bcmp, ii_ne]),
    sk_forn rfl (by simp only [bev, pk, bblt]; rfl) (by simp only [bsrc, hl2]; rfl) (by exact h), sk_ret (by rfl)]
  rfl
theorem same_tup {k : Nat} {ds : List D} (hs : ∀ d ∈ ds, bcall tab 0 k 12 [d, d] = some (.bl true, false)) (hl : ds.length ≤ lineC) : bcall tab 0 (k + 1) 12 [.tup ds, .tup ds] = some (.bl true, false) := by
  obtain ⟨env', h⟩ := same_walk (o := !D.flats ds) (x := none) (.inr rfl) hs
  have hl2 : (ds.length : Int) < 2 ^ 62 := by unfold lineC at hl; omega
  rw [bcall_succ rfl]
  refine brun_rt rfl ?_
  simp only [P.d12, bstart, D.flat]
  rw [sk_if (by simp [bev, pk, bcond]), sk_if (by simp [bev, pk, bcond, kindD, Kd.is]), sk_if (by simp [bev, pk, bcond, kindD, Kd.is]), sk_if (by simp [bev, pk, bcond, kindD, Kd.is]), sk_if (by simp [bev, pk, bcond, kindD, Kd.is]), sk_if (by simp [bev, pk, bcond, kindD, Kd.is]), sk_if (by simp [bev, pk, bcond, bblt, bcmp, ii_ne]),
    sk_forn rfl (by simp only [bev, pk, bblt]; rfl) (by simp only [bsrc, hl2]; rfl) (by exact h), sk_ret (by rfl)]
  rfl
theorem same_vw (k : Nat) (f : Nat → Bool) : bcall tab 0 (k + 2) 12 [.lst (vw f), .lst (vw f)] = some (.bl true, false) := by
  refine same_lst (fun d hd => ?_) (by rw [vw_len]; unfold lineC; omega)
  have : ∃ z, d = .str z := by
    simp only [vw, List.mem_cons, List.not_mem_nil, or_false] at hd
    rcases hd with h | h | h | h | h | h | h | h | h | h | h | h | h | h | h | h | h <;> exact ⟨_, h⟩
  obtain ⟨z, rfl⟩ := this
  exact same_str k z

/-! ### the values of a number -/
/-- the bits of a number -/
def bitf (n : Int) : Nat → Bool := fun k => decide (n / 2 ^ k % 2 = 1)
theorem div_pow (n : Int) (i : Nat) : n / 2 ^ i / 2 = n / 2 ^ (i + 1) := by
  rw [Int.ediv_ediv_of_nonneg (Int.pow_nonneg (by decide)), ← Int.pow_succ]
theorem vw_take (f : Nat → Bool) (i : Nat) (h : i < 17) : (vw f).take (i + 1) = (vw f).take i ++ [wD i (f i)] := by
  rw [List.take_succ, vw_at f i h]
  rfl
theorem vw_tl (f : Nat → Bool) (i : Nat) (h : i ≤ 17) : ((vw f).take i).length = i := by
  rw [List.length_take, vw_len]; omega
theorem mod2 (m : Int) : m % 2 = 0 ∨ m % 2 = 1 := by omega
abbrev vbody : List C.S := [.asg 4 (.lst [.cst (.str "far"), .cst (.str "near")]), .ifs (.cmp .ge (.var 3) (.cst (.int 12))) [.asg 4 (.lst [.cst (.str "ahead"), .cst (.str "behind")])] [], .expr (.bm .append (.var 2) [.sub (.var 4) (.bin .mod (.var 1) (.cst (.int 2)))]), .asg 1 (.bin .fdiv (.var 1) (.cst (.int 2)))]
theorem v_step {k : Nat} {n r : Int} {i : Nat} (hi : i < 17) {x3 x4 : Option BS} : ∃ x4', bexs (Bx k) vbody [some (.val (.int n) false), some (.val (.int (r / 2 ^ i)) false), some (.own (.lst ((vw (bitf r)).take i)) false), some (.val (.int i) false), x4] =
    some (.nx [some (.val (.int n) false), some (.val (.int (r / 2 ^ (i + 1))) false), some (.own (.lst ((vw (bitf r)).take (i + 1))) false), some (.val (.int i) false), x4']) := by
  have hl : min i (vw (bitf r)).length < 16777216 := by rw [vw_len]; omega
  have h1 : C.sc2 (binV noCx .mod) (D.int (r / 2 ^ i)) (.int 2) = some (.int (r / 2 ^ i % 2)) := ii_mod (by decide)
  have h2 : C.sc2 (binV noCx .fdiv) (D.int (r / 2 ^ i)) (.int 2) = some (.int (r / 2 ^ (i + 1))) := by rw [ii_fdiv (by decide) (by decide), div_pow]
  have hb : bitf r i = decide (r / 2 ^ i % 2 = 1) := rfl
  by_cases h12 : i < 12
  · have hge : C.sc2 (cmpV noCx .ge) (D.int (i : Int)) (.int 12) = some (.bl false) := by rw [ii_ge]; simp; omega
    refine ⟨some (.own (.lst [.str "far", .str "near"]) false), ?_⟩
    rcases mod2 (r / 2 ^ i) with h | h
    · have hw : wD i (bitf r i) = .str "far" := by simp [wd, h12, hb, h]
      simp [vbody, bexs, bex, bev, bevs, pk, bcond, bcmp, hge, Val.data, D.of, BFl.seq, bstore, newTop, mkL, D.flats, D.flat, oany, aany, bbin, h1, h2, h, bsub, L2.atI, L2.ixN, bown, bapp, hl, BV.mk', vw_take _ _ hi, hw, lineC]
    · have hw : wD i (bitf r i) = .str "near" := by simp [wd, h12, hb, h]
      simp [vbody, bexs, bex, bev, bevs, pk, bcond, bcmp, hge, Val.data, D.of, BFl.seq, bstore, newTop, mkL, D.flats, D.flat, oany, aany, bbin, h1, h2, h, bsub, L2.atI, L2.ixN, bown, bapp, hl, BV.mk', vw_take _ _ hi, hw, lineC]
  · have hge : C.sc2 (cmpV noCx .ge) (D.int (i : Int)) (.int 12) = some (.bl true) := by rw [ii_ge]; simp; omega
    refine ⟨some (.own (.lst [.str "ahead", .str "behind"]) false), ?_⟩
    rcases mod2 (r / 2 ^ i) with h | h
    · have hw : wD i (bitf r i) = .str "ahead" := by simp [wd, h12, hb, h]
      simp [vbody, bexs, bex, bev, bevs, pk, bcond, bcmp, hge, Val.data, D.of, BFl.seq, bstore, newTop, mkL, D.flats, D.flat, oany, aany, bbin, h1, h2, h, bsub, L2.atI, L2.ixN, bown, bapp, hl, BV.mk', vw_take _ _ hi, hw, lineC]
    · have hw : wD i (bitf r i) = .str "behind" := by simp [wd, h12, hb, h]
      simp [vbody, bexs, bex, bev, bevs, pk, bcond, bcmp, hge, Val.data, D.of, BFl.seq, bstore, newTop, mkL, D.flats, D.flat, oany, aany, bbin, h1, h2, h, bsub, L2.atI, L2.ixN, bown, bapp, hl, BV.mk', vw_take _ _ hi, hw, lineC]
theorem vw_all (f : Nat → Bool) : (vw f).take 17 = vw f := rfl
/-- _law_values(n) -/
theorem values_ok (k : Nat) (n : Int) : bcall tab 0 (k + 1) 14 [.int n] = some (.lst (vw (bitf (n % 131072))), false) := by
  rw [bcall_succ rfl]
  refine brun_rt rfl ?_
  simp only [P.d14, bstart, D.flat]
  have h0 : C.sc2 (binV noCx .mod) (D.int n) (D.int 131072) = some (.int (n % 131072)) := ii_mod (by decide)
  rw [sk_asg (x := ⟨.int (n % 131072), false, false⟩) rfl (by simp [bev, pk, bblt, bevs, bbin, Val.data, D.of, h0]), sk_asg (x := ⟨.lst [], false, false⟩) rfl (by rfl)]
  obtain ⟨env', h1, x3, x4, h2⟩ := bfor_rng (n := 17) (j := 3) (body := fun env => bexs (Bx k) vbody env) (fun i env => ∃ x3 x4, env = [some (.val (.int n) false), some (.val (.int (n % 131072 / 2 ^ i)) false), some (.own (.lst ((vw (bitf (n % 131072))).take i)) false), x3, x4])
    [some (.val (.int n) false), some (.val (.int (n % 131072)) false), some (.own (.lst []) false), none, none] ⟨none, none, by simp⟩ (by
    rintro i env hi ⟨x3, x4, rfl⟩
    obtain ⟨x4', h⟩ := v_step (k := k) (n := n) (r := n % 131072) (i := i) hi (x3 := x3) (x4 := x4)
    exact ⟨_, h, _, _, rfl⟩)
  rw [sk_forn (x := ⟨.int 17, false, false⟩) rfl (by rfl) (by rfl) h1, h2, vw_all]
  rfl
/-! values_of_number -/
theorem valuesof_ok (k : Nat) : ∀ i, i < 17 → bcall tab 0 (k + 1) 1 [keysD.getD i .non] = some (.tup [wD i true, wD i false], false) := by
  intro i hi
  match i, hi with
  | 0, _ => kernel_rfl | 1, _ => kernel_rfl | 2, _ => kernel_rfl | 3, _ => kernel_rfl | 4, _ => kernel_rfl | 5, _ => kernel_rfl | 6, _ => kernel_rfl | 7, _ => kernel_rfl | 8, _ => kernel_rfl
  | 9, _ => kernel_rfl | 10, _ => kernel_rfl | 11, _ => kernel_rfl | 12, _ => kernel_rfl | 13, _ => kernel_rfl | 14, _ => kernel_rfl | 15, _ => kernel_rfl | 16, _ => kernel_rfl
  | n + 17, h => omega
theorem keysD_len : keysD.length = 17 := by decide +kernel
theorem keysD_at (i : Nat) (h : i < 17) : keysD[i]? = some (keysD.getD i .non) := by
  rw [List.getD_eq_getElem?_getD, List.getElem?_eq_getElem (by rw [keysD_len]; exact h)]
  rfl
theorem keysD_flat (i : Nat) (h : i < 17) : (keysD.getD i .non).flat = true := by
  match i, h with
  | 0, _ => rfl | 1, _ => rfl | 2, _ => rfl | 3, _ => rfl | 4, _ => rfl | 5, _ => rfl | 6, _ => rfl | 7, _ => rfl | 8, _ => rfl
  | 9, _ => rfl | 10, _ => rfl | 11, _ => rfl | 12, _ => rfl | 13, _ => rfl | 14, _ => rfl | 15, _ => rfl | 16, _ => rfl
  | n + 17, h => omega
abbrev nbody : List C.S := [.asgT [3, 4] (.call 1 [.var 2]), .expr (.bm .append (.var 1) [.ite (.cmp .eq (.bin .mod (.var 0) (.cst (.int 2))) (.cst (.int 1))) (.var 3) (.var 4)]), .asg 0 (.bin .fdiv (.var 0) (.cst (.int 2)))]
theorem n_step {k : Nat} {r : Int} {i : Nat} (hi : i < 17) {x3 x4 : Option BS} : ∃ x3' x4', bexs (Bx (k + 1)) nbody [some (.val (.int (r / 2 ^ i)) false), some (.own (.lst ((vw (bitf r)).take i)) false), some (.val (keysD.getD i .non) false), x3, x4] =
    some (.nx [some (.val (.int (r / 2 ^ (i + 1))) false), some (.own (.lst ((vw (bitf r)).take (i + 1))) false), some (.val (keysD.getD i .non) false), x3', x4']) := by
  have hl : min i (vw (bitf r)).length < 16777216 := by rw [vw_len]; omega
  have h1 : C.sc2 (binV noCx .mod) (D.int (r / 2 ^ i)) (D.int 2) = some (.int (r / 2 ^ i % 2)) := ii_mod (by decide)
  have h2 : C.sc2 (binV noCx .fdiv) (D.int (r / 2 ^ i)) (D.int 2) = some (.int (r / 2 ^ (i + 1))) := by rw [ii_fdiv (by decide) (by decide), div_pow]
  have hb : bitf r i = decide (r / 2 ^ i % 2 = 1) := rfl
  have hv := valuesof_ok k i hi
  have hf := keysD_flat i hi
  generalize keysD.getD i .non = key at hv hf ⊢
  refine ⟨some (.val (wD i true) false), some (.val (wD i false) false), ?_⟩
  rcases mod2 (r / 2 ^ i) with h | h
  · have hw : bitf r i = false := by rw [hb, h]; rfl
    simp [nbody, bexs, bex, bev, bevs, pk, bcond, bcmp, ofCall, hv, hf, BV.mk', D.flat, D.flats, oany, aany, bsetN, bsetAll, Val.data, D.of, BFl.seq, bstore, newTop, bbin, h1, h2, h, ii_eq, bown, bapp, hl, vw_take _ _ hi, hw, lineC]
  · have hw : bitf r i = true := by rw [hb, h]; rfl
    simp [nbody, bexs, bex, bev, bevs, pk, bcond, bcmp, ofCall, hv, hf, BV.mk', D.flat, D.flats, oany, aany, bsetN, bsetAll, Val.data, D.of, BFl.seq, bstore, newTop, bbin, h1, h2, h, ii_eq, bown, bapp, hl, vw_take _ _ hi, hw, lineC]
theorem number_ok (k : Nat) (n : Int) : bcall tab 0 (k + 2) 3 [.int n] = some (.lst (vw (bitf n)), false) := by
  rw [bcall_succ rfl]
  refine brun_rt rfl ?_
  simp only [P.d3, bstart, D.flat]
  rw [sk_asg (x := ⟨.lst [], false, false⟩) rfl (by rfl)]
  obtain ⟨env', h1, x2, x3, x4, h2⟩ := bfor_ix (tg := [2]) (o := false) (body := fun env => bexs (Bx (k + 1)) nbody env) keysD (fun i env => ∃ x2 x3 x4, env = [some (.val (.int (n / 2 ^ i)) false), some (.own (.lst ((vw (bitf n)).take i)) false), x2, x3, x4])
    [some (.val (.int n) false), some (.own (.lst []) false), none, none, none] ⟨none, none, none, by simp⟩ (by
    rintro i d env hd ⟨x2, x3, x4, rfl⟩
    have hi : i < 17 := by rw [← keysD_len]; exact (List.getElem?_eq_some_iff.mp hd).1
    rw [keysD_at i hi] at hd
    cases hd
    obtain ⟨x3', x4', h⟩ := n_step (k := k) (r := n) (i := i) hi (x3 := x3) (x4 := x4)
    refine ⟨_, _, ?_, h, _, _, _, rfl⟩
    simp [bsetN])
  rw [sk_forn (x := ⟨.tup keysD, false, false⟩) rfl (by rfl) (by rfl) h1, h2, keysD_len, vw_all]
  rfl
end Lw
end
section
set_option Elab.async false
set_option linter.all false
set_option maxRecDepth 100000
set_option maxHeartbeats 4000000
/-! R3: the rule in the store. -/
namespace Lw
open C PySem
abbrev Gx (k : Nat) : Cx := ⟨tab, callM tab 0 k, 0⟩
/-- the values of a rule, in the store -/
def ww (f : Nat → Bool) : List Str := [wd 0 (f 0), wd 1 (f 1), wd 2 (f 2), wd 3 (f 3), wd 4 (f 4), wd 5 (f 5), wd 6 (f 6), wd 7 (f 7), wd 8 (f 8), wd 9 (f 9), wd 10 (f 10), wd 11 (f 11), wd 12 (f 12), wd 13 (f 13), wd 14 (f 14), wd 15 (f 15), wd 16 (f 16)]
def vv (f : Nat → Bool) : List Val := (ww f).map Val.str
theorem vw_ww (f : Nat → Bool) : vw f = (ww f).map D.str := rfl
theorem vv_len (f : Nat → Bool) : (vv f).length = 17 := rfl
theorem vv_at (f : Nat → Bool) : ∀ i, i < 17 → (vv f)[i]? = some (.str (wd i (f i))) := by
  intro i hi
  match i, hi with
  | 0, _ => rfl | 1, _ => rfl | 2, _ => rfl | 3, _ => rfl | 4, _ => rfl | 5, _ => rfl | 6, _ => rfl | 7, _ => rfl | 8, _ => rfl
  | 9, _ => rfl | 10, _ => rfl | 11, _ => rfl | 12, _ => rfl | 13, _ => rfl | 14, _ => rfl | 15, _ => rfl | 16, _ => rfl
  | n + 17, h => omega
theorem vv_ch (f : Nat → Bool) (b : Bool) : ∀ i, i < 17 → vv (ch f i b) = (vv f).set i (.str (wd i b)) := by
  intro i hi
  match i, hi with
  | 0, _ => rfl | 1, _ => rfl | 2, _ => rfl | 3, _ => rfl | 4, _ => rfl | 5, _ => rfl | 6, _ => rfl | 7, _ => rfl | 8, _ => rfl
  | 9, _ => rfl | 10, _ => rfl | 11, _ => rfl | 12, _ => rfl | 13, _ => rfl | 14, _ => rfl | 15, _ => rfl | 16, _ => rfl
  | n + 17, h => omega
def kvs (f : Nat → Bool) : List (Val × Val) := keysV.zip (vv f)
theorem kvs_keys (f : Nat → Bool) : (kvs f).map (·.1) = keysV := rfl
theorem kvs_vals (f : Nat → Bool) : (kvs f).map (·.2) = vv f := rfl
/-- a rule at n, its table at m -/
structure RuleAt (S : Store) (n m : Nat) (f : Nat → Bool) : Prop where
  ob : S[n]? = some (.obj 0 [(14, .loc m)])
  dc : ∃ ep, S[m]? = some (.dct ep (kvs f))
theorem RuleAt.pre {S S' : Store} {n m : Nat} {f : Nat → Bool} (r : RuleAt S n m f) (p : S <+: S') : RuleAt S' n m f := ⟨pre_at p r.ob, let ⟨ep, h⟩ := r.dc; ⟨ep, pre_at p h⟩⟩
theorem RuleAt.off {S : Store} {n m j : Nat} {f : Nat → Bool} {c : Cell} (r : RuleAt S n m f) (h1 : j ≠ n) (h2 : j ≠ m) : RuleAt (S.set j c) n m f := ⟨by rw [List.getElem?_set_ne h1]; exact r.ob, let ⟨ep, h⟩ := r.dc; ⟨ep, by rw [List.getElem?_set_ne h2]; exact h⟩⟩
theorem RuleAt.rd {S : Store} {n m : Nat} {f : Nat → Bool} (r : RuleAt S n m f) : RD S (fun j => j = n ∨ j = m) (RuleD f) (.loc n) := by
  obtain ⟨ep, h⟩ := r.dc
  refine ⟨n, _, rfl, .inl rfl, r.ob, rfl, .loc m, [], rfl, ⟨m, ep, kvs f, rfl, .inr rfl, h, kvs_keys f, ?_⟩, rfl⟩
  rw [kvs_vals, vw_ww]
  exact RDs_str _
/-- a rule's tree tells where it stands -/
theorem RuleAt.of {S : Store} {Q : Nat → Prop} {f : Nat → Bool} {v : Val} (r : RD S Q (RuleD f) v) : ∃ n m, v = .loc n ∧ Q n ∧ Q m ∧ n ≠ m ∧ RuleAt S n m f := by
  obtain ⟨n, l, rfl, hq, e1, hl, r1⟩ := r
  obtain ⟨u, t, e2, ⟨m, ep, kv, rfl, hm, e3, hk, r2⟩, e4⟩ := r1
  have e4 : t = [] := e4
  subst e4
  have hne : n ≠ m := by
    intro z
    subst z
    rw [e1] at e3
    cases e3
  have hkv : kv = kvs f := by
    rw [vw_ww] at r2
    have e5 := RDs.vals (S := S) (P := Q) (ws := (ww f).map Val.str) (ds := (ww f).map D.str) (by
      have : ∀ ws : List Str, D.vals (ws.map D.str) = some (ws.map Val.str) := by
        intro ws
        induction ws with
        | nil => rfl
        | cons w ws ih => rw [List.map_cons, D.vals, ih]; rfl
      exact this _) r2
    have := List.zip_of_prod (xs := kv) hk e5
    exact this
  have hl' : l = [(14, .loc m)] := by
    cases l with
    | nil => cases e2
    | cons p l =>
      obtain ⟨a, b⟩ := p
      simp only [List.map_cons, List.cons.injEq] at hl e2
      obtain ⟨rfl, hl⟩ := hl
      obtain ⟨rfl, e2⟩ := e2
      cases l with
      | nil => rfl
      | cons _ _ => cases hl
  subst hkv hl'
  exact ⟨n, m, rfl, hq, hm, hne, e1, ep, e3⟩
theorem lst_rd {S : Store} {n : Nat} {f : Nat → Bool} (h : S[n]? = some (.lst (vv f))) : RD S (fun j => j = n) (.lst (vw f)) (.loc n) := ⟨n, _, rfl, rfl, h, by rw [vw_ww]; exact RDs_str _⟩
/-- _law_other in the store -/
theorem other_c (k i : Nat) (hi : i < 17) (b : Bool) (S : Store) : ∃ S', callM tab 0 (k + 1) 15 [.str (wd i b)] S = .ok (.str (wd i (!b))) S' ∧ S <+: S' := by
  obtain ⟨v, S', h1, h2, h3⟩ := bcall_ok (other_ok k b i hi) (S := S) (Q := fun _ => False) (vs := [.str (wd i b)]) ⟨_, _, rfl, rfl, rfl⟩
  cases (show v = .str (wd i (!b)) from h3)
  exact ⟨S', h1, h2⟩
theorem valuesof_c (k : Nat) (S : Store) : ∀ i, i < 17 → callM tab 0 (k + 1) 1 [keysV.getD i .non] S = .ok (.tup [.str (wd i true), .str (wd i false)]) S := by
  intro i hi
  match i, hi with
  | 0, _ => kernel_rfl | 1, _ => kernel_rfl | 2, _ => kernel_rfl | 3, _ => kernel_rfl | 4, _ => kernel_rfl | 5, _ => kernel_rfl | 6, _ => kernel_rfl | 7, _ => kernel_rfl | 8, _ => kernel_rfl
  | 9, _ => kernel_rfl | 10, _ => kernel_rfl | 11, _ => kernel_rfl | 12, _ => kernel_rfl | 13, _ => kernel_rfl | 14, _ => kernel_rfl | 15, _ => kernel_rfl | 16, _ => kernel_rfl
  | n + 17, h => omega
theorem keyin_c (S : Store) : ∀ i, i < 17 → inL true (keysV.getD i .non) keysV S = .ok (.bl false) S := by
  intro i hi
  match i, hi with
  | 0, _ => kernel_rfl | 1, _ => kernel_rfl | 2, _ => kernel_rfl | 3, _ => kernel_rfl | 4, _ => kernel_rfl | 5, _ => kernel_rfl | 6, _ => kernel_rfl | 7, _ => kernel_rfl | 8, _ => kernel_rfl
  | 9, _ => kernel_rfl | 10, _ => kernel_rfl | 11, _ => kernel_rfl | 12, _ => kernel_rfl | 13, _ => kernel_rfl | 14, _ => kernel_rfl | 15, _ => kernel_rfl | 16, _ => kernel_rfl
  | n + 17, h => omega
theorem valin_c (S : Store) (b : Bool) : ∀ i, i < 17 → inL true (.str (wd i b)) [.str (wd i true), .str (wd i false)] S = .ok (.bl false) S := by
  intro i hi
  match i, hi with
  | 0, _ => cases b <;> kernel_rfl
  | 1, _ => cases b <;> kernel_rfl
  | 2, _ => cases b <;> kernel_rfl
  | 3, _ => cases b <;> kernel_rfl
  | 4, _ => cases b <;> kernel_rfl
  | 5, _ => cases b <;> kernel_rfl
  | 6, _ => cases b <;> kernel_rfl
  | 7, _ => cases b <;> kernel_rfl
  | 8, _ => cases b <;> kernel_rfl
  | 9, _ => cases b <;> kernel_rfl
  | 10, _ => cases b <;> kernel_rfl
  | 11, _ => cases b <;> kernel_rfl
  | 12, _ => cases b <;> kernel_rfl
  | 13, _ => cases b <;> kernel_rfl
  | 14, _ => cases b <;> kernel_rfl
  | 15, _ => cases b <;> kernel_rfl
  | 16, _ => cases b <;> kernel_rfl
  | n + 17, h => omega
theorem put_c (f : Nat → Bool) (b : Bool) (ep : Nat) : ∀ i, i < 17 → (keyOk (keysV.getD i .non) (kvs f) && decide ((kvs f).length < lineC)) = true ∧ putD (keysV.getD i .non) (.str (wd i b)) ep (kvs f) = .dct ep (kvs (ch f i b)) := by
  intro i hi
  match i, hi with
  | 0, _ => constructor <;> kernel_rfl
  | 1, _ => constructor <;> kernel_rfl
  | 2, _ => constructor <;> kernel_rfl
  | 3, _ => constructor <;> kernel_rfl
  | 4, _ => constructor <;> kernel_rfl
  | 5, _ => constructor <;> kernel_rfl
  | 6, _ => constructor <;> kernel_rfl
  | 7, _ => constructor <;> kernel_rfl
  | 8, _ => constructor <;> kernel_rfl
  | 9, _ => constructor <;> kernel_rfl
  | 10, _ => constructor <;> kernel_rfl
  | 11, _ => constructor <;> kernel_rfl
  | 12, _ => constructor <;> kernel_rfl
  | 13, _ => constructor <;> kernel_rfl
  | 14, _ => constructor <;> kernel_rfl
  | 15, _ => constructor <;> kernel_rfl
  | 16, _ => constructor <;> kernel_rfl
  | n + 17, h => omega
/-- rule[key] = value -/
theorem set_c (k i : Nat) (hi : i < 17) (b : Bool) {S : Store} {n m : Nat} {f : Nat → Bool} (r : RuleAt S n m f) (hne : n ≠ m) : ∃ S', callM tab 0 (k + 2) 8 [.loc n, keysV.getD i .non, .str (wd i b)] S = .ok .non S' ∧ RuleAt S' n m (ch f i b) ∧ S'.length = S.length ∧ ∀ j, j ≠ m → S'[j]? = S[j]? := by
  obtain ⟨ep, hd⟩ := r.dc
  obtain ⟨h1, h2⟩ := put_c f b ep i hi
  have hm : m < S.length := (List.getElem?_eq_some_iff.mp hd).1
  refine ⟨S.set m (putD (keysV.getD i .non) (.str (wd i b)) ep (kvs f)), ?_, ⟨?_, ep, ?_⟩, by simp, fun j hj => List.getElem?_set_ne (Ne.symm hj)⟩
  · rw [callM_succ rfl]
    have hk := keyin_c S i hi
    have hv := valin_c S b i hi
    have hc := valuesof_c k S i hi
    have hob := r.ob
    generalize keysV.getD i .non = key at *
    have e1 : ev (Gx (k + 1)) (.cmp .notin (.var 1) (.cst P.kKEYS)) [some (.loc n), some key, some (.str (wd i b))] S = .ok (.bl false) S := by
      rw [ev_cmp (ev_var rfl) ev_cst]
      exact hk
    have e2 : ev (Gx (k + 1)) (.cmp .notin (.var 2) (.call 1 [.var 1])) [some (.loc n), some key, some (.str (wd i b))] S = .ok (.bl false) S := by
      rw [ev_cmp (ev_var rfl) ((show ev (Gx (k + 1)) (.call 1 [.var 1]) [some (.loc n), some key, some (.str (wd i b))] S = callM tab 0 (k + 1) 1 [key] S by rw [ev_call (evs_cons0 (ev_var rfl) evs_nil0)]).trans hc)]
      exact hv
    have e3 : ev (Gx (k + 1)) (.attr (.var 0) 14) [some (.loc n), some key, some (.str (wd i b))] S = .ok (.loc m) S := by
      unfold ev
      rw [ev_var rfl]
      simp only [Res.bind_ok, attrV, objAt, hob]
      rfl
    rw [runDef_eq (by rfl)]
    show (exs (Gx (k + 1)) _ [some (.loc n), some key, some (.str (wd i b))] S).res = _
    first | unfold P.d8 | unfold P.d8v1
    simp only
    rw [exs_cons, ex_if e1, if_neg (by decide), exs_nil, Fl.seq_nx, exs_cons, ex_if e2, if_neg (by decide), exs_nil, Fl.seq_nx, exs_cons,
      ex_setI (ev_var rfl) e3 (ev_var rfl) (show setIV (Gx (k + 1)) (.loc m) key (.str (wd i b)) S = .ok () (S.set m (putD key (.str (wd i b)) ep (kvs f))) by unfold setIV; simp only [hd, h1, if_true]), Fl.seq_nx, exs_nil]
    rfl
  · rw [List.getElem?_set_ne (Ne.symm hne)]; exact r.ob
  · rw [List.getElem?_set_self hm, h2]
end Lw
end
section
set_option Elab.async false
set_option linter.all false
set_option maxRecDepth 100000
set_option maxHeartbeats 4000000
/-! R4: steps of expressions on trees. -/
namespace Lw
open C PySem
section
variable {B : BCx} {env : BEnv} {x y : BV}
theorem b_inv {a : E} {c f : Nat} {fs : List Nat} {ds : List D} {o q : Bool} {p : D × Bool} (h : bev B env a = some ⟨.obj c fs ds, o, q⟩) (hm : methB B c mInv fs = some f) (hp : B.call f [.obj c fs ds] = some p) : bev B env (.inv a) = some (BV.mk' p.1 (p.2 && o) (p.2 && q)) := by
  simp only [bev, h, Option.bind_some, hm, ofCall, hp, Option.map_some]
theorem b_call1 {f : Nat} {e : E} {p : D × Bool} (h : bev B env e = some x) (hp : B.call f [x.d] = some p) : bev B env (.call f [e]) = some (BV.mk' p.1 (p.2 && x.o) (p.2 && x.a)) := by
  simp only [bev, bevs, h, Option.bind_some, Option.map_some, ofCall, List.map_cons, List.map_nil, hp, oany, aany, List.any_cons, List.any_nil, Bool.or_false]
theorem b_call2 {f : Nat} {e e2 : E} {p : D × Bool} (h : bev B env e = some x) (h2 : bev B env e2 = some y) (hp : B.call f [x.d, y.d] = some p) : bev B env (.call f [e, e2]) = some (BV.mk' p.1 (p.2 && (x.o || y.o)) (p.2 && (x.a || y.a))) := by
  simp only [bev, bevs, h, h2, Option.bind_some, Option.map_some, ofCall, List.map_cons, List.map_nil, hp, oany, aany, List.any_cons, List.any_nil, Bool.or_false]
theorem bc_of {e : E} {b o a : Bool} (h : bev B env e = some ⟨.bl b, o, a⟩) : bcond (bev B env e) = some b := by rw [h]; rfl
theorem b_notc {e : E} {b o a : Bool} (h : bev B env e = some ⟨.bl b, o, a⟩) : bev B env (.not e) = some ⟨.bl (!b), false, false⟩ := b_not (bc_of h)
theorem b_orf {e e2 : E} {o a : Bool} (h : bev B env e = some ⟨.bl false, o, a⟩) : bev B env (.or e e2) = bev B env e2 := by simp only [bev, bc_of h, Option.bind_some, Bool.false_eq_true, if_false]
theorem b_andt {e e2 : E} {o a : Bool} (h : bev B env e = some ⟨.bl true, o, a⟩) : bev B env (.and e e2) = bev B env e2 := by simp only [bev, bc_of h, Option.bind_some, if_true]
end
theorem x_call1 {k : Nat} {env : BEnv} {x : BV} {f : Nat} {e : E} {p : D × Bool} (h : bev (Bx k) env e = some x) (hp : bcall tab 0 k f [x.d] = some p) : bev (Bx k) env (.call f [e]) = some (BV.mk' p.1 (p.2 && x.o) (p.2 && x.a)) := b_call1 h (by simp only; exact hp)
theorem x_call2 {k : Nat} {env : BEnv} {x y : BV} {f : Nat} {e e2 : E} {p : D × Bool} (h : bev (Bx k) env e = some x) (h2 : bev (Bx k) env e2 = some y) (hp : bcall tab 0 k f [x.d, y.d] = some p) : bev (Bx k) env (.call f [e, e2]) = some (BV.mk' p.1 (p.2 && (x.o || y.o)) (p.2 && (x.a || y.a))) := b_call2 h h2 (by simp only; exact hp)
theorem x_inv {k : Nat} {env : BEnv} {a : E} {c f : Nat} {fs : List Nat} {ds : List D} {o q : Bool} {p : D × Bool} (h : bev (Bx k) env a = some ⟨.obj c fs ds, o, q⟩) (hm : methB (Bx k) c mInv fs = some f) (hp : bcall tab 0 k f [.obj c fs ds] = some p) : bev (Bx k) env (.inv a) = some (BV.mk' p.1 (p.2 && o) (p.2 && q)) := b_inv h hm (by simp only; exact hp)
theorem x_make {k : Nat} {env : BEnv} {c2 : Nat} {es : List E} {xs : List BV} {f : Nat} {p : D × Bool} (h : bevs (Bx k) env es = some xs) (hi : (tab.cls c2).bind (·.init) = some f) (hp : bmake tab 0 k f (.obj c2 [] []) (xs.map (·.d)) = some p) : bev (Bx k) env (.make c2 es) = some ⟨p.1, p.2 && oany xs, p.2 && aany xs⟩ := b_make h hi (by simp only; exact hp)
/-- a call in the store -/
theorem y_call {k : Nat} {f : Nat} {es : List E} {xs : List Val} {S S1 : Store} {cenv : C.Env} (h : evs (Gx k) es cenv S = .ok xs S1) : ev (Gx k) (.call f es) cenv S = callM tab 0 k f xs S1 := by
  rw [ev_call h]
theorem mir_mir (f : Nat → Bool) : RuleD (mir (mir f)) = RuleD f := by
  unfold RuleD vw mir
  simp
theorem flat_rule (f : Nat → Bool) (o a : Bool) : BV.mk' (RuleD f) o a = ⟨RuleD f, o, a⟩ := rfl
end Lw
end
section
set_option Elab.async false
set_option linter.all false
set_option maxRecDepth 100000
set_option maxHeartbeats 1000000
/-! R6: what the laws over rules share. -/
namespace Lw
open C PySem
theorem kind_rule (f : Nat → Bool) : kindD (RuleD f) = some (.obj 0) := by unfold RuleD; rfl
theorem b_isi0 {B : BCx} {env : BEnv} {a : E} {t : Ty} {x : BV} (h : pk env a (bev B env a) = some x) : bev B env (.isi a t) = ((kindD x.d).bind (·.is t)).map fun b => ⟨.bl b, false, false⟩ := by
  simp only [bev, h, Option.bind_some]
theorem b_isi {B : BCx} {env : BEnv} {i : Nat} {f : Nat → Bool} {o : Bool} (h : env[i]? = some (some (.val (RuleD f) o))) : bev B env (.isi (.var i) (.cls 0)) = some ⟨.bl true, false, false⟩ := by
  have e1 : bev B env (.var i) = some ⟨RuleD f, o, false⟩ := by simp only [bev, h]
  have e2 : pk env (.var i) (bev B env (.var i)) = some ⟨RuleD f, o, false⟩ := by
    rw [e1]
    simp only [pk, h]
  rw [b_isi0 e2, kind_rule]
  rfl
theorem b_v {B : BCx} {env : BEnv} {i : Nat} {d : D} {o : Bool} (h : env[i]? = some (some (.val d o))) : bev B env (.var i) = some ⟨d, o, false⟩ := by simp only [bev, h]
theorem flat_vw (f : Nat → Bool) (o a : Bool) : BV.mk' (.lst (vw f)) o a = ⟨.lst (vw f), o, a⟩ := rfl
theorem call_c {k f : Nat} {ds : List D} {d : D} (h : bcall tab 0 k f ds = some (d, false)) {S : Store} {Q : Nat → Prop} {vs : List Val} (r : RDs S Q ds vs) : ∃ v S', callM tab 0 k f vs S = .ok v S' ∧ S <+: S' ∧ RD S' (fun n => S.length ≤ n) d v := by
  obtain ⟨v, S', h1, h2, h3⟩ := bcall_ok h r
  exact ⟨v, S', h1, h2, h3.to fun n c q e => ⟨e, q.resolve_right (by simp)⟩⟩
theorem call_b {k f : Nat} {ds : List D} {b : Bool} (h : bcall tab 0 k f ds = some (.bl b, false)) {S : Store} {Q : Nat → Prop} {vs : List Val} (r : RDs S Q ds vs) : ∃ S', callM tab 0 k f vs S = .ok (.bl b) S' ∧ S <+: S' := by
  obtain ⟨v, S', h1, h2, h3⟩ := call_c h r
  cases (show v = .bl b from h3)
  exact ⟨S', h1, h2⟩
theorem atI_nat {α : Type} (xs : List α) (i : Nat) : L2.atI xs (i : Int) = xs[i]? := by
  unfold L2.atI L2.ixN
  by_cases h : i < xs.length
  · rw [if_pos (by omega), if_pos (by omega)]; rfl
  · rw [if_pos (by omega), if_neg (by omega), List.getElem?_eq_none (by omega)]; rfl
theorem at_vv (f : Nat → Bool) (i : Nat) (h : i < 17) : L2.atI (vv f) (i : Int) = some (.str (wd i (f i))) := by
  rw [atI_nat (vv f) i, vv_at f i h]
theorem at_keys (i : Nat) (h : i < 17) : L2.atI keysV (i : Int) = some (keysV.getD i .non) := by
  have hl := keys_len
  rw [atI_nat keysV i, List.getD_eq_getElem?_getD, List.getElem?_eq_getElem (by rw [hl]; exact h)]
  rfl
theorem sub_l {Γ : Cx} {n : Nat} {xs : List Val} {S : Store} {i : Int} {v : Val} (h : S[n]? = some (.lst xs)) (hv : L2.atI xs i = some v) : subV Γ (.loc n) (.int i) S = .ok v S := by
  unfold subV
  simp only [h, hv, Res.of_some]
theorem setl {Γ : Cx} {n i : Nat} {xs : List Val} {S : Store} {v : Val} (h : S[n]? = some (.lst xs)) (hi : i < xs.length) : setIV Γ (.loc n) (.int (i : Int)) v S = .ok () (S.set n (.lst (xs.set i v))) := by
  unfold setIV
  simp only [h]
  rw [if_pos (by simp; omega)]
  simp
theorem RuleAt.same {S S' : Store} {n m : Nat} {f : Nat → Bool} (r : RuleAt S n m f) (h1 : S'[n]? = S[n]?) (h2 : S'[m]? = S[m]?) : RuleAt S' n m f := ⟨h1.trans r.ob, let ⟨ep, h⟩ := r.dc; ⟨ep, h2.trans h⟩⟩
/-- x[at] = other(x[at]) -/
theorem flip {k s t i n : Nat} {S : Store} {f : Nat → Bool} {cenv : C.Env} (hi : i < 17) (h3 : cenv[s]? = some (some (.loc n))) (h9 : cenv[t]? = some (some (.int (i : Int)))) (h : S[n]? = some (.lst (vv f))) :
    ∃ S', ex (Gx (k + 1)) (.setI (.var s) (.var t) (.call 15 [.sub (.var s) (.var t)])) cenv S = .nx cenv (S'.set n (.lst (vv (ch f i (!f i))))) ∧ S <+: S' := by
  obtain ⟨S', h1, h2⟩ := other_c k i hi (f i) S
  refine ⟨S', ?_, h2⟩
  have e1 : ev (Gx (k + 1)) (.call 15 [.sub (.var s) (.var t)]) cenv S = .ok (.str (wd i (!f i))) S' := by
    rw [y_call (evs_cons0 (ev_sub (ev_var h3) (ev_var h9) (sub_l h (at_vv f i hi))) evs_nil0)]
    exact h1
  rw [ex_setI e1 (ev_var h3) (ev_var h9) (setl (pre_at h2 h) (by rw [vv_len]; exact hi)), vv_ch f _ i hi]
/-- rule[keys[at]] = x[at] -/
theorem putr {k s t u y i n m q n1 : Nat} {S : Store} {f g : Nat → Bool} {cenv : C.Env} (hi : i < 17) (h1 : cenv[y]? = some (some (.loc n1))) (hk : S[n1]? = some (.lst keysV)) (h3 : cenv[s]? = some (some (.loc n))) (h4 : cenv[t]? = some (some (.loc q))) (h9 : cenv[u]? = some (some (.int (i : Int)))) (h : S[n]? = some (.lst (vv f))) (r : RuleAt S q m g) (hne : q ≠ m) :
    ∃ S', ex (Gx (k + 2)) (.setI (.var t) (.sub (.var y) (.var u)) (.sub (.var s) (.var u))) cenv S = .nx cenv S' ∧ RuleAt S' q m (ch g i (f i)) ∧ S'.length = S.length ∧ ∀ j, j ≠ m → S'[j]? = S[j]? := by
  obtain ⟨S', e, r', hl, hs⟩ := set_c k i hi (f i) r hne
  refine ⟨S', ?_, r', hl, hs⟩
  refine ex_setI (ev_sub (ev_var h3) (ev_var h9) (sub_l h (at_vv f i hi))) (ev_var h4) (ev_sub (ev_var h1) (ev_var h9) (sub_l hk (at_keys i hi))) ?_
  unfold setIV
  simp only [r.ob]
  have hm : methOf (Gx (k + 2)) 0 mSet = some 8 := rfl
  rw [hm]
  show ((callM tab 0 (k + 2) 8 [.loc q, keysV.getD i .non, .str (wd i (f i))] S).bind fun _ S1 => Res.ok () S1) = _
  rw [e]
  rfl
theorem ch_vv (f g : Nat → Bool) (i : Nat) (b : Bool) (h : vv f = vv g) (hi : i < 17) : vv (ch f i b) = vv (ch g i b) := by rw [vv_ch f b i hi, vv_ch g b i hi, h]
/-- _law_cell(script, c) -/
theorem cell_ok (k : Nat) (ns : List Int) (hn : ns.length ≤ 1000) (c : Nat) : ∃ z : Int, bcall tab 0 (k + 1) 10 [.ro (ns.map D.int), .int (c : Int)] = some (.int z, false) := by
  have hfl : ∀ o a, BV.mk' (.int 0) o a = ⟨.int 0, false, false⟩ := fun _ _ => rfl
  have hlt : C.sc2 (cmpV noCx .lt) (D.int (c : Int)) (D.int (ns.length : Int)) = some (.bl (decide ((c : Int) < ns.length))) := ii_lt
  have hb : ∀ o2 : Bool, ∀ env : BEnv, env = [some (.val (.ro (ns.map D.int)) o2), some (.val (.int (c : Int)) false)] → bev (Bx k) env (.cmp .lt (.var 1) (.blt .len [.var 0])) = some ⟨.bl (decide ((c : Int) < ns.length)), false, false⟩ := by
    intro o2 env he
    subst he
    simp [bev, pk, bblt, bevs, bcmp, hlt]
  by_cases h : c < ns.length
  · refine ⟨ns[c], ?_⟩
    rw [bcall_succ rfl]
    refine brun_rt (o := false) rfl ?_
    simp only [P.d10, bstart, D.flat, List.map_cons, List.map_nil]
    have hat : L2.atI (ns.map D.int) (c : Int) = some (.int ns[c]) := by
      rw [atI_nat, List.getElem?_map, List.getElem?_eq_getElem h]
      rfl
    show bexs (Bx k) _ [some (.val (.ro (ns.map D.int)) (!D.flats (ns.map D.int))), some (.val (.int (c : Int)) false)] = _
    refine sk_ifr (by rw [hb _ _ rfl]; simp [bcond, h]) ?_
    have e1 : bev (Bx k) [some (.val (.ro (ns.map D.int)) (!D.flats (ns.map D.int))), some (.val (.int (c : Int)) false)] (.sub (.var 0) (.var 1)) = some ⟨.int ns[c], false, false⟩ := by
      simp [bev, pk, bsub, hat, BV.mk', D.flat]
    rw [sk_ret e1]
  · refine ⟨0, ?_⟩
    rw [bcall_succ rfl]
    refine brun_rt (o := false) rfl ?_
    simp only [P.d10, bstart, D.flat, List.map_cons, List.map_nil]
    show bexs (Bx k) _ [some (.val (.ro (ns.map D.int)) (!D.flats (ns.map D.int))), some (.val (.int (c : Int)) false)] = _
    rw [sk_if (by rw [hb _ _ rfl]; simp [bcond]; omega)]
    rfl
theorem rds_ints {S : Store} {Q : Nat → Prop} : ∀ ns : List Int, RDs S Q (ns.map D.int) (ns.map Val.int)
  | [] => rfl
  | n :: ns => ⟨_, _, rfl, rfl, rds_ints ns⟩
theorem cell_c (k : Nat) (ns : List Int) (hn : ns.length ≤ 1000) (c : Nat) (S : Store) : ∃ z S', callM tab 0 (k + 1) 10 [.ro (ns.map Val.int), .int (c : Int)] S = .ok (.int z) S' ∧ S <+: S' := by
  obtain ⟨z, h⟩ := cell_ok k ns hn c
  obtain ⟨v, S', h1, h2, h3⟩ := call_c h (S := S) (Q := fun _ => True) (vs := [.ro (ns.map Val.int), .int (c : Int)]) ⟨_, _, rfl, ⟨_, rfl, rds_ints ns⟩, _, _, rfl, rfl, rfl⟩
  cases (show v = .int z from h3)
  exact ⟨z, S', h1, h2⟩
/-- int(_law_cell(script, c)) % m -/
theorem draw_c {k : Nat} {ns : List Int} (hn : ns.length ≤ 1000) (c : Nat) (ci m : Int) (hc : ci = (c : Int)) (hm : 0 < m) {S : Store} {cenv : C.Env} (h0 : cenv[0]? = some (some (.ro (ns.map Val.int)))) : ∃ z S', ev (Gx (k + 1)) (.bin .mod (.blt .int [.call 10 [.var 0, .cst (.int ci)]]) (.cst (.int m))) cenv S = .ok (.int z) S' ∧ S <+: S' ∧ 0 ≤ z ∧ z < m := by
  subst hc
  obtain ⟨z, S', h1, h2⟩ := cell_c k ns hn c S
  refine ⟨z % m, S', ?_, h2, Int.emod_nonneg _ (by omega), Int.emod_lt_of_pos _ hm⟩
  have e1 : ev (Gx (k + 1)) (.blt .int [.call 10 [.var 0, .cst (.int (c : Int))]]) cenv S = .ok (.int z) S' := by
    conv => lhs; unfold ev
    rw [evs_cons0 ((y_call (evs_cons0 (ev_var h0) (evs_cons0 ev_cst evs_nil0))).trans h1) evs_nil0]
    rfl
  rw [ev_bin e1 ev_cst]
  show (if decide (0 < m) = true then _ else _) = _
  rw [if_pos (decide_eq_true hm)]
/-- the list that is walked -/
theorem for_run {Γ : Cx} {cenv : C.Env} {S S1 : Store} {tg : List Nat} {es : List E} {body : List C.S} {xs : List Val} (h : ev Γ (.lst es) cenv S = .ok (.loc S1.length) (S1 ++ [.lst xs])) :
    ex Γ (.for_ tg 0 [.lst es] body) cenv S = forGo (fun e S => exs Γ body e S) tg ⟨xs, .lst S1.length xs⟩ xs cenv (S1 ++ [.lst xs]) := by
  unfold ex
  rw [evs_cons0 h evs_nil0]
  have : srcV Γ 0 [.loc S1.length] (S1 ++ [.lst xs]) = some ⟨xs, .lst S1.length xs⟩ := by
    unfold srcV walkV
    simp
  simp only [Res.bind_ok, this, Res.of_some, Res.fl_ok]
/-- the last tests -/
theorem last11 {k n : Nat} {q m : Nat} {S : Store} {f : Nat → Bool} {cenv : C.Env} {i j : Nat} (hi : cenv[i]? = some (some (.loc q))) (hj : cenv[j]? = some (some (.loc n))) (r : RuleAt S q m f) (h : S[n]? = some (.lst (vv f))) : ∃ S', ev (Gx (k + 5)) (.call 12 [.call 17 [.var i], .var j]) cenv S = .ok (.bl true) S' ∧ S <+: S' := by
  obtain ⟨w, S5, c4, p5, rw5⟩ := call_c (entries_ok (k + 3) f) (S := S) (Q := fun _ => True) (vs := [.loc q]) ⟨_, _, rfl, r.rd.to fun n c q e => ⟨e, trivial⟩, rfl⟩
  obtain ⟨S6, c5, p6⟩ := call_b (same_vw (k + 3) f) (S := S5) (Q := fun _ => True) (vs := [w, .loc n]) ⟨_, _, rfl, rw5.to fun n c q e => ⟨e, trivial⟩, _, _, rfl, (lst_rd (pre_at p5 h)).to fun n c q e => ⟨e, trivial⟩, rfl⟩
  exact ⟨S6, (y_call (evs_cons0 ((y_call (evs_cons0 (ev_var hi) evs_nil0)).trans c4) (evs_cons0 (ev_var hj) evs_nil0))).trans c5, p5.trans p6⟩
theorem keys_vals : D.vals keysD = some keysV := by kernel_rfl
theorem lst_of {S : Store} {Q : Nat → Prop} {ds : List D} {ws : List Val} {v : Val} (h : D.vals ds = some ws) (r : RD S Q (.lst ds) v) : ∃ n, v = .loc n ∧ Q n ∧ S[n]? = some (.lst ws) := by
  obtain ⟨n, vs, rfl, hq, e, hr⟩ := r
  rw [RDs.vals h hr] at e
  exact ⟨n, rfl, hq, e⟩
theorem vw_vals (f : Nat → Bool) : D.vals (vw f) = some (vv f) := by
  unfold vw vv ww
  rfl
theorem lt_of {S : Store} {n : Nat} {c : Cell} (h : S[n]? = some c) : n < S.length := (List.getElem?_eq_some_iff.mp h).1
end Lw
end
section
set_option Elab.async false
set_option linter.all false
set_option maxRecDepth 100000
set_option maxHeartbeats 4000000
namespace Lw
open C PySem
/-- the number of a rule -/
def num (f : Nat → Bool) : Nat → Int
  | 0 => 0
  | i + 1 => if f i = true then num f i + 2 ^ i else num f i
abbrev pbody : List C.S := [.ifs (.cmp .eq (.sub (.attr (.var 0) 14) (.var 3)) (.sub (.call 1 [.var 3]) (.cst (.int 0)))) [.asg 1 (.bin .add (.var 1) (.var 2))] [], .asg 2 (.bin .mul (.var 2) (.cst (.int 2)))]
theorem num_step (k : Nat) (f : Nat → Bool) (a : Int) : ∀ i, i < 17 → bexs (Bx (k + 1)) pbody [some (.val (RuleD f) true), some (.val (.int a) false), some (.val (.int (2 ^ i)) false), some (.val (keysD.getD i .non) false)] =
    some (.nx [some (.val (RuleD f) true), some (.val (.int (if f i = true then a + 2 ^ i else a)) false), some (.val (.int (2 ^ (i + 1))) false), some (.val (keysD.getD i .non) false)]) := by
  intro i hi
  unfold RuleD vw
  match i, hi with
  | 0, _ => generalize f 0 = b; cases b <;> kernel_rfl
  | 1, _ => generalize f 1 = b; cases b <;> kernel_rfl
  | 2, _ => generalize f 2 = b; cases b <;> kernel_rfl
  | 3, _ => generalize f 3 = b; cases b <;> kernel_rfl
  | 4, _ => generalize f 4 = b; cases b <;> kernel_rfl
  | 5, _ => generalize f 5 = b; cases b <;> kernel_rfl
  | 6, _ => generalize f 6 = b; cases b <;> kernel_rfl
  | 7, _ => generalize f 7 = b; cases b <;> kernel_rfl
  | 8, _ => generalize f 8 = b; cases b <;> kernel_rfl
  | 9, _ => generalize f 9 = b; cases b <;> kernel_rfl
  | 10, _ => generalize f 10 = b; cases b <;> kernel_rfl
  | 11, _ => generalize f 11 = b; cases b <;> kernel_rfl
  | 12, _ => generalize f 12 = b; cases b <;> kernel_rfl
  | 13, _ => generalize f 13 = b; cases b <;> kernel_rfl
  | 14, _ => generalize f 14 = b; cases b <;> kernel_rfl
  | 15, _ => generalize f 15 = b; cases b <;> kernel_rfl
  | 16, _ => generalize f 16 = b; cases b <;> kernel_rfl
  | n + 17, h => omega
abbrev qbody : List C.S := [.ifs (.or (.cmp .eq (.var 3) (.cst (.str "near"))) (.cmp .eq (.var 3) (.cst (.str "behind")))) [.asg 1 (.bin .add (.var 1) (.var 2))] [], .asg 2 (.bin .mul (.var 2) (.cst (.int 2)))]
theorem qum_step (k : Nat) (t : BS) (b : Bool) (a : Int) : ∀ i, i < 17 → bexs (Bx k) qbody [some t, some (.val (.int a) false), some (.val (.int (2 ^ i)) false), some (.val (wD i b) false)] =
    some (.nx [some t, some (.val (.int (if b = true then a + 2 ^ i else a)) false), some (.val (.int (2 ^ (i + 1))) false), some (.val (wD i b) false)]) := by
  intro i hi
  match i, hi with
  | 0, _ => cases b <;> kernel_rfl
  | 1, _ => cases b <;> kernel_rfl
  | 2, _ => cases b <;> kernel_rfl
  | 3, _ => cases b <;> kernel_rfl
  | 4, _ => cases b <;> kernel_rfl
  | 5, _ => cases b <;> kernel_rfl
  | 6, _ => cases b <;> kernel_rfl
  | 7, _ => cases b <;> kernel_rfl
  | 8, _ => cases b <;> kernel_rfl
  | 9, _ => cases b <;> kernel_rfl
  | 10, _ => cases b <;> kernel_rfl
  | 11, _ => cases b <;> kernel_rfl
  | 12, _ => cases b <;> kernel_rfl
  | 13, _ => cases b <;> kernel_rfl
  | 14, _ => cases b <;> kernel_rfl
  | 15, _ => cases b <;> kernel_rfl
  | 16, _ => cases b <;> kernel_rfl
  | n + 17, h => omega
theorem keysV_of : P.kKEYS = .tup keysV := by kernel_rfl
theorem kkeys : D.of P.kKEYS = .tup keysD := by rw [keysV_of]; rfl
/-- rule.number -/
theorem number_d (k : Nat) (f : Nat → Bool) : bcall tab 0 (k + 2) 6 [RuleD f] = some (.int (num f 17), false) := by
  rw [bcall_succ rfl]
  refine brun_rt rfl ?_
  have hr : (RuleD f).flat = false := by unfold RuleD; rfl
  simp only [P.d6, bstart, D.flat, List.map_cons, List.map_nil, hr, Bool.not_false]
  rw [sk_asg (x := ⟨.int 0, false, false⟩) rfl (by rfl), sk_asg (x := ⟨.int 1, false, false⟩) rfl (by rfl)]
  obtain ⟨env', h1, x3, h2⟩ := bfor_ix (tg := [3]) (o := false) (body := fun env => bexs (Bx (k + 1)) pbody env) keysD (fun i env => ∃ x3, env = [some (.val (RuleD f) true), some (.val (.int (num f i)) false), some (.val (.int (2 ^ i)) false), x3])
    [some (.val (RuleD f) true), some (.val (.int 0) false), some (.val (.int 1) false), none] ⟨none, rfl⟩ (by
    rintro i x env hi ⟨x3, rfl⟩
    have hlt : i < 17 := by have := (List.getElem?_eq_some_iff.mp hi).1; rw [keysD_len] at this; exact this
    rw [keysD_at i hlt] at hi
    cases hi
    have hs := num_step k f (num f i) i hlt
    refine ⟨_, _, ?_, hs, some (.val (keysD.getD i .non) false), ?_⟩
    · simp [bsetN]
    · simp only [num])
  rw [keysD_len] at h2
  rw [sk_forn (x := ⟨.tup keysD, false, false⟩) rfl (by rfl) (by rfl) h1, h2]
  rw [sk_ret (x := ⟨.int (num f 17), false, false⟩) (by rfl)]
/-- _law_number(values) -/
theorem qumber_d (k : Nat) (f : Nat → Bool) : bcall tab 0 (k + 1) 20 [.lst (vw f)] = some (.int (num f 17), false) := by
  rw [bcall_succ rfl]
  refine brun_rt rfl ?_
  simp only [P.d20, bstart, D.flat, List.map_cons, List.map_nil, Bool.not_false]
  rw [sk_asg (x := ⟨.int 0, false, false⟩) rfl (by rfl), sk_asg (x := ⟨.int 1, false, false⟩) rfl (by rfl)]
  obtain ⟨env', h1, x3, h2⟩ := bfor_ix (tg := [3]) (o := true) (body := fun env => bexs (Bx k) qbody env) (vw f) (fun i env => ∃ x3, env = [some (.val (.lst (vw f)) true), some (.val (.int (num f i)) false), some (.val (.int (2 ^ i)) false), x3])
    [some (.val (.lst (vw f)) true), some (.val (.int 0) false), some (.val (.int 1) false), none] ⟨none, rfl⟩ (by
    rintro i x env hi ⟨x3, rfl⟩
    have hlt : i < 17 := by have := (List.getElem?_eq_some_iff.mp hi).1; rw [vw_len] at this; exact this
    rw [vw_at f i hlt] at hi
    cases hi
    have hs := qum_step k (.val (.lst (vw f)) true) (f i) (num f i) i hlt
    refine ⟨_, _, ?_, hs, some (.val (wD i (f i)) false), ?_⟩
    · simp [bsetN, D.flat]
    · simp only [num])
  rw [vw_len] at h2
  rw [sk_forn (x := ⟨.lst (vw f), true, false⟩) rfl (by rfl) (by rfl) h1, h2]
  rw [sk_ret (x := ⟨.int (num f 17), false, false⟩) (by rfl)]
theorem num_bitf (n : Int) : ∀ i, num (bitf n) i = n % 2 ^ i
  | 0 => by simp [num, Int.emod_one]
  | i + 1 => by
    rw [num, num_bitf n i]
    have h1 : n % 2 ^ (i + 1) = n - 2 ^ (i + 1) * (n / 2 ^ (i + 1)) := Int.emod_def _ _
    have h2 : n % 2 ^ i = n - 2 ^ i * (n / 2 ^ i) := Int.emod_def _ _
    have h3 : (n / 2 ^ i) % 2 = n / 2 ^ i - 2 * (n / 2 ^ i / 2) := Int.emod_def _ _
    have h4 : (2 : Int) ^ (i + 1) * (n / 2 ^ (i + 1)) = 2 ^ i * (2 * (n / 2 ^ i / 2)) := by
      rw [div_pow, Int.pow_succ, Int.mul_assoc]
    unfold bitf
    simp only [decide_eq_true_eq]
    rcases mod2 (n / 2 ^ i) with h | h
    · rw [if_neg (by omega)]
      have h5 : 2 * (n / 2 ^ i / 2) = n / 2 ^ i := by omega
      rw [h5] at h4
      omega
    · rw [if_pos h]
      have h5 : 2 * (n / 2 ^ i / 2) = n / 2 ^ i - 1 := by omega
      rw [h5, Int.mul_sub, Int.mul_one] at h4
      omega
theorem num_of (n : Int) (h0 : 0 ≤ n) (h1 : n < 131072) : num (bitf n) 17 = n := by
  rw [num_bitf]
  exact Int.emod_eq_of_lt h0 h1
end Lw
end
section
set_option Elab.async false
set_option linter.all false
set_option maxRecDepth 100000
set_option maxHeartbeats 1000000
namespace Lw
open C PySem
theorem from_ok (k : Nat) (n : Int) (h0 : 0 ≤ n) (h1 : n < 131072) : bcall tab 0 (k + 3) 5 [.int n] = some (RuleD (bitf n), false) := by
  rw [bcall_succ rfl]
  refine brun_rt (o := false) rfl ?_
  simp only [P.d5v1, bstart, D.flat, List.map_cons, List.map_nil]
  have hl : C.sc2 (cmpV noCx .lt) (D.int n) (D.int 0) = some (.bl false) := by rw [ii_lt, decide_eq_false (by omega)]
  have hg : C.sc2 (cmpV noCx .ge) (D.int n) (D.int 131072) = some (.bl false) := by rw [ii_ge, decide_eq_false (by omega)]
  rw [sk_if (by simp [bev, pk, bcond, bcmp, Val.data, D.of, hl, hg, P.kMANY])]
  have e1 : bevs (Bx (k + 2)) [some (.val (.int n) false)] [.call 3 [.var 0]] = some [⟨.lst (vw (bitf n)), false, false⟩] := by
    have e2 : bev (Bx (k + 2)) [some (.val (.int n) false)] (.call 3 [.var 0]) = some ⟨.lst (vw (bitf n)), false, false⟩ := by
      rw [x_call1 (b_v rfl) (number_ok k n)]
      rfl
    simp only [bevs, e2, Option.bind_some, Option.map_some]
  show bexs (Bx (k + 2)) _ [some (.val (.int n) false)] = _
  rw [sk_ret (x_make (f := 4) (p := (RuleD (bitf n), false)) e1 rfl (init_ok k (bitf n)))]
  rfl
theorem x_prp {k : Nat} {env : BEnv} {a : E} {c m f : Nat} {fs : List Nat} {ds : List D} {o q : Bool} {p : D × Bool} (h : bev (Bx k) env a = some ⟨.obj c fs ds, o, q⟩) (hm : ((tab.cls c).bind fun k => k.props.lookup m) = some f) (hp : bcall tab 0 k f [.obj c fs ds] = some p) : bev (Bx k) env (.prp a m) = some (BV.mk' p.1 (p.2 && o) (p.2 && q)) := by
  simp only [bev, h, Option.bind_some, hm, ofCall, hp, Option.map_some]
theorem x_num {k : Nat} {env : BEnv} {a : E} {f : Nat → Bool} {o q : Bool} (h : bev (Bx (k + 2)) env a = some ⟨RuleD f, o, q⟩) : bev (Bx (k + 2)) env (.prp a 13) = some ⟨.int (num f 17), false, false⟩ := by
  have e := number_d k f
  unfold RuleD at h e
  rw [x_prp h (by rfl) e]
  rfl
/-- _law_asked(n), n a number -/
theorem asked_d (k : Nat) (n : Int) (h0 : 0 ≤ n) (h1 : n < 131072) : bcall tab 0 (k + 4) 23 [.int n] = some (.bl true, false) := by
  rw [bcall_succ rfl]
  refine brun_rt (o := false) rfl ?_
  simp only [P.d23, bstart, D.flat, List.map_cons, List.map_nil, Bool.not_true]
  have hl : C.sc2 (cmpV noCx .lt) (D.int n) (D.int 0) = some (.bl false) := by rw [ii_lt, decide_eq_false (by omega)]
  have hg : C.sc2 (cmpV noCx .gt) (D.int n) (D.int 131071) = some (.bl false) := by rw [ii_gt, decide_eq_false (by omega)]
  rw [sk_if (by simp [bev, pk, bcond, bcmp, Val.data, D.of, hl, hg])]
  show bexs (Bx (k + 3)) _ [some (.val (.int n) false), none] = _
  rw [sk_asg (x := ⟨RuleD (bitf n), false, false⟩) rfl (by rw [x_call1 (b_v rfl) (from_ok k n h0 h1)]; rfl)]
  show bexs (Bx (k + 3)) _ [some (.val (.int n) false), some (.val (RuleD (bitf n)) false)] = _
  rw [sk_if (bc_of (b_notc (b_isi rfl)))]
  have hv := values_ok (k + 2) n
  rw [Int.emod_eq_of_lt h0 h1] at hv
  have e1 : bev (Bx (k + 3)) [some (.val (.int n) false), some (.val (RuleD (bitf n)) false)] (.call 12 [.call 17 [.var 1], .call 14 [.var 0]]) = some ⟨.bl true, false, false⟩ := by
    rw [x_call2 (x_call1 (b_v rfl) (entries_ok (k + 1) (bitf n))) (x_call1 (b_v rfl) hv) (same_vw (k + 1) (bitf n))]
    rfl
  have hn := num_of n h0 h1
  have e2 : bev (Bx (k + 3)) [some (.val (.int n) false), some (.val (RuleD (bitf n)) false)] (.call 12 [.prp (.var 1) 13, .var 0]) = some ⟨.bl true, false, false⟩ := by
    have e3 : bev (Bx (k + 3)) [some (.val (.int n) false), some (.val (RuleD (bitf n)) false)] (.prp (.var 1) 13) = some ⟨.int n, false, false⟩ := by
      rw [x_num (k := k + 1) (f := bitf n) (o := false) (q := false) (b_v rfl), hn]
    rw [x_call2 e3 (b_v rfl) (same_int (k + 1) n)]
    rfl
  rw [sk_ret ((b_andt e1).trans e2)]
/-! ### what is refused -/
theorem ex_expr {Γ : Cx} {e : E} {cenv : C.Env} {S S' : Store} {v : Val} (h : ev Γ e cenv S = .ok v S') : ex Γ (.expr e) cenv S = .nx cenv S' := by
  unfold ex
  rw [h]
  rfl
theorem ev_lst {Γ : Cx} {es : List E} {xs : List Val} {cenv : C.Env} {S S' : Store} (h : evs Γ es cenv S = .ok xs S') (hl : xs.length ≤ lineC) : ev Γ (.lst es) cenv S = .ok (.loc S'.length) (S' ++ [.lst xs]) := by
  conv => lhs; unfold ev
  rw [h]
  simp only [Res.bind_ok, newL]
  rw [if_pos hl]
  rfl
theorem add_l {Γ : Cx} {a b : Nat} {xs ys : List Val} {S : Store} (h1 : S[a]? = some (.lst xs)) (h2 : S[b]? = some (.lst ys)) (hl : xs.length + ys.length ≤ lineC) : binV Γ .add (.loc a) (.loc b) S = .ok (.loc S.length) (S ++ [.lst (xs ++ ys)]) := by
  unfold binV
  simp only [h1, h2, newL]
  rw [if_pos (by rw [List.length_append]; exact hl)]
  rfl
theorem at_end (S : Store) (c : Cell) : (S ++ [c])[S.length]? = some c := by simp
theorem ev_append {Γ : Cx} {i n : Nat} {e : E} {y : Val} {xs : List Val} {cenv : C.Env} {S S' : Store} (hi : cenv[i]? = some (some (.loc n))) (h0 : S[n]? = some (.lst xs)) (h : ev Γ e cenv S = .ok y S') (h1 : S'[n]? = some (.lst xs)) (hl : xs.length < lineC) : ev Γ (.bm .append (.var i) [e]) cenv S = .ok .non (S'.set n (.lst (xs ++ [y]))) := by
  conv => lhs; unfold ev
  rw [ev_var hi]
  simp only [Res.bind_ok]
  have hb : bmTy .append (.loc n) S = true := by
    unfold bmTy lstAt
    simp only [h0]
    rfl
  rw [if_pos hb, evs_cons0 h evs_nil0]
  simp only [Res.bind_ok, bmV, appendV, h1]
  rw [if_pos hl]
abbrev isT1 : List (Nat × List (Nat × Bool)) := [(1, [(1000, false), (1001, false), (1002, false), (1003, false), (1004, false), (1005, false), (1006, false), (1007, false), (1008, false), (1009, false), (1010, true), (1011, true)])]
abbrev Sx (l : List (Nat × List (Nat × Bool))) (c : Nat) : Cx := ⟨tab, curCall tab c l, 0⟩
abbrev hbody : List C.S := [.asg 2 (.lst [.exq 1 1000, .exq 1 1001, .exq 1 1002]), .asg 2 (.bin .add (.var 2) (.lst [.exq 1 1003, .exq 1 1004, .exq 1 1005])), .asg 2 (.bin .add (.var 2) (.lst [.exq 1 1006, .exq 1 1007, .exq 1 1008])), .expr (.bm .append (.var 2) [.exq 1 1009]), .ret (.and (.exq 1 1010) (.and (.exq 1 1011) (.cmp .notin (.cst (.bl true)) (.var 2))))]
theorem set_pre {S T : Store} {n : Nat} {c : Cell} (p : S <+: T) (hn : S.length ≤ n) : S <+: T.set n c := by
  obtain ⟨t, rfl⟩ := p
  rw [List.set_append_right _ _ hn]
  exact List.prefix_append _ _
theorem suite_ok (v0 : Val) (x2 : Option Val) (S : Store) : ∃ S', exs (Sx isT1 1) hbody [some v0, none, x2] S = .rt (.bl true) S' ∧ S <+: S' := by
  have q : ∀ (n : Nat) (b : Bool) (y : Option Val) (S : Store), ((isT1.lookup 1).bind fun l => l.lookup n) = some b → tab.defs n = none → ev (Sx isT1 1) (.exq 1 n) [some v0, none, y] S = .ok (.bl b) S := by
    intro n b y S h hd
    conv => lhs; unfold ev
    show curCall tab 1 isT1 n [] S = _
    unfold curCall
    rw [hd]
    simp only
    rw [h]
  have l3 : ∀ (a b c : Nat) (y : Option Val) (S : Store), ((isT1.lookup 1).bind fun l => l.lookup a) = some false → ((isT1.lookup 1).bind fun l => l.lookup b) = some false → ((isT1.lookup 1).bind fun l => l.lookup c) = some false → tab.defs a = none → tab.defs b = none → tab.defs c = none →
      ev (Sx isT1 1) (.lst [.exq 1 a, .exq 1 b, .exq 1 c]) [some v0, none, y] S = .ok (.loc S.length) (S ++ [.lst [.bl false, .bl false, .bl false]]) := by
    intro a b c y S h1 h2 h3 d1 d2 d3
    exact ev_lst (evs_cons0 (q a _ y S h1 d1) (evs_cons0 (q b _ y S h2 d2) (evs_cons0 (q c _ y S h3 d3) evs_nil0))) (by simp [lineC])
  have e1 := l3 1000 1001 1002 x2 S rfl rfl rfl rfl rfl rfl
  generalize hA : S ++ [Cell.lst [.bl false, .bl false, .bl false]] = A at e1
  have a0 : A[S.length]? = some (.lst [.bl false, .bl false, .bl false]) := by rw [← hA]; exact at_end _ _
  have e2 := l3 1003 1004 1005 (some (.loc S.length)) A rfl rfl rfl rfl rfl rfl
  generalize hB : A ++ [Cell.lst [.bl false, .bl false, .bl false]] = B at e2
  have b0 : B[A.length]? = some (.lst [.bl false, .bl false, .bl false]) := by rw [← hB]; exact at_end _ _
  have pAB : A <+: B := by rw [← hB]; exact List.prefix_append _ _
  have e3 : ev (Sx isT1 1) (.bin .add (.var 2) (.lst [.exq 1 1003, .exq 1 1004, .exq 1 1005])) [some v0, none, some (.loc S.length)] A = .ok (.loc B.length) (B ++ [.lst [.bl false, .bl false, .bl false, .bl false, .bl false, .bl false]]) := by
    rw [ev_bin (ev_var rfl) e2, add_l (pre_at pAB a0) b0 (by simp [lineC])]
    rfl
  generalize hC : B ++ [Cell.lst [.bl false, .bl false, .bl false, .bl false, .bl false, .bl false]] = C' at e3
  have c0 : C'[B.length]? = some (.lst [.bl false, .bl false, .bl false, .bl false, .bl false, .bl false]) := by rw [← hC]; exact at_end _ _
  have e4 := l3 1006 1007 1008 (some (.loc B.length)) C' rfl rfl rfl rfl rfl rfl
  generalize hD : C' ++ [Cell.lst [.bl false, .bl false, .bl false]] = D' at e4
  have d0 : D'[C'.length]? = some (.lst [.bl false, .bl false, .bl false]) := by rw [← hD]; exact at_end _ _
  have pCD : C' <+: D' := by rw [← hD]; exact List.prefix_append _ _
  have e5 : ev (Sx isT1 1) (.bin .add (.var 2) (.lst [.exq 1 1006, .exq 1 1007, .exq 1 1008])) [some v0, none, some (.loc B.length)] C' = .ok (.loc D'.length) (D' ++ [.lst [.bl false, .bl false, .bl false, .bl false, .bl false, .bl false, .bl false, .bl false, .bl false]]) := by
    rw [ev_bin (ev_var rfl) e4, add_l (pre_at pCD c0) d0 (by simp [lineC])]
    rfl
  generalize hE : D' ++ [Cell.lst [.bl false, .bl false, .bl false, .bl false, .bl false, .bl false, .bl false, .bl false, .bl false]] = E' at e5
  have f0 : E'[D'.length]? = some (.lst [.bl false, .bl false, .bl false, .bl false, .bl false, .bl false, .bl false, .bl false, .bl false]) := by rw [← hE]; exact at_end _ _
  have e6 := ev_append (i := 2) (n := D'.length) (cenv := [some v0, none, some (.loc D'.length)]) rfl f0 (q 1009 false (some (.loc D'.length)) E' rfl rfl) f0 (by simp [lineC])
  have lE : D'.length < E'.length := lt_of f0
  generalize hF : E'.set D'.length (.lst ([.bl false, .bl false, .bl false, .bl false, .bl false, .bl false, .bl false, .bl false, .bl false] ++ [Val.bl false])) = F at e6
  have g0 : F[D'.length]? = some (.lst ([.bl false, .bl false, .bl false, .bl false, .bl false, .bl false, .bl false, .bl false, .bl false] ++ [Val.bl false])) := by rw [← hF]; exact List.getElem?_set_self lE
  have e7 : ev (Sx isT1 1) (.cmp .notin (.cst (.bl true)) (.var 2)) [some v0, none, some (.loc D'.length)] F = .ok (.bl true) F := by
    rw [ev_cmp ev_cst (ev_var rfl)]
    unfold cmpV
    simp only [inV, g0]
    rfl
  have pre : S <+: E' := by
    rw [← hE, ← hD, ← hC, ← hB, ← hA]
    simp only [List.append_assoc]
    exact List.prefix_append _ _
  have hlen : S.length ≤ D'.length := by
    rw [← hD, ← hC, ← hB, ← hA]
    simp only [List.length_append, List.length_cons, List.length_nil]
    omega
  refine ⟨F, ?_, by rw [← hF]; exact set_pre pre hlen⟩
  rw [exs_cons, ex_asg e1, Fl.seq_nx]
  show exs (Sx isT1 1) _ [some v0, none, some (.loc S.length)] A = _
  rw [exs_cons, ex_asg e3, Fl.seq_nx]
  show exs (Sx isT1 1) _ [some v0, none, some (.loc B.length)] C' = _
  rw [exs_cons, ex_asg e5, Fl.seq_nx]
  show exs (Sx isT1 1) _ [some v0, none, some (.loc D'.length)] E' = _
  rw [exs_cons, ex_expr e6, Fl.seq_nx, exs_cons, ex_ret (v := .bl true) (S' := F) ?_]
  · rfl
  · rw [ev_and (q 1010 true _ F rfl rfl), if_pos rfl, ev_and (q 1011 true _ F rfl rfl), if_pos rfl, e7]
theorem from_exc (k : Nat) (n : Int) (h : n < 0 ∨ 131071 < n) (S : Store) : callM tab 0 (k + 1) 5 [.int n] S = .exc 1 [] S := by
  rw [callM_succ rfl, runDef_eq (by rfl)]
  show (exs (Gx k) P.d5v1.body [some (.int n)] S).res = _
  unfold P.d5v1
  simp only
  have e : ev (Gx k) (.or (.cmp .lt (.var 0) (.cst (.int 0))) (.cmp .ge (.var 0) (.cst P.kMANY))) [some (.int n)] S = .ok (.bl true) S := by
    have e1 : ev (Gx k) (.cmp .lt (.var 0) (.cst (.int 0))) [some (.int n)] S = .ok (.bl (decide (n < 0))) S := by
      rw [ev_cmp (ev_var rfl) ev_cst]
      rfl
    have e2 : ev (Gx k) (.cmp .ge (.var 0) (.cst P.kMANY)) [some (.int n)] S = .ok (.bl (decide (131072 ≤ n))) S := by
      rw [ev_cmp (ev_var rfl) ev_cst]
      rfl
    rw [ev_or e1]
    by_cases h0 : n < 0
    · rw [if_pos (by simpa using h0)]
    · rw [if_neg (by simpa using h0), e2, decide_eq_true (by omega)]
  rw [exs_cons, ex_if e, if_pos rfl, exs_cons]
  unfold ex
  rfl
theorem refused_c (k : Nat) (n : Int) (h : n < 0 ∨ 131071 < n) (S : Store) : ∃ S', callM tab 0 (k + 2) 22 [.int n] S = .ok (.bl true) S' ∧ S <+: S' := by
  obtain ⟨S', e, p⟩ := suite_ok (.int n) none S
  refine ⟨S', ?_, p⟩
  rw [callM_succ rfl, runDef_eq (by rfl)]
  show (exs (Gx (k + 1)) P.d22.body [some (.int n), none, none] S).res = _
  unfold P.d22
  simp only
  have e1 : exs (Gx (k + 1)) [.expr (.call 5 [.var 0])] [some (.int n), none, none] S = .exc 1 [] [some (.int n), none, none] S := by
    rw [exs_cons]
    have : ex (Gx (k + 1)) (.expr (.call 5 [.var 0])) [some (.int n), none, none] S = .exc 1 [] [some (.int n), none, none] S := by
      conv => lhs; unfold ex
      rw [y_call (evs_cons0 (ev_var rfl) evs_nil0), from_exc k n h S]
      rfl
    rw [this]
    rfl
  rw [exs_cons]
  unfold ex
  rw [e1]
  show (((exs (Sx isT1 1) hbody [some (.int n), none, none] S).left 1).seq _).res = _
  rw [e]
  rfl
/-- _law_asked(n) -/
theorem asked_c (k : Nat) (n : Int) (S : Store) : ∃ S', callM tab 0 (k + 4) 23 [.int n] S = .ok (.bl true) S' ∧ S <+: S' := by
  by_cases h : 0 ≤ n ∧ n < 131072
  · exact call_b (asked_d k n h.1 h.2) (Q := fun _ => True) ⟨_, _, rfl, rfl, rfl⟩
  · obtain ⟨S', e, p⟩ := refused_c (k + 1) n (by omega) S
    refine ⟨S', ?_, p⟩
    rw [callM_succ rfl, runDef_eq (by rfl)]
    show (exs (Gx (k + 3)) P.d23.body [some (.int n), none] S).res = _
    unfold P.d23
    simp only
    have c : ev (Gx (k + 3)) (.or (.cmp .lt (.var 0) (.cst (.int 0))) (.cmp .gt (.var 0) (.cst (.int 131071)))) [some (.int n), none] S = .ok (.bl true) S := by
      have e1 : ev (Gx (k + 3)) (.cmp .lt (.var 0) (.cst (.int 0))) [some (.int n), none] S = .ok (.bl (decide (n < 0))) S := by
        rw [ev_cmp (ev_var rfl) ev_cst]
        rfl
      have e2 : ev (Gx (k + 3)) (.cmp .gt (.var 0) (.cst (.int 131071))) [some (.int n), none] S = .ok (.bl (decide (131071 < n))) S := by
        rw [ev_cmp (ev_var rfl) ev_cst]
        rfl
      rw [ev_or e1]
      by_cases h0 : n < 0
      · rw [if_pos (by simpa using h0)]
      · rw [if_neg (by simpa using h0), e2, decide_eq_true (by omega)]
    rw [exs_cons, ex_if c, if_pos rfl, exs_cons, ex_ret ((y_call (evs_cons0 (ev_var rfl) evs_nil0)).trans e)]
    rfl
end Lw
end
section
set_option Elab.async false
set_option linter.all false
set_option maxRecDepth 100000
set_option maxHeartbeats 1000000
namespace Lw
open C PySem
/-! ### trees of some names -/
theorem _root_.C.BR'.none {S : Store} {Q : Nat → Prop} {cenv : C.Env} {n : Nat} (h : cenv.length = n) : BR' S Q (List.replicate n none) cenv := by
  refine ⟨by simp [h], fun i d o e => ?_, fun i d o e => ?_⟩
  · rw [List.getElem?_replicate] at e
    split at e <;> cases e
  · rw [List.getElem?_replicate] at e
    split at e <;> cases e
theorem _root_.C.BR'.add {S : Store} {Q : Nat → Prop} {benv : BEnv} {cenv : C.Env} {i : Nat} {d : D} {o : Bool} {v : Val} (b : BR' S Q benv cenv) (h : cenv[i]? = some (some v)) (r : RD S Q d v) (ho : o = true ∨ d.flat = true) : BR' S Q (benv.set i (some (.val d o))) cenv := by
  refine ⟨by simp [b.len], fun j d' o' e => ?_, fun j d' o' e => ?_⟩
  · by_cases hj : i = j
    · subst hj
      have hl : i < benv.length := by have := (List.getElem?_eq_some_iff.mp e).1; simpa using this
      rw [List.getElem?_set_self hl] at e
      cases e
    · rw [List.getElem?_set_ne hj] at e
      exact b.own j d' o' e
  · by_cases hj : i = j
    · subst hj
      have hl : i < benv.length := by have := (List.getElem?_eq_some_iff.mp e).1; simpa using this
      rw [List.getElem?_set_self hl] at e
      cases e
      exact ⟨v, h, r, ho⟩
    · rw [List.getElem?_set_ne hj] at e
      exact b.val j d' o' e
/-- a pure test -/
theorem ev_b {k : Nat} {S : Store} {Q : Nat → Prop} {benv : BEnv} {cenv : C.Env} {e : E} {b o a : Bool} (r : BR' S Q benv cenv) (h : bev (Bx k) benv e = some ⟨.bl b, o, a⟩) : ∃ S', ev (Gx k) e cenv S = .ok (.bl b) S' ∧ S <+: S' := by
  obtain ⟨v, S', h1, h2, h3⟩ := ev_pure r h
  cases (show v = .bl b from h3)
  exact ⟨S', h1, h2⟩
theorem _root_.C.RD.any {S : Store} {P : Nat → Prop} {d : D} {v : Val} (h : RD S P d v) : RD S (fun _ => True) d v := h.to fun n c q e => ⟨e, trivial⟩
theorem for_src {Γ : Cx} {cenv : C.Env} {S S1 : Store} {tg : List Nat} {es : List E} {vs : List Val} {kk : Nat} {s : Src} {body : List C.S} (h : evs Γ es cenv S = .ok vs S1) (hs : srcV Γ kk vs S1 = some s) :
    ex Γ (.for_ tg kk es body) cenv S = forGo (fun e S => exs Γ body e S) tg s s.items cenv S1 := by
  unfold ex
  rw [h]
  simp only [Res.bind_ok, hs, Res.of_some, Res.fl_ok]
/-- a list that is walked -/
theorem for_at {Γ : Cx} {cenv : C.Env} {S S1 : Store} {tg : List Nat} {e : E} {body : List C.S} {xs : List Val} {nl : Nat} (h : ev Γ e cenv S = .ok (.loc nl) S1) (hl : S1[nl]? = some (.lst xs)) :
    ex Γ (.for_ tg 0 [e] body) cenv S = forGo (fun e S => exs Γ body e S) tg ⟨xs, .lst nl xs⟩ xs cenv S1 := by
  unfold ex
  rw [evs_cons0 h evs_nil0]
  have : srcV Γ 0 [.loc nl] S1 = some ⟨xs, .lst nl xs⟩ := by
    unfold srcV walkV
    simp only [hl]
  simp only [Res.bind_ok, this, Res.of_some, Res.fl_ok]
theorem p62 : (0 : Int) ≤ 2 ^ 62 := by decide
theorem rng_a {n : Nat} (hn : (n : Int) < 2 ^ 62) : (decide (-(2 ^ 62) ≤ (n : Int)) && decide ((n : Int) < 2 ^ 62)) = true := by
  rw [decide_eq_true hn, Bool.and_true]
  exact decide_eq_true (Int.le_trans (Int.neg_le_neg p62) (by simp))
theorem rng_b {n : Nat} (hn : (n : Int) < 2 ^ 62) : rng1V [.int (n : Int)] = some ⟨(List.range n).map fun (i : Nat) => Val.int (i : Int), .non⟩ := by
  unfold rng1V
  simp only
  rw [if_pos (rng_a hn)]
  rfl
theorem rng_c {Γ : Cx} {S1 : Store} {n : Nat} (hn : (n : Int) < 2 ^ 62) : srcV Γ 1 [.int (n : Int)] S1 = some ⟨(List.range n).map fun (i : Nat) => Val.int (i : Int), .non⟩ := by
  rw [show srcV Γ 1 [.int (n : Int)] S1 = rng1V [.int (n : Int)] by unfold srcV; simp only]
  exact rng_b hn
/-- range(n) that is walked -/
theorem for_rng {Γ : Cx} {cenv : C.Env} {S S1 : Store} {tg : List Nat} {e : E} {body : List C.S} {n : Nat} (h : ev Γ e cenv S = .ok (.int (n : Int)) S1) (hn : (n : Int) < 2 ^ 62) :
    ex Γ (.for_ tg 1 [e] body) cenv S = forGo (fun e S => exs Γ body e S) tg ⟨(List.range n).map fun (i : Nat) => Val.int (i : Int), .non⟩ ((List.range n).map fun (i : Nat) => Val.int (i : Int)) cenv S1 := for_src (evs_cons0 h evs_nil0) (rng_c hn)
/-- a loop over integers with no trace -/
theorem loop_q {Γ : Cx} {body : List C.S} {j nl : Nat} {ys : List Val} : ∀ (zs : List Int) (cenv : C.Env) (S : Store), (∀ z ∈ zs, ∀ cenv S, cenv[j]? = some (some (Val.int z)) → ∃ S', exs Γ body cenv S = .nx cenv S' ∧ S <+: S') → j < cenv.length → S[nl]? = some (.lst ys) →
    ∃ cenv' S', forGo (fun e S => exs Γ body e S) [j] ⟨ys, .lst nl ys⟩ (zs.map Val.int) cenv S = .nx cenv' S' ∧ S <+: S' ∧ (∀ i, i ≠ j → cenv'[i]? = cenv[i]?) ∧ cenv'.length = cenv.length
  | [], cenv, S, hb, hj, hs => by
    refine ⟨cenv, S, ?_, List.prefix_refl _, fun _ _ => rfl, rfl⟩
    rw [List.map_nil, forGo, if_pos (by simp [Src.ok, Held.ok, lstAt, hs])]
  | z :: zs, cenv, S, hb, hj, hs => by
    obtain ⟨S1, e1, p1⟩ := hb z List.mem_cons_self (cenv.set j (some (.int z))) S (List.getElem?_set_self hj)
    obtain ⟨c2, S2, e2, p2, o2, l2⟩ := loop_q zs (cenv.set j (some (.int z))) S1 (fun y hy => hb y (List.mem_cons_of_mem _ hy)) (by simpa using hj) (pre_at p1 hs)
    refine ⟨c2, S2, ?_, p1.trans p2, fun i hi => (o2 i hi).trans (List.getElem?_set_ne (Ne.symm hi)), by rw [l2]; simp⟩
    rw [List.map_cons, forGo, if_pos (by simp [Src.ok, Held.ok, lstAt, hs])]
    have hn : setN [j] (.int z) cenv = some (cenv.set j (some (.int z))) := rfl
    rw [hn]
    simp only [Res.of_some, Res.fl_ok, e1, Fl.turn_nx]
    exact e2
/-! ### the numbers drawn -/
theorem pow40 {Γ : Cx} {cenv : C.Env} {S : Store} : ev Γ (.bin .pow (.cst (.int 10)) (.cst (.int 40))) cenv S = .ok (.int (10 ^ 40)) S := by
  rw [ev_bin ev_cst ev_cst]
  rfl
theorem ev_int {Γ : Cx} {e : E} {cenv : C.Env} {S S' : Store} {i : Int} (h : ev Γ e cenv S = .ok (.int i) S') : ev Γ (.blt .int [e]) cenv S = .ok (.int i) S' := by
  conv => lhs; unfold ev
  rw [evs_cons0 h evs_nil0]
  rfl
theorem ev_neg {Γ : Cx} {e : E} {cenv : C.Env} {S S' : Store} {i : Int} (h : ev Γ e cenv S = .ok (.int i) S') : ev Γ (.neg e) cenv S = .ok (.int (-i)) S' := by
  conv => lhs; unfold ev
  rw [h]
  rfl
theorem ev_ii {Γ : Cx} {a b : E} {cenv : C.Env} {S S1 S2 : Store} {i j : Int} (op : Bop) (z : Int) (h1 : ev Γ a cenv S = .ok (.int i) S1) (h2 : ev Γ b cenv S1 = .ok (.int j) S2) (h : binV Γ op (.int i) (.int j) S2 = .ok (.int z) S2) : ev Γ (.bin op a b) cenv S = .ok (.int z) S2 := by
  rw [ev_bin h1 h2, h]
theorem modV {Γ : Cx} {i j : Int} {S : Store} (h : 0 < j) : binV Γ .mod (.int i) (.int j) S = .ok (.int (i % j)) S := by
  unfold binV
  simp only
  rw [if_pos (decide_eq_true h)]
theorem cut_c (k : Nat) (z : Int) (S : Store) : ∃ z' : Int, callM tab 0 (k + 1) 21 [.int z] S = .ok (.int z') S := by
  have hp : (0 : Int) < 10 ^ 40 := by decide
  have c : ev (Gx k) (.cmp .lt (.var 0) (.cst (.int 0))) [some (.int z)] S = .ok (.bl (decide (z < 0))) S := by
    rw [ev_cmp (ev_var rfl) ev_cst]
    rfl
  by_cases h : z < 0
  · refine ⟨-1 - (-1 - z) % 10 ^ 40, ?_⟩
    rw [callM_succ rfl, runDef_eq (by rfl)]
    show (exs (Gx k) P.d21.body [some (.int z)] S).res = _
    unfold P.d21
    simp only
    have e1 : ev (Gx k) (.bin .sub (.neg (.cst (.int 1))) (.var 0)) [some (.int z)] S = .ok (.int (-1 - z)) S := ev_ii .sub _ (ev_neg ev_cst) (ev_var rfl) rfl
    have e2 := ev_ii .mod _ (ev_int e1) pow40 (modV hp)
    have e3 : ev (Gx k) (.bin .sub (.neg (.cst (.int 1))) (.bin .mod (.blt .int [.bin .sub (.neg (.cst (.int 1))) (.var 0)]) (.bin .pow (.cst (.int 10)) (.cst (.int 40))))) [some (.int z)] S = .ok (.int (-1 - (-1 - z) % 10 ^ 40)) S := ev_ii .sub _ (ev_neg ev_cst) e2 rfl
    rw [exs_cons, ex_if c, if_pos (by simpa using h), exs_cons, ex_ret e3]
    rfl
  · refine ⟨z % 10 ^ 40, ?_⟩
    rw [callM_succ rfl, runDef_eq (by rfl)]
    show (exs (Gx k) P.d21.body [some (.int z)] S).res = _
    unfold P.d21
    simp only
    have e2 : ev (Gx k) (.bin .mod (.blt .int [.var 0]) (.bin .pow (.cst (.int 10)) (.cst (.int 40)))) [some (.int z)] S = .ok (.int (z % 10 ^ 40)) S := ev_ii .mod _ (ev_int (ev_var rfl)) pow40 (modV hp)
    rw [exs_cons, ex_if c, if_neg (by simpa using h), exs_nil, Fl.seq_nx, exs_cons, ex_ret e2]
    rfl
/-- [cut(cell) for cell in script[:4]] -/
theorem lc_ints {k : Nat} {env : C.Env} {D nl : Nat} {ys : List Val} (hne : nl ≠ D) (h15 : 15 < env.length) : ∀ (zs acc : List Int) (S : Store), S[D]? = some (.lst (acc.map Val.int)) → S[nl]? = some (.lst ys) → acc.length + zs.length ≤ lineC →
    ∃ (S' : Store) (acc' : List Int), lcGo (fun e S => ev (Gx (k + 1)) (.cst (.bl true)) e S) (fun e S => ev (Gx (k + 1)) (.call 21 [.var 15]) e S) [15] [15] ⟨ys, .lst nl ys⟩ D env (zs.map Val.int) S = .ok (.loc D) S' ∧ S'[D]? = some (.lst (acc'.map Val.int)) ∧ acc'.length = acc.length + zs.length ∧ S'.length = S.length ∧ ∀ j, j ≠ D → S'[j]? = S[j]?
  | [], acc, S, hD, hs, _ => by
    refine ⟨S, acc, ?_, hD, by simp, rfl, fun _ _ => rfl⟩
    rw [List.map_nil, lcGo, if_pos (by simp [Src.ok, Held.ok, lstAt, hs])]
  | z :: zs, acc, S, hD, hs, hl => by
    obtain ⟨z', hc⟩ := cut_c k z S
    rw [List.length_cons] at hl
    have lD := lt_of hD
    obtain ⟨S2, acc2, e2, h2, l2, m2, o2⟩ := lc_ints (k := k) (env := env) hne h15 zs (acc ++ [z']) (S.set D (.lst ((acc ++ [z']).map Val.int))) (List.getElem?_set_self lD) (by rw [List.getElem?_set_ne (Ne.symm hne)]; exact hs) (by rw [List.length_append, List.length_singleton]; omega)
    refine ⟨S2, acc2, ?_, h2, by rw [l2, List.length_append, List.length_singleton, List.length_cons]; omega, by rw [m2]; simp, fun j hj => by rw [o2 j hj, List.getElem?_set_ne (Ne.symm hj)]⟩
    rw [List.map_cons, lcGo, if_pos (by simp [Src.ok, Held.ok, lstAt, hs])]
    have hn : setN [15] (.int z) (wipeE env [15]) = some ((wipeE env [15]).set 15 (some (.int z))) := rfl
    rw [hn]
    simp only [Res.of_some, Res.bind_ok]
    rw [ev_cst]
    simp only [Res.calm_ok, Res.onB_true]
    have hw : (wipeE env [15]).length = env.length := by simp [wipeE]
    rw [y_call (evs_cons0 (ev_var (List.getElem?_set_self (by rw [hw]; exact h15))) evs_nil0), hc]
    simp only [Res.calm_ok, Res.bind_ok, addL, hD]
    rw [if_pos (by rw [List.length_map]; omega)]
    have : acc.map Val.int ++ [Val.int z'] = (acc ++ [z']).map Val.int := by simp
    rw [this]
    exact e2
end Lw
end
section
set_option Elab.async false
set_option linter.all false
set_option maxRecDepth 100000
set_option maxHeartbeats 2000000
namespace Lw
open C PySem
abbrev U : Nat → Bool := bitf 126000
theorem uinit (k : Nat) : bmake tab 0 (k + 3) 4 (.obj 0 [] []) [.non] = some (RuleD U, false) := by
  have h := number_ok k 126000
  rw [bmake_succ rfl]
  kernel_rfl
theorem usual_v : ([Val.str "far", .str "far", .str "far", .str "far", .str "near", .str "near"] ++ [Val.str "far", .str "far", .str "far", .str "far", .str "near", .str "near"]) ++ [Val.str "ahead", .str "behind", .str "behind", .str "behind", .str "behind"] = vv U := by kernel_rfl
/-- Rule() -/
theorem b_usual {k : Nat} {env : BEnv} : bev (Bx (k + 3)) env (.make 0 [.cst .non]) = some ⟨RuleD U, false, false⟩ := by
  rw [x_make (f := 4) (p := (RuleD U, false)) (xs := [⟨.non, false, false⟩]) (by rfl) rfl (uinit k)]
  rfl
/-- _law_same(_law_entries(Rule()), usual) -/
theorem b_same {k : Nat} {env : BEnv} (h : env[6]? = some (some (.val (.lst (vw U)) true))) : bev (Bx (k + 3)) env (.call 12 [.call 17 [.make 0 [.cst .non]], .var 6]) = some ⟨.bl true, false, false⟩ := by
  rw [x_call2 (x_call1 b_usual (entries_ok (k + 1) U)) (b_v h) (same_vw (k + 1) U)]
  rfl
theorem b_usualnum {k : Nat} {env : BEnv} : bev (Bx (k + 3)) env (.call 12 [.prp (.make 0 [.cst .non]) 13, .cst (.int 126000)]) = some ⟨.bl true, false, false⟩ := by
  have e1 : bev (Bx (k + 3)) env (.prp (.make 0 [.cst .non]) 13) = some ⟨.int 126000, false, false⟩ := by
    rw [x_num (k := k + 1) (f := U) (o := false) (q := false) b_usual, num_of 126000 (by decide) (by decide)]
  rw [x_call2 e1 (by rfl) (same_int (k + 1) 126000)]
  rfl
/-- rule[keys[u]] = a word -/
theorem putv {k t u y i q m n1 : Nat} {b : Bool} {e : E} {S S1 : Store} {g : Nat → Bool} {cenv : C.Env} (hi : i < 17) (h1 : cenv[y]? = some (some (.loc n1))) (hk : S1[n1]? = some (.lst keysV)) (h4 : cenv[t]? = some (some (.loc q))) (h9 : cenv[u]? = some (some (.int (i : Int)))) (he : ev (Gx (k + 2)) e cenv S = .ok (.str (wd i b)) S1) (r : RuleAt S1 q m g) (hne : q ≠ m) :
    ∃ S', ex (Gx (k + 2)) (.setI (.var t) (.sub (.var y) (.var u)) e) cenv S = .nx cenv S' ∧ RuleAt S' q m (ch g i b) ∧ S'.length = S1.length ∧ ∀ j, j ≠ m → S'[j]? = S1[j]? := by
  obtain ⟨S', e1, r', hl, hs⟩ := set_c k i hi b r hne
  refine ⟨S', ?_, r', hl, hs⟩
  refine ex_setI he (ev_var h4) (ev_sub (ev_var h1) (ev_var h9) (sub_l hk (at_keys i hi))) ?_
  unfold setIV
  simp only [r.ob]
  have hm : methOf (Gx (k + 2)) 0 mSet = some 8 := rfl
  rw [hm]
  show ((callM tab 0 (k + 2) 8 [.loc q, keysV.getD i .non, .str (wd i b)] S1).bind fun _ S1 => Res.ok () S1) = _
  rw [e1]
  rfl
/-! ### the loop of changes -/
structure I07 (S : Store) (n7 n8 n9 m9 n10 m10 : Nat) (f g : Nat → Bool) : Prop where
  k : S[n7]? = some (.lst keysV)
  v : S[n8]? = some (.lst (vv f))
  r : RuleAt S n9 m9 f
  o : RuleAt S n10 m10 g
theorem I07.pre {S S' : Store} {n7 n8 n9 m9 n10 m10 : Nat} {f g : Nat → Bool} (h : I07 S n7 n8 n9 m9 n10 m10 f g) (p : S <+: S') : I07 S' n7 n8 n9 m9 n10 m10 f g := ⟨pre_at p h.k, pre_at p h.v, h.r.pre p, h.o.pre p⟩
def Ap (n7 n8 n9 m9 n10 m10 : Nat) : Prop := [n7, n8, n9, m9, n10, m10].Nodup
abbrev lbody : List C.S := [.asg 14 (.bin .mod (.bin .add (.var 11) (.var 13)) (.cst (.int 17))), .setI (.var 8) (.var 14) (.call 15 [.sub (.var 8) (.var 14)]), .setI (.var 9) (.sub (.var 7) (.var 14)) (.sub (.var 8) (.var 14)), .ifs (.or (.not (.call 12 [.prp (.var 9) 13, .call 20 [.var 8]])) (.not (.call 12 [.prp (.var 10) 13, .var 2]))) [.ret (.cst (.bl false))] []]
abbrev bnil : BEnv := List.replicate 16 none
theorem turn07 {k n7 n8 n9 m9 n10 m10 : Nat} {S : Store} {f g : Nat → Bool} {cenv : C.Env} {st x : Nat} {sec : Int} (hsec : num g 17 = sec) (A : Ap n7 n8 n9 m9 n10 m10) (h : I07 S n7 n8 n9 m9 n10 m10 f g) (hl : cenv.length = 16)
    (h2 : cenv[2]? = some (some (.int sec))) (h7 : cenv[7]? = some (some (.loc n7))) (h8 : cenv[8]? = some (some (.loc n8))) (h9 : cenv[9]? = some (some (.loc n9))) (h10 : cenv[10]? = some (some (.loc n10))) (h11 : cenv[11]? = some (some (.int (st : Int)))) (h13 : cenv[13]? = some (some (.int (x : Int)))) :
    ∃ (S' : Store) (i : Nat), i < 17 ∧ exs (Gx (k + 6)) lbody cenv S = .nx (cenv.set 14 (some (.int (i : Int)))) S' ∧ I07 S' n7 n8 n9 m9 n10 m10 (ch f i (!f i)) g := by
  simp only [Ap, List.nodup_cons, List.mem_cons, List.not_mem_nil, or_false, not_or] at A
  obtain ⟨⟨a78, a79, a7m, a710, a7p⟩, ⟨a89, a8m, a810, a8p⟩, ⟨a9m, a910, a9p⟩, ⟨am10, amp⟩, a10p, _⟩ := A
  generalize hi : (st + x) % 17 = i
  have hlt : i < 17 := by omega
  have e0 : ev (Gx (k + 6)) (.bin .mod (.bin .add (.var 11) (.var 13)) (.cst (.int 17))) cenv S = .ok (.int (i : Int)) S := by
    refine ev_ii .mod _ (ev_ii .add _ (ev_var h11) (ev_var h13) rfl) ev_cst ?_
    rw [modV (by decide)]
    congr 2
    omega
  generalize hc : cenv.set 14 (some (Val.int (i : Int))) = c
  have gc : ∀ j, j ≠ 14 → c[j]? = cenv[j]? := fun j hj => by rw [← hc]; exact List.getElem?_set_ne (Ne.symm hj)
  have c14 : c[14]? = some (some (.int (i : Int))) := by rw [← hc]; exact List.getElem?_set_self (by omega)
  have lc : c.length = 16 := by rw [← hc]; simpa using hl
  obtain ⟨S1, e1, p1⟩ := flip (k := k + 5) hlt ((gc 8 (by decide)).trans h8) c14 h.v
  have i1 := h.pre p1
  have l8 := lt_of i1.v
  generalize hS2 : S1.set n8 (.lst (vv (ch f i (!f i)))) = S2 at e1
  have off2 : ∀ j, j ≠ n8 → S2[j]? = S1[j]? := fun j hj => by rw [← hS2]; exact List.getElem?_set_ne (Ne.symm hj)
  have v8 : S2[n8]? = some (.lst (vv (ch f i (!f i)))) := by rw [← hS2]; exact List.getElem?_set_self l8
  have r9 : RuleAt S2 n9 m9 f := i1.r.same (off2 _ (Ne.symm a89)) (off2 _ (Ne.symm a8m))
  have r10 : RuleAt S2 n10 m10 g := i1.o.same (off2 _ (Ne.symm a810)) (off2 _ (Ne.symm a8p))
  have k7 : S2[n7]? = some (.lst keysV) := (off2 _ a78).trans i1.k
  obtain ⟨S3, e2, r9', hl3, off3⟩ := putr (k := k + 4) (y := 7) hlt ((gc 7 (by decide)).trans h7) k7 ((gc 8 (by decide)).trans h8) ((gc 9 (by decide)).trans h9) c14 v8 r9 a9m
  have hch : ch f i (ch f i (!f i) i) = ch f i (!f i) := by funext j; simp [ch]
  rw [hch] at r9'
  have v8' := (off3 _ a8m).trans v8
  have r10' : RuleAt S3 n10 m10 g := r10.same (off3 _ (Ne.symm am10)) (off3 _ (Ne.symm amp))
  have k7' := (off3 _ a7m).trans k7
  generalize hF : ch f i (!f i) = F at v8' r9'
  -- the test
  have B := (((BR'.none (S := S3) (Q := fun _ => True) lc).add ((gc 2 (by decide)).trans h2) (d := .int sec) (o := false) rfl (.inr rfl)).add ((gc 8 (by decide)).trans h8) (lst_rd v8').any (o := true) (.inl rfl)).add ((gc 9 (by decide)).trans h9) r9'.rd.any (o := true) (.inl rfl) |>.add ((gc 10 (by decide)).trans h10) r10'.rd.any (o := true) (.inl rfl)
  generalize hb : ((((List.replicate 16 none).set 2 (some (BS.val (.int sec) false))).set 8 (some (.val (.lst (vw F)) true))).set 9 (some (.val (RuleD F) true))).set 10 (some (.val (RuleD g) true)) = benv at B
  have b2 : benv[2]? = some (some (.val (.int sec) false)) := by rw [← hb]; rfl
  have b8 : benv[8]? = some (some (.val (.lst (vw F)) true)) := by rw [← hb]; rfl
  have b9 : benv[9]? = some (some (.val (RuleD F) true)) := by rw [← hb]; rfl
  have b10 : benv[10]? = some (some (.val (RuleD g) true)) := by rw [← hb]; rfl
  have t1 : bev (Bx (k + 6)) benv (.call 12 [.prp (.var 9) 13, .call 20 [.var 8]]) = some ⟨.bl true, false, false⟩ := by
    rw [x_call2 (x_num (k := k + 4) (b_v b9)) (x_call1 (b_v b8) (qumber_d (k + 5) F)) (same_int (k + 4) (num F 17))]
    rfl
  have t2 : bev (Bx (k + 6)) benv (.call 12 [.prp (.var 10) 13, .var 2]) = some ⟨.bl true, false, false⟩ := by
    have e3 : bev (Bx (k + 6)) benv (.prp (.var 10) 13) = some ⟨.int sec, false, false⟩ := by rw [x_num (k := k + 4) (b_v b10), hsec]
    rw [x_call2 e3 (b_v b2) (same_int (k + 4) sec)]
    rfl
  obtain ⟨S4, e4, p4⟩ := ev_b B ((b_orf (b_notc t1)).trans (b_notc t2))
  refine ⟨S4, i, hlt, ?_, ?_⟩
  · rw [exs_cons, ex_asg e0, hc, Fl.seq_nx, exs_cons, e1, Fl.seq_nx, exs_cons, e2, Fl.seq_nx, exs_cons, ex_if e4, if_neg (by decide), exs_nil, Fl.seq_nx, exs_nil]
  · rw [hF]
    exact I07.pre ⟨k7', v8', r9', r10'⟩ p4
theorem loop07 {k n7 n8 n9 m9 n10 m10 : Nat} {g : Nat → Bool} {st : Nat} {sec : Int} {ys : List Val} (hsec : num g 17 = sec) (A : Ap n7 n8 n9 m9 n10 m10) : ∀ (xs : List Nat) (cenv : C.Env) (S : Store) (f : Nat → Bool), I07 S n7 n8 n9 m9 n10 m10 f g → cenv.length = 16 → cenv[2]? = some (some (.int sec)) → cenv[7]? = some (some (.loc n7)) → cenv[8]? = some (some (.loc n8)) → cenv[9]? = some (some (.loc n9)) → cenv[10]? = some (some (.loc n10)) → cenv[11]? = some (some (.int (st : Int))) →
    ∃ cenv' S' f', forGo (fun e S => exs (Gx (k + 6)) lbody e S) [13] ⟨ys, .non⟩ (xs.map fun (i : Nat) => .int (i : Int)) cenv S = .nx cenv' S' ∧ I07 S' n7 n8 n9 m9 n10 m10 f' g ∧ (∀ i, i ≠ 13 → i ≠ 14 → cenv'[i]? = cenv[i]?)
  | [], cenv, S, f, h, _, h2, h7, h8, h9, h10, h11 => by
    refine ⟨cenv, S, f, ?_, h, fun _ _ _ => rfl⟩
    rw [List.map_nil, forGo, if_pos (show Src.ok ⟨ys, .non⟩ S = true from rfl)]
  | x :: xs, cenv, S, f, h, hl, h2, h7, h8, h9, h10, h11 => by
    have g9 : ∀ j, j ≠ 13 → (cenv.set 13 (some (Val.int (x : Int))))[j]? = cenv[j]? := fun j hj => List.getElem?_set_ne (Ne.symm hj)
    obtain ⟨S1, i, hi, e1, i1⟩ := turn07 (k := k) hsec A h (cenv := cenv.set 13 (some (Val.int (x : Int)))) (by simpa using hl) ((g9 2 (by decide)).trans h2) ((g9 7 (by decide)).trans h7) ((g9 8 (by decide)).trans h8) ((g9 9 (by decide)).trans h9) ((g9 10 (by decide)).trans h10) ((g9 11 (by decide)).trans h11) (List.getElem?_set_self (by omega))
    have g14 : ∀ j, j ≠ 13 → j ≠ 14 → ((cenv.set 13 (some (Val.int (x : Int)))).set 14 (some (Val.int (i : Int))))[j]? = cenv[j]? := fun j hj hj2 => by rw [List.getElem?_set_ne (Ne.symm hj2)]; exact g9 j hj
    obtain ⟨c2, S2, f2, e2, i2, o2⟩ := loop07 (k := k) hsec A xs ((cenv.set 13 (some (Val.int (x : Int)))).set 14 (some (Val.int (i : Int)))) S1 _ i1 (by simpa using hl) ((g14 2 (by decide) (by decide)).trans h2) ((g14 7 (by decide) (by decide)).trans h7) ((g14 8 (by decide) (by decide)).trans h8) ((g14 9 (by decide) (by decide)).trans h9) ((g14 10 (by decide) (by decide)).trans h10) ((g14 11 (by decide) (by decide)).trans h11)
    refine ⟨c2, S2, f2, ?_, i2, fun j h1 h2 => (o2 j h1 h2).trans (g14 j h1 h2)⟩
    rw [List.map_cons, forGo, if_pos (show Src.ok ⟨ys, .non⟩ S = true from rfl)]
    have hn : setN [13] (.int (x : Int)) cenv = some (cenv.set 13 (some (.int (x : Int)))) := rfl
    rw [hn]
    simp only [Res.of_some, Res.fl_ok, e1, Fl.turn_nx]
    exact e2
end Lw
end
section
set_option Elab.async false
set_option linter.all false
set_option maxRecDepth 100000
set_option maxHeartbeats 4000000
namespace Lw
open C PySem
/-- script[:4] -/
theorem slc4 (ns : List Int) (S : Store) (hn : ns.length ≤ 1000) {Γ : Cx} {cenv : C.Env} (h0 : cenv[0]? = some (some (.ro (ns.map Val.int)))) : ∃ zs : List Int, zs.length ≤ 1000 ∧ ev Γ (.slc (.var 0) .nop (.cst (.int 4))) cenv S = .ok (.loc S.length) (S ++ [.lst (zs.map Val.int)]) := by
  refine ⟨cutL ns none (some 4), by unfold cutL; rw [List.length_take, List.length_drop]; omega, ?_⟩
  conv => lhs; unfold ev
  rw [ev_var h0]
  have e1 : (ev Γ .nop cenv S).prt = .ok none S := by unfold ev; rfl
  have e2 : (ev Γ (.cst (.int 4)) cenv S).prt = .ok (some 4) S := by rw [ev_cst]; rfl
  simp only [Res.bind_ok, e1, e2, slcV]
  have e3 : cutL (ns.map Val.int) none (some 4) = (cutL ns none (some 4)).map Val.int := by
    unfold cutL
    rw [List.length_map, List.map_take, List.map_drop]
  rw [e3]
  unfold newL
  rw [if_pos (by rw [List.length_map]; unfold cutL lineC; rw [List.length_take, List.length_drop]; omega)]
  rfl
theorem lc4 (k : Nat) (ns : List Int) (S : Store) (hn : ns.length ≤ 1000) {cenv : C.Env} (hl : cenv.length = 16) (h0 : cenv[0]? = some (some (.ro (ns.map Val.int)))) :
    ∃ (D : Nat) (S' : Store) (ys : List Int), ev (Gx (k + 1)) (.lc [15] [15] 0 [.slc (.var 0) .nop (.cst (.int 4))] (.cst (.bl true)) (.call 21 [.var 15])) cenv S = .ok (.loc D) S' ∧ S'[D]? = some (.lst (ys.map Val.int)) ∧ S <+: S' ∧ ys.length ≤ 1000 := by
  obtain ⟨zs, hz, e1⟩ := slc4 ns S hn (Γ := Gx (k + 1)) h0
  generalize hA : S ++ [Cell.lst (zs.map Val.int)] = A at e1
  have a0 : A[S.length]? = some (.lst (zs.map Val.int)) := by rw [← hA]; exact at_end _ _
  have hsl : S.length < A.length := lt_of a0
  obtain ⟨S', acc, e2, h2, l2, m2, o2⟩ := lc_ints (k := k) (env := cenv) (D := A.length) (nl := S.length) (ys := zs.map Val.int) (by omega) (by omega) zs [] (A ++ [.lst []]) (at_end _ _) (pre_at (List.prefix_append _ _) a0) (by unfold lineC; rw [List.length_nil]; omega)
  refine ⟨A.length, S', acc, ?_, h2, ?_, by rw [l2, List.length_nil]; omega⟩
  · conv => lhs; unfold ev
    rw [evs_cons0 e1 evs_nil0]
    have hs : srcV (Gx (k + 1)) 0 [.loc S.length] A = some ⟨zs.map Val.int, .lst S.length (zs.map Val.int)⟩ := by
      unfold srcV walkV
      simp only [a0]
    simp only [Res.bind_ok, hs, Res.of_some]
    exact e2
  · refine List.IsPrefix.trans (show S <+: A by rw [← hA]; exact List.prefix_append _ _) ?_
    have : A = S'.take A.length := by
      apply List.ext_getElem?
      intro j
      by_cases hj : j < A.length
      · rw [List.getElem?_take_of_lt hj, o2 j (by omega), List.getElem?_append_left hj]
      · rw [List.getElem?_eq_none (by omega), List.getElem?_eq_none (by rw [List.length_take]; omega)]
    rw [this]
    exact List.take_prefix _ _
abbrev qb : List C.S := [.ifs (.not (.call 23 [.var 5])) [.ret (.cst (.bl false))] []]
theorem qb_ok (k : Nat) (z : Int) (cenv : C.Env) (S : Store) (h : cenv[5]? = some (some (Val.int z))) : ∃ S', exs (Gx (k + 4)) qb cenv S = .nx cenv S' ∧ S <+: S' := by
  obtain ⟨S', e, p⟩ := asked_c k z S
  refine ⟨S', ?_, p⟩
  rw [exs_cons, ex_if (ev_not ((y_call (evs_cons0 (ev_var h) evs_nil0)).trans e)), if_neg (by decide), exs_nil, Fl.seq_nx, exs_nil]
theorem ev_mk {k : Nat} {S : Store} {cenv : C.Env} (hl : cenv.length = 16) : ∃ (n m : Nat) (S' : Store), ev (Gx (k + 3)) (.make 0 [.cst .non]) cenv S = .ok (.loc n) S' ∧ S <+: S' ∧ S.length ≤ n ∧ S.length ≤ m ∧ n ≠ m ∧ RuleAt S' n m U := by
  obtain ⟨v, S', h1, h2, h3⟩ := ev_pure (BR'.none (S := S) (Q := fun _ => True) hl) (b_usual (k := k))
  obtain ⟨n, m, rfl, q1, q2, ne, r⟩ := RuleAt.of h3
  exact ⟨n, m, S', h1, h2, q1.resolve_right (by simp), q2.resolve_right (by simp), ne, r⟩
theorem law_ok : ∀ ns : List Int, ns.length ≤ 63 → ∃ S, callM tab 0 12 19 [.ro (ns.map Val.int)] [] = .ok (.bl true) S := by
  intro ns hns
  have hn : ns.length ≤ 1000 := by omega
  generalize hro : (Val.ro (ns.map Val.int)) = ro
  -- the numbers
  obtain ⟨n, S1, c1, p1, n0, n9⟩ := draw_c (k := 10) (ns := ns) hn 0 0 131072 rfl (by decide) (S := []) (cenv := [some ro, none, none, none, none, none, none, none, none, none, none, none, none, none, none, none]) (by rw [hro]; rfl)
  obtain ⟨w, S2, c2, p2, w0, w9⟩ := draw_c (k := 10) (ns := ns) hn 1 1 131072 rfl (by decide) (S := S1) (cenv := [some ro, some (.int n), none, none, none, none, none, none, none, none, none, none, none, none, none, none]) (by rw [hro]; rfl)
  obtain ⟨z, S3, c3, p3⟩ := cell_c 10 ns hn 2 S2
  obtain ⟨z', c4⟩ := cut_c 10 z S3
  -- far
  obtain ⟨far, c5⟩ : ∃ far : Int, ex (Gx 11) (.ifs (.cmp .lt (.var 3) (.cst (.int 0))) [.asg 3 (.bin .sub (.neg (.cst (.int 1))) (.var 3))] []) [some ro, some (.int n), some (.int w), some (.int z'), none, none, none, none, none, none, none, none, none, none, none, none] S3 = .nx [some ro, some (.int n), some (.int w), some (.int far), none, none, none, none, none, none, none, none, none, none, none, none] S3 := by
    have c : ev (Gx 11) (.cmp .lt (.var 3) (.cst (.int 0))) [some ro, some (.int n), some (.int w), some (.int z'), none, none, none, none, none, none, none, none, none, none, none, none] S3 = .ok (.bl (decide (z' < 0))) S3 := by
      rw [ev_cmp (ev_var rfl) ev_cst]
      rfl
    by_cases h : z' < 0
    · refine ⟨-1 - z', ?_⟩
      rw [ex_if c, if_pos (by simpa using h), exs_cons, ex_asg (ev_ii .sub _ (ev_neg ev_cst) (ev_var rfl) rfl), Fl.seq_nx, exs_nil]
      rfl
    · refine ⟨z', ?_⟩
      rw [ex_if c, if_neg (by simpa using h), exs_nil]
  -- asked
  generalize hxs : [n, w, 0, 131071, 131071 - n, -1, 131072, 131072 + far, -1 - far] = xs
  have c6 : ev (Gx 11) (.lst [.var 1, .var 2, .cst (.int 0), .cst (.int 131071), .bin .sub (.cst (.int 131071)) (.var 1), .neg (.cst (.int 1)), .cst (.int 131072), .bin .add (.cst (.int 131072)) (.var 3), .bin .sub (.neg (.cst (.int 1))) (.var 3)]) [some ro, some (.int n), some (.int w), some (.int far), none, none, none, none, none, none, none, none, none, none, none, none] S3 = .ok (.loc S3.length) (S3 ++ [.lst (xs.map Val.int)]) := by
    rw [← hxs]
    exact ev_lst (evs_cons0 (ev_var rfl) (evs_cons0 (ev_var rfl) (evs_cons0 ev_cst (evs_cons0 ev_cst (evs_cons0 (ev_ii .sub _ ev_cst (ev_var rfl) rfl) (evs_cons0 (ev_neg ev_cst) (evs_cons0 ev_cst (evs_cons0 (ev_ii .add _ ev_cst (ev_var rfl) rfl) (evs_cons0 (ev_ii .sub _ (ev_neg ev_cst) (ev_var rfl) rfl) evs_nil0))))))))) (by simp [lineC])
  have lxs : xs.length = 9 := by rw [← hxs]; rfl
  generalize hS4 : S3 ++ [Cell.lst (xs.map Val.int)] = S4 at c6
  have k4 : S4[S3.length]? = some (.lst (xs.map Val.int)) := by rw [← hS4]; exact at_end _ _
  obtain ⟨D, S5, ys, c7, k5, p5, ly⟩ := lc4 10 ns S4 hn (cenv := [some ro, some (.int n), some (.int w), some (.int far), some (.loc S3.length), none, none, none, none, none, none, none, none, none, none, none]) rfl (by rw [hro]; rfl)
  have c8 : ev (Gx 11) (.bin .add (.var 4) (.lc [15] [15] 0 [.slc (.var 0) .nop (.cst (.int 4))] (.cst (.bl true)) (.call 21 [.var 15]))) [some ro, some (.int n), some (.int w), some (.int far), some (.loc S3.length), none, none, none, none, none, none, none, none, none, none, none] S4 = .ok (.loc S5.length) (S5 ++ [.lst ((xs ++ ys).map Val.int)]) := by
    rw [ev_bin (ev_var rfl) c7, add_l (pre_at p5 k4) k5 (by rw [List.length_map, List.length_map, lxs]; unfold lineC; omega), List.map_append]
  generalize hS6 : S5 ++ [Cell.lst ((xs ++ ys).map Val.int)] = S6 at c8
  have k6 : S6[S5.length]? = some (.lst ((xs ++ ys).map Val.int)) := by rw [← hS6]; exact at_end _ _
  obtain ⟨cv, S7, c9, p7, o7, l7⟩ := loop_q (Γ := Gx 11) (body := qb) (j := 5) (nl := S5.length) (ys := (xs ++ ys).map Val.int) (xs ++ ys) [some ro, some (.int n), some (.int w), some (.int far), some (.loc S3.length), none, none, none, none, none, none, none, none, none, none, none] S6 (fun z _ cenv S h => qb_ok 7 z cenv S h) (by simp) k6
  have hcv : ∃ x5 : Option Val, cv = [some ro, some (.int n), some (.int w), some (.int far), some (.loc S3.length), x5, none, none, none, none, none, none, none, none, none, none] := by
    have hl5 : 5 < cv.length := by rw [l7]; simp
    refine ⟨cv[5], List.ext_getElem? fun j => ?_⟩
    by_cases hj : j = 5
    · subst hj
      rw [List.getElem?_eq_getElem hl5]
      rfl
    · rw [o7 j hj]
      match j, hj with
      | 0, _ => rfl | 1, _ => rfl | 2, _ => rfl | 3, _ => rfl | 4, _ => rfl | 6, _ => rfl | 7, _ => rfl | 8, _ => rfl | 9, _ => rfl | 10, _ => rfl | 11, _ => rfl | 12, _ => rfl | 13, _ => rfl | 14, _ => rfl | 15, _ => rfl
      | j + 16, _ => rfl
  obtain ⟨x5, rfl⟩ := hcv
  generalize hx3 : (some (Val.int far) : Option Val) = x3 at *
  generalize hx4 : (some (Val.loc S3.length) : Option Val) = x4 at *
  -- usual
  have c10 : ev (Gx 11) (.lst [.cst (.str "far"), .cst (.str "far"), .cst (.str "far"), .cst (.str "far"), .cst (.str "near"), .cst (.str "near")]) [some ro, some (.int n), some (.int w), x3, x4, x5, none, none, none, none, none, none, none, none, none, none] S7 = .ok (.loc S7.length) (S7 ++ [.lst [Val.str "far", .str "far", .str "far", .str "far", .str "near", .str "near"]]) :=
    ev_lst (evs_cons0 ev_cst (evs_cons0 ev_cst (evs_cons0 ev_cst (evs_cons0 ev_cst (evs_cons0 ev_cst (evs_cons0 ev_cst evs_nil0)))))) (by simp [lineC])
  generalize hS8 : S7 ++ [Cell.lst [Val.str "far", .str "far", .str "far", .str "far", .str "near", .str "near"]] = S8 at c10
  have k8 : S8[S7.length]? = some (.lst [Val.str "far", .str "far", .str "far", .str "far", .str "near", .str "near"]) := by rw [← hS8]; exact at_end _ _
  have c11 : ev (Gx 11) (.bin .add (.var 6) (.var 6)) [some ro, some (.int n), some (.int w), x3, x4, x5, some (.loc S7.length), none, none, none, none, none, none, none, none, none] S8 = .ok (.loc S8.length) (S8 ++ [.lst ([Val.str "far", .str "far", .str "far", .str "far", .str "near", .str "near"] ++ [Val.str "far", .str "far", .str "far", .str "far", .str "near", .str "near"])]) := by
    rw [ev_bin (ev_var rfl) (ev_var rfl), add_l k8 k8 (by simp [lineC])]
  generalize hS9 : S8 ++ [Cell.lst ([Val.str "far", .str "far", .str "far", .str "far", .str "near", .str "near"] ++ [Val.str "far", .str "far", .str "far", .str "far", .str "near", .str "near"])] = S9 at c11
  have k9 : S9[S8.length]? = some (.lst ([Val.str "far", .str "far", .str "far", .str "far", .str "near", .str "near"] ++ [Val.str "far", .str "far", .str "far", .str "far", .str "near", .str "near"])) := by rw [← hS9]; exact at_end _ _
  have c12 : ev (Gx 11) (.lst [.cst (.str "ahead"), .cst (.str "behind"), .cst (.str "behind"), .cst (.str "behind"), .cst (.str "behind")]) [some ro, some (.int n), some (.int w), x3, x4, x5, some (.loc S7.length), none, none, none, none, none, none, none, none, none] S9 = .ok (.loc S9.length) (S9 ++ [.lst [Val.str "ahead", .str "behind", .str "behind", .str "behind", .str "behind"]]) :=
    ev_lst (evs_cons0 ev_cst (evs_cons0 ev_cst (evs_cons0 ev_cst (evs_cons0 ev_cst (evs_cons0 ev_cst evs_nil0))))) (by simp [lineC])
  generalize hS10 : S9 ++ [Cell.lst [Val.str "ahead", .str "behind", .str "behind", .str "behind", .str "behind"]] = S10 at c12
  have k10 : S10[S9.length]? = some (.lst [Val.str "ahead", .str "behind", .str "behind", .str "behind", .str "behind"]) := by rw [← hS10]; exact at_end _ _
  have p910 : S9 <+: S10 := by rw [← hS10]; exact List.prefix_append _ _
  have c13 : ev (Gx 11) (.bin .add (.bin .add (.var 6) (.var 6)) (.lst [.cst (.str "ahead"), .cst (.str "behind"), .cst (.str "behind"), .cst (.str "behind"), .cst (.str "behind")])) [some ro, some (.int n), some (.int w), x3, x4, x5, some (.loc S7.length), none, none, none, none, none, none, none, none, none] S8 = .ok (.loc S10.length) (S10 ++ [.lst (vv U)]) := by
    rw [ev_bin c11 c12, add_l (pre_at p910 k9) k10 (by simp [lineC]), usual_v]
  generalize hS11 : S10 ++ [Cell.lst (vv U)] = S11 at c13
  have k11 : S11[S10.length]? = some (.lst (vv U)) := by rw [← hS11]; exact at_end _ _
  generalize hn6 : S10.length = n6 at *
  -- Rule()
  have B1 := (BR'.none (S := S11) (Q := fun _ => True) (cenv := [some ro, some (.int n), some (.int w), x3, x4, x5, some (.loc n6), none, none, none, none, none, none, none, none, none]) (n := 16) rfl).add (i := 6) rfl (lst_rd k11).any (o := true) (.inl rfl)
  obtain ⟨S12, c14, p12⟩ := ev_b (k := 11) B1 ((b_orf (b_notc (b_same (k := 8) rfl))).trans (b_notc (b_usualnum (k := 8))))
  obtain ⟨S13, c15, p13⟩ := ev_b (k := 11) (BR'.none (S := S12) (Q := fun _ => True) (cenv := [some ro, some (.int n), some (.int w), x3, x4, x5, some (.loc n6), none, none, none, none, none, none, none, none, none]) (n := 16) rfl) (b_notc (show bev (Bx 11) _ (.call 12 [.cst (.int 131072), .cst (.int 131072)]) = some ⟨.bl true, false, false⟩ by rw [x_call2 b_ci b_ci (same_int 9 131072)]; rfl))
  -- keys, values, rule, other
  obtain ⟨v7, S14, c16, p14, w7⟩ := call_c (keys_ok 10) (S := S13) (Q := fun _ => True) (vs := []) rfl
  obtain ⟨n7, rfl, q7, k14⟩ := lst_of keys_vals w7
  have hv := values_ok 10 n
  rw [Int.emod_eq_of_lt n0 n9] at hv
  obtain ⟨v8, S15, c17, p15, w8⟩ := call_c hv (S := S14) (Q := fun _ => True) (vs := [.int n]) ⟨_, _, rfl, rfl, rfl⟩
  obtain ⟨n8, rfl, q8, k15⟩ := lst_of (vw_vals _) w8
  obtain ⟨v9, S16, c18, p16, w9'⟩ := call_c (from_ok 8 n n0 n9) (S := S15) (Q := fun _ => True) (vs := [.int n]) ⟨_, _, rfl, rfl, rfl⟩
  obtain ⟨n9', m9, rfl, q9, q9', ne9, r9⟩ := RuleAt.of w9'
  obtain ⟨v10, S17, c19, p17, w10⟩ := call_c (from_ok 8 w w0 w9) (S := S16) (Q := fun _ => True) (vs := [.int w]) ⟨_, _, rfl, rfl, rfl⟩
  obtain ⟨n10, m10, rfl, q10, q10', ne10, r10⟩ := RuleAt.of w10
  obtain ⟨st, S18, c20, p18, s0, s9⟩ := draw_c (k := 10) (ns := ns) hn 3 3 17 rfl (by decide) (S := S17) (cenv := [some ro, some (.int n), some (.int w), x3, x4, x5, some (.loc n6), some (.loc n7), some (.loc n8), some (.loc n9'), some (.loc n10), none, none, none, none, none]) (by rw [hro]; rfl)
  obtain ⟨st', rfl⟩ := Int.eq_ofNat_of_zero_le s0
  have hst : st' < 17 := by omega
  -- changed
  obtain ⟨n12, m12, S19, c21, p19, q12, q12', ne12, r12⟩ := ev_mk (k := 8) (S := S18) (cenv := [some ro, some (.int n), some (.int w), x3, x4, x5, some (.loc n6), some (.loc n7), some (.loc n8), some (.loc n9'), some (.loc n10), some (.int (st' : Int)), none, none, none, none]) rfl
  have P11 : S11 <+: S19 := (((((((p12.trans p13).trans p14).trans p15).trans p16).trans p17).trans p18).trans p19)
  have P14 : S14 <+: S19 := ((((p15.trans p16).trans p17).trans p18).trans p19)
  obtain ⟨S20, c22, p20⟩ := other_c 10 st' hst (U st') S19
  have e22 : ev (Gx 11) (.call 15 [.sub (.var 6) (.var 11)]) [some ro, some (.int n), some (.int w), x3, x4, x5, some (.loc n6), some (.loc n7), some (.loc n8), some (.loc n9'), some (.loc n10), some (.int (st' : Int)), some (.loc n12), none, none, none] S19 = .ok (.str (wd st' (!U st'))) S20 := by
    rw [y_call (evs_cons0 (ev_sub (ev_var rfl) (ev_var rfl) (sub_l (pre_at P11 k11) (at_vv U st' hst))) evs_nil0)]
    exact c22
  obtain ⟨S21, c23, r12', l21, o21⟩ := putv (k := 9) (y := 7) (t := 12) (u := 11) hst (by rfl) (pre_at (P14.trans p20) k14) (by rfl) (by rfl) e22 (r12.pre p20) ne12
  have l19 := p19.length_le
  have t20 := p20.length_le
  have keep : ∀ j c, j < S18.length → S20[j]? = some c → S21[j]? = some c := fun j c hj h => (o21 j (by omega)).trans h
  have P11' : S11 <+: S20 := P11.trans p20
  have t12 := p12.length_le
  have t13 := p13.length_le
  have t14 := p14.length_le
  have t15 := p15.length_le
  have t16 := p16.length_le
  have t17 := p17.length_le
  have t18 := p18.length_le
  have l11 := lt_of k11
  have l14 := lt_of k14
  have l15 := lt_of k15
  have l9 := lt_of r9.ob
  have l9' : m9 < S16.length := let ⟨_, h⟩ := r9.dc; lt_of h
  have l10 := lt_of r10.ob
  have l10' : m10 < S17.length := let ⟨_, h⟩ := r10.dc; lt_of h
  have k21 : S21[n6]? = some (.lst (vv U)) := keep _ _ (by omega) (pre_at P11' k11)
  have B2 := (BR'.none (S := S21) (Q := fun _ => True) (cenv := [some ro, some (.int n), some (.int w), x3, x4, x5, some (.loc n6), some (.loc n7), some (.loc n8), some (.loc n9'), some (.loc n10), some (.int (st' : Int)), some (.loc n12), none, none, none]) (n := 16) rfl).add (i := 6) rfl (lst_rd k21).any (o := true) (.inl rfl)
  obtain ⟨S22, c24, p22⟩ := ev_b (k := 11) B2 (b_notc (b_same (k := 8) rfl))
  -- the loop
  have A : Ap n7 n8 n9' m9 n10 m10 := by
    simp only [Ap, List.nodup_cons, List.mem_cons, List.not_mem_nil, or_false, not_or]
    refine ⟨⟨?_, ?_, ?_, ?_, ?_⟩, ⟨?_, ?_, ?_, ?_⟩, ⟨?_, ?_, ?_⟩, ⟨?_, ?_⟩, ?_, by simp⟩ <;> omega
  have P15 : S15 <+: S20 := ((((p16.trans p17).trans p18).trans p19).trans p20)
  have P16 : S16 <+: S20 := (((p17.trans p18).trans p19).trans p20)
  have P17 : S17 <+: S20 := ((p18.trans p19).trans p20)
  have rkeep : ∀ q m g, RuleAt S20 q m g → q < S18.length → m < S18.length → RuleAt S21 q m g := fun q m g r h1 h2 => r.same (o21 _ (by omega)) (o21 _ (by omega))
  have I0 : I07 S21 n7 n8 n9' m9 n10 m10 (bitf n) (bitf w) := ⟨keep _ _ (by omega) (pre_at (P14.trans p20) k14), keep _ _ (by omega) (pre_at P15 k15), rkeep _ _ _ (r9.pre P16) (by omega) (by omega), rkeep _ _ _ (r10.pre P17) (by omega) (by omega)⟩
  obtain ⟨cF, SF, fF, eF, iF, oF⟩ := loop07 (k := 5) (ys := (List.range 17).map fun (i : Nat) => Val.int (i : Int)) (st := st') (num_of w w0 w9) A (List.range 17) [some ro, some (.int n), some (.int w), x3, x4, x5, some (.loc n6), some (.loc n7), some (.loc n8), some (.loc n9'), some (.loc n10), some (.int (st' : Int)), some (.loc n12), none, none, none] S22 (bitf n) (I0.pre p22) rfl rfl rfl rfl rfl rfl rfl
  -- the end
  obtain ⟨SG, eG, pG⟩ := last11 (k := 6) (i := 9) (j := 8) (oF 9 (by decide) (by decide)) (oF 8 (by decide) (by decide)) iF.r iF.v
  obtain ⟨SH, eH, pH⟩ := asked_c 7 n SG
  have eR : ev (Gx 11) (.and (.call 12 [.call 17 [.var 9], .var 8]) (.call 23 [.var 1])) cF SF = .ok (.bl true) SH := by
    rw [ev_and eG, if_pos rfl, y_call (evs_cons0 (ev_var (oF 1 (by decide) (by decide))) evs_nil0)]
    exact eH
  refine ⟨SH, ?_⟩
  rw [callM_succ (d := P.d19v1) rfl, runDef_eq (by rfl)]
  show (exs (Gx 11) P.d19v1.body [some ro, none, none, none, none, none, none, none, none, none, none, none, none, none, none, none] []).res = _
  unfold P.d19v1
  simp only
  rw [exs_cons, ex_asg c1, Fl.seq_nx]
  show (exs (Gx 11) _ [some ro, some (.int n), none, none, none, none, none, none, none, none, none, none, none, none, none, none] S1).res = _
  rw [exs_cons, ex_asg c2, Fl.seq_nx]
  show (exs (Gx 11) _ [some ro, some (.int n), some (.int w), none, none, none, none, none, none, none, none, none, none, none, none, none] S2).res = _
  have c34 : ev (Gx 11) (.call 21 [.call 10 [.var 0, .cst (.int 2)]]) [some ro, some (.int n), some (.int w), none, none, none, none, none, none, none, none, none, none, none, none, none] S2 = .ok (.int z') S3 := by
    rw [y_call (evs_cons0 ((y_call (evs_cons0 (ev_var rfl) (evs_cons0 ev_cst evs_nil0))).trans (by rw [← hro]; exact c3)) evs_nil0)]
    exact c4
  rw [exs_cons, ex_asg c34, Fl.seq_nx]
  show (exs (Gx 11) _ [some ro, some (.int n), some (.int w), some (.int z'), none, none, none, none, none, none, none, none, none, none, none, none] S3).res = _
  rw [exs_cons, c5, Fl.seq_nx, exs_cons, ex_asg c6, Fl.seq_nx]
  show (exs (Gx 11) _ [some ro, some (.int n), some (.int w), x3, some (.loc S3.length), none, none, none, none, none, none, none, none, none, none, none] S4).res = _
  rw [hx4]
  rw [exs_cons, for_at c8 k6, c9, Fl.seq_nx, exs_cons, ex_asg c10, Fl.seq_nx]
  show (exs (Gx 11) _ [some ro, some (.int n), some (.int w), x3, x4, x5, some (.loc S7.length), none, none, none, none, none, none, none, none, none] S8).res = _
  rw [exs_cons, ex_asg c13, Fl.seq_nx]
  show (exs (Gx 11) _ [some ro, some (.int n), some (.int w), x3, x4, x5, some (.loc n6), none, none, none, none, none, none, none, none, none] S11).res = _
  rw [exs_cons, ex_if c14, if_neg (by decide), exs_nil, Fl.seq_nx, exs_cons, ex_if c15, if_neg (by decide), exs_nil, Fl.seq_nx]
  rw [exs_cons, ex_asg ((y_call evs_nil0).trans c16), Fl.seq_nx]
  show (exs (Gx 11) _ [some ro, some (.int n), some (.int w), x3, x4, x5, some (.loc n6), some (.loc n7), none, none, none, none, none, none, none, none] S14).res = _
  rw [exs_cons, ex_asg ((y_call (evs_cons0 (ev_var rfl) evs_nil0)).trans c17), Fl.seq_nx]
  show (exs (Gx 11) _ [some ro, some (.int n), some (.int w), x3, x4, x5, some (.loc n6), some (.loc n7), some (.loc n8), none, none, none, none, none, none, none] S15).res = _
  rw [exs_cons, ex_asg ((y_call (evs_cons0 (ev_var rfl) evs_nil0)).trans c18), Fl.seq_nx]
  show (exs (Gx 11) _ [some ro, some (.int n), some (.int w), x3, x4, x5, some (.loc n6), some (.loc n7), some (.loc n8), some (.loc n9'), none, none, none, none, none, none] S16).res = _
  rw [exs_cons, ex_asg ((y_call (evs_cons0 (ev_var rfl) evs_nil0)).trans c19), Fl.seq_nx]
  show (exs (Gx 11) _ [some ro, some (.int n), some (.int w), x3, x4, x5, some (.loc n6), some (.loc n7), some (.loc n8), some (.loc n9'), some (.loc n10), none, none, none, none, none] S17).res = _
  rw [exs_cons, ex_asg c20, Fl.seq_nx]
  show (exs (Gx 11) _ [some ro, some (.int n), some (.int w), x3, x4, x5, some (.loc n6), some (.loc n7), some (.loc n8), some (.loc n9'), some (.loc n10), some (.int (st' : Int)), none, none, none, none] S18).res = _
  rw [exs_cons, ex_asg c21, Fl.seq_nx]
  show (exs (Gx 11) _ [some ro, some (.int n), some (.int w), x3, x4, x5, some (.loc n6), some (.loc n7), some (.loc n8), some (.loc n9'), some (.loc n10), some (.int (st' : Int)), some (.loc n12), none, none, none] S19).res = _
  rw [exs_cons, c23, Fl.seq_nx, exs_cons, ex_if c24, if_neg (by decide), exs_nil, Fl.seq_nx]
  rw [exs_cons, for_src (evs_cons0 ev_cst evs_nil0) (show srcV (Gx 11) 1 [.int 17] S22 = _ from rng_c (n := 17) (by decide)), eF, Fl.seq_nx, exs_cons, ex_ret eR]
  rfl
end Lw
end
section
set_option Elab.async false
set_option linter.all false
set_option maxRecDepth 100000
set_option maxHeartbeats 4000000
namespace Lw
open PySem PySem.Spec L2 ItX C
open PyProof.Rows hiding St
theorem nmsN : nms.Nodup := by decide +kernel
def lk (P : Program) (w : World) (K : PySem.W.Frag) (mg : Str → Option Value) (cs : Nat → Option Addr) (fs : Nat → FnL) : Lk := ⟨P, w, K, mg, tab, nms, cs, fs, none⟩
theorem ss1 : FnScope nm1 ["key"] (defScope st1) := ⟨rfl, rfl, rfl, nd1, rfl, by decide +kernel, by decide +kernel⟩
theorem ss3 : FnScope nm3 ["number"] (defScope st3) := ⟨rfl, rfl, rfl, nd3, rfl, by decide +kernel, by decide +kernel⟩
theorem ss4 : FnScope nm4 ["self", "values"] (defScope st4) := ⟨rfl, rfl, rfl, nd4, rfl, by decide +kernel, by decide +kernel⟩
theorem ss5 : FnScope nm5 ["number"] (defScope st5) := ⟨rfl, rfl, rfl, nd5, rfl, by decide +kernel, by decide +kernel⟩
theorem ss6 : FnScope nm6 ["self"] (defScope st6) := ⟨rfl, rfl, rfl, nd6, rfl, by decide +kernel, by decide +kernel⟩
theorem ss7 : FnScope nm7 ["self", "key"] (defScope st7) := ⟨rfl, rfl, rfl, nd7, rfl, by decide +kernel, by decide +kernel⟩
theorem ss8 : FnScope nm8 ["self", "key", "value"] (defScope st8) := ⟨rfl, rfl, rfl, nd8, rfl, by decide +kernel, by decide +kernel⟩
theorem ss10 : FnScope nm10 ["script", "k"] (defScope st10) := ⟨rfl, rfl, rfl, nd10, rfl, by decide +kernel, by decide +kernel⟩
theorem ss11 : FnScope nm11 ["actual"] (defScope st11) := ⟨rfl, rfl, rfl, nd11, rfl, by decide +kernel, by decide +kernel⟩
theorem ss12 : FnScope nm12 ["actual", "due"] (defScope st12) := ⟨rfl, rfl, rfl, nd12, rfl, by decide +kernel, by decide +kernel⟩
theorem ss13 : FnScope nm13 [] (defScope st13) := ⟨rfl, rfl, rfl, nd13, rfl, by decide +kernel, by decide +kernel⟩
theorem ss14 : FnScope nm14 ["number"] (defScope st14) := ⟨rfl, rfl, rfl, nd14, rfl, by decide +kernel, by decide +kernel⟩
theorem ss15 : FnScope nm15 ["value"] (defScope st15) := ⟨rfl, rfl, rfl, nd15, rfl, by decide +kernel, by decide +kernel⟩
theorem ss17 : FnScope nm17 ["rule"] (defScope st17) := ⟨rfl, rfl, rfl, nd17, rfl, by decide +kernel, by decide +kernel⟩
theorem ss19 : FnScope nm19 ["script"] (defScope st19) := ⟨rfl, rfl, rfl, nd19, rfl, by decide +kernel, by decide +kernel⟩
theorem ss20 : FnScope nm20 ["values"] (defScope st20) := ⟨rfl, rfl, rfl, nd20, rfl, by decide +kernel, by decide +kernel⟩
theorem ss21 : FnScope nm21 ["cell"] (defScope st21) := ⟨rfl, rfl, rfl, nd21, rfl, by decide +kernel, by decide +kernel⟩
theorem ss22 : FnScope nm22 ["number"] (defScope st22) := ⟨rfl, rfl, rfl, nd22, rfl, by decide +kernel, by decide +kernel⟩
theorem ss23 : FnScope nm23 ["number"] (defScope st23) := ⟨rfl, rfl, rfl, nd23, rfl, by decide +kernel, by decide +kernel⟩
/-- what the law promises -/
def spLaw (K : PySem.W.Frag) : Sp := fun vs H Q _ => ∃ (a : Addr) (ns : List Int), vs = [.ref a] ∧ SqL K H a (ns.map V.int) ∧ Only H ∧ ns.length ≤ 63 ∧ ∀ H', Q (.bl true) H'
theorem all_mk {l : PySem.W.OpenLaw} {w : World} {K : PySem.W.Frag} {h : Heap} {mg : Str → Option Value} {fa C0 C1 C2 C3 C4 C5 C6 C7 C8 C9 C10 C11 C12 f1 f3 f4 f5 f6 f7 f8 f10 f11 f12 f13 f14 f15 f17 f19 f20 f21 f22 f23 : Addr} {od1 an1 od3 an3 od4 an4 od5 an5 od6 an6 od7 an7 od8 an8 od10 an10 od11 an11 od12 an12 od13 an13 od14 an14 od15 an15 od17 an17 od19 an19 od20 an20 od21 an21 od22 an22 od23 an23 : Option Addr} {sl1 sl3 sl4 sl5 sl6 sl7 sl8 sl10 sl11 sl12 sl13 sl14 sl15 sl17 sl19 sl20 sl21 sl22 sl23 : Array (Option Value)} {oc1 kV1 dc1 pm1 cd1 ct1 oc3 kV3 dc3 pm3 cd3 ct3 oc4 kV4 dc4 pm4 cd4 ct4 oc5 kV5 dc5 pm5 cd5 ct5 oc6 kV6 dc6 pm6 cd6 ct6 oc7 kV7 dc7 pm7 cd7 ct7 oc8 kV8 dc8 pm8 cd8 ct8 oc10 kV10 dc10 pm10 cd10 ct10 oc11 kV11 dc11 pm11 cd11 ct11 oc12 kV12 dc12 pm12 cd12 ct12 oc13 kV13 dc13 pm13 cd13 ct13 oc14 kV14 dc14 pm14 cd14 ct14 oc15 kV15 dc15 pm15 cd15 ct15 oc17 kV17 dc17 pm17 cd17 ct17 oc19 kV19 dc19 pm19 cd19 ct19 oc20 kV20 dc20 pm20 cd20 ct20 oc21 kV21 dc21 pm21 cd21 ct21 oc22 kV22 dc22 pm22 cd22 ct22 oc23 kV23 dc23 pm23 cd23 ct23 : Value} {cu0 : Value} {cu1 : Value} {cu2 : Value} {dT4 : Addr} {dO4 : Option Addr} {dI4 : Array Value} {dN4 : Nat} {dS4 : Array (Option Value)} {sm5 : Value} {sp5 : Addr} {sr5 : List Value} {pp6 : Addr} {pr6 : List Value} {mccc0_COUNT : Value} {uccc0_COUNT : Value} (X : K.In h) (G : h.Ns mainGlobals mg) (hfa : mg "law" = some (.ref fa))
    (aC0 : PySem.W.nsIn K mainGlobals "Rule" = some (some (.ref C0)))
    (ac0 : PySem.W.nsIn K mainGlobals "KEYS" = some (some cu0))
    (kv0 : kvB K P.kKEYS cu0 = true)
    (ac1 : PySem.W.nsIn K mainGlobals "USUAL" = some (some cu1))
    (kv1 : kvB K P.kUSUAL cu1 = true)
    (ac2 : PySem.W.nsIn K mainGlobals "MANY" = some (some cu2))
    (kv2 : kvB K P.kMANY cu2 = true)
    (a1 : PySem.W.nsIn K mainGlobals "values_of" = some (some (.ref f1)))
    (l1 : K.lookup f1 = some ⟨oc1, od1, .func (PySem.W.fnOf "values_of" "values_of" (defArgs st1) (defBody st1) (defScope st1) .none kV1 dc1 pm1 an1 cd1 ct1), sl1⟩)
    (c1 : PySem.W.codeIn K cd1 "values_of" = true)
    (k1 : PySem.W.keepIn K (.ref f1) = true)
    (fi1 : PySem.W.fnIn K f1 = true)
    (a3 : PySem.W.nsIn K mainGlobals "values_of_number" = some (some (.ref f3)))
    (l3 : K.lookup f3 = some ⟨oc3, od3, .func (PySem.W.fnOf "values_of_number" "values_of_number" (defArgs st3) (defBody st3) (defScope st3) .none kV3 dc3 pm3 an3 cd3 ct3), sl3⟩)
    (c3 : PySem.W.codeIn K cd3 "values_of_number" = true)
    (k3 : PySem.W.keepIn K (.ref f3) = true)
    (fi3 : PySem.W.fnIn K f3 = true)
    (a4 : PySem.W.findIn K (.ref C0) "__init__" = some (some (.ref f4)))
    (is4 : PySem.W.isFn K (.ref f4) = true)
    (l4 : K.lookup f4 = some ⟨oc4, od4, .func (PySem.W.fnOf "__init__" "Rule.__init__" (defArgs st4) (defBody st4) (defScope st4) (.ref dT4) kV4 dc4 pm4 an4 cd4 ct4), sl4⟩)
    (c4 : PySem.W.codeIn K cd4 "Rule.__init__" = true)
    (k4 : PySem.W.keepIn K (.ref f4) = true)
    (fi4 : PySem.W.fnIn K f4 = true)
    (dl4 : K.lookup dT4 = some ⟨.type "tuple", dO4, .seq dI4 dN4, dS4⟩)
    (dk4 : kvBs K [.non] dI4.toList = true)
    (sa5_ : PySem.W.typeIn K (.ref C0) = some sm5)
    (sb5_ : PySem.W.readsIn K C0 sm5 = true)
    (sc5_ : PySem.W.specialIn K (.ref C0) "__getattribute__" = some (some (.builtin "type.__getattribute__")))
    (sd5_ : PySem.W.findCls K (.ref C0) sm5 "from_number" = some (.get (.builtin "staticmethod.__get__") (.ref sp5) .none (.ref C0)))
    (se5_ : PySem.W.recIn K sp5 "staticmethod" = some (.ref f5 :: sr5))
    (l5 : K.lookup f5 = some ⟨oc5, od5, .func (PySem.W.fnOf "from_number" "Rule.from_number" (defArgs st5) (defBody st5) (defScope st5) .none kV5 dc5 pm5 an5 cd5 ct5), sl5⟩)
    (c5 : PySem.W.codeIn K cd5 "Rule.from_number" = true)
    (k5 : PySem.W.keepIn K (.ref f5) = true)
    (fi5 : PySem.W.fnIn K f5 = true)
    (pa6 : PySem.W.findIn K (.ref C0) "number" = some (some (.ref pp6)))
    (pb6 : PySem.W.specialIn K (.ref pp6) "__get__" = some (some (.builtin "property.__get__")))
    (pc6 : PySem.W.takesIn K (.ref pp6) = some true)
    (pd6 : PySem.W.recIn K pp6 "property" = some (.ref f6 :: pr6))
    (l6 : K.lookup f6 = some ⟨oc6, od6, .func (PySem.W.fnOf "number" "Rule.number" (defArgs st6) (defBody st6) (defScope st6) .none kV6 dc6 pm6 an6 cd6 ct6), sl6⟩)
    (c6 : PySem.W.codeIn K cd6 "Rule.number" = true)
    (k6 : PySem.W.keepIn K (.ref f6) = true)
    (fi6 : PySem.W.fnIn K f6 = true)
    (a7 : PySem.W.findIn K (.ref C0) "__getitem__" = some (some (.ref f7)))
    (is7 : PySem.W.isFn K (.ref f7) = true)
    (l7 : K.lookup f7 = some ⟨oc7, od7, .func (PySem.W.fnOf "__getitem__" "Rule.__getitem__" (defArgs st7) (defBody st7) (defScope st7) .none kV7 dc7 pm7 an7 cd7 ct7), sl7⟩)
    (c7 : PySem.W.codeIn K cd7 "Rule.__getitem__" = true)
    (k7 : PySem.W.keepIn K (.ref f7) = true)
    (fi7 : PySem.W.fnIn K f7 = true)
    (a8 : PySem.W.findIn K (.ref C0) "__setitem__" = some (some (.ref f8)))
    (is8 : PySem.W.isFn K (.ref f8) = true)
    (l8 : K.lookup f8 = some ⟨oc8, od8, .func (PySem.W.fnOf "__setitem__" "Rule.__setitem__" (defArgs st8) (defBody st8) (defScope st8) .none kV8 dc8 pm8 an8 cd8 ct8), sl8⟩)
    (c8 : PySem.W.codeIn K cd8 "Rule.__setitem__" = true)
    (k8 : PySem.W.keepIn K (.ref f8) = true)
    (fi8 : PySem.W.fnIn K f8 = true)
    (a10 : PySem.W.nsIn K mainGlobals "_law_cell" = some (some (.ref f10)))
    (l10 : K.lookup f10 = some ⟨oc10, od10, .func (PySem.W.fnOf "_law_cell" "_law_cell" (defArgs st10) (defBody st10) (defScope st10) .none kV10 dc10 pm10 an10 cd10 ct10), sl10⟩)
    (c10 : PySem.W.codeIn K cd10 "_law_cell" = true)
    (k10 : PySem.W.keepIn K (.ref f10) = true)
    (fi10 : PySem.W.fnIn K f10 = true)
    (a11 : PySem.W.nsIn K mainGlobals "_law_whole" = some (some (.ref f11)))
    (l11 : K.lookup f11 = some ⟨oc11, od11, .func (PySem.W.fnOf "_law_whole" "_law_whole" (defArgs st11) (defBody st11) (defScope st11) .none kV11 dc11 pm11 an11 cd11 ct11), sl11⟩)
    (c11 : PySem.W.codeIn K cd11 "_law_whole" = true)
    (k11 : PySem.W.keepIn K (.ref f11) = true)
    (fi11 : PySem.W.fnIn K f11 = true)
    (a12 : PySem.W.nsIn K mainGlobals "_law_same" = some (some (.ref f12)))
    (l12 : K.lookup f12 = some ⟨oc12, od12, .func (PySem.W.fnOf "_law_same" "_law_same" (defArgs st12) (defBody st12) (defScope st12) .none kV12 dc12 pm12 an12 cd12 ct12), sl12⟩)
    (c12 : PySem.W.codeIn K cd12 "_law_same" = true)
    (k12 : PySem.W.keepIn K (.ref f12) = true)
    (fi12 : PySem.W.fnIn K f12 = true)
    (a13 : PySem.W.nsIn K mainGlobals "_law_keys" = some (some (.ref f13)))
    (l13 : K.lookup f13 = some ⟨oc13, od13, .func (PySem.W.fnOf "_law_keys" "_law_keys" (defArgs st13) (defBody st13) (defScope st13) .none kV13 dc13 pm13 an13 cd13 ct13), sl13⟩)
    (c13 : PySem.W.codeIn K cd13 "_law_keys" = true)
    (k13 : PySem.W.keepIn K (.ref f13) = true)
    (fi13 : PySem.W.fnIn K f13 = true)
    (a14 : PySem.W.nsIn K mainGlobals "_law_values" = some (some (.ref f14)))
    (l14 : K.lookup f14 = some ⟨oc14, od14, .func (PySem.W.fnOf "_law_values" "_law_values" (defArgs st14) (defBody st14) (defScope st14) .none kV14 dc14 pm14 an14 cd14 ct14), sl14⟩)
    (c14 : PySem.W.codeIn K cd14 "_law_values" = true)
    (k14 : PySem.W.keepIn K (.ref f14) = true)
    (fi14 : PySem.W.fnIn K f14 = true)
    (a15 : PySem.W.nsIn K mainGlobals "_law_other" = some (some (.ref f15)))
    (l15 : K.lookup f15 = some ⟨oc15, od15, .func (PySem.W.fnOf "_law_other" "_law_other" (defArgs st15) (defBody st15) (defScope st15) .none kV15 dc15 pm15 an15 cd15 ct15), sl15⟩)
    (c15 : PySem.W.codeIn K cd15 "_law_other" = true)
    (k15 : PySem.W.keepIn K (.ref f15) = true)
    (fi15 : PySem.W.fnIn K f15 = true)
    (a17 : PySem.W.nsIn K mainGlobals "_law_entries" = some (some (.ref f17)))
    (l17 : K.lookup f17 = some ⟨oc17, od17, .func (PySem.W.fnOf "_law_entries" "_law_entries" (defArgs st17) (defBody st17) (defScope st17) .none kV17 dc17 pm17 an17 cd17 ct17), sl17⟩)
    (c17 : PySem.W.codeIn K cd17 "_law_entries" = true)
    (k17 : PySem.W.keepIn K (.ref f17) = true)
    (fi17 : PySem.W.fnIn K f17 = true)
    (a19 : PySem.W.nsIn K mainGlobals "law" = some (some (.ref f19)))
    (l19 : K.lookup f19 = some ⟨oc19, od19, .func (PySem.W.fnOf "law" "law" (defArgs st19) (defBody st19) (defScope st19) .none kV19 dc19 pm19 an19 cd19 ct19), sl19⟩)
    (c19 : PySem.W.codeIn K cd19 "law" = true)
    (k19 : PySem.W.keepIn K (.ref f19) = true)
    (fi19 : PySem.W.fnIn K f19 = true)
    (a20 : PySem.W.nsIn K mainGlobals "_law_number" = some (some (.ref f20)))
    (l20 : K.lookup f20 = some ⟨oc20, od20, .func (PySem.W.fnOf "_law_number" "_law_number" (defArgs st20) (defBody st20) (defScope st20) .none kV20 dc20 pm20 an20 cd20 ct20), sl20⟩)
    (c20 : PySem.W.codeIn K cd20 "_law_number" = true)
    (k20 : PySem.W.keepIn K (.ref f20) = true)
    (fi20 : PySem.W.fnIn K f20 = true)
    (a21 : PySem.W.nsIn K mainGlobals "_law_cut" = some (some (.ref f21)))
    (l21 : K.lookup f21 = some ⟨oc21, od21, .func (PySem.W.fnOf "_law_cut" "_law_cut" (defArgs st21) (defBody st21) (defScope st21) .none kV21 dc21 pm21 an21 cd21 ct21), sl21⟩)
    (c21 : PySem.W.codeIn K cd21 "_law_cut" = true)
    (k21 : PySem.W.keepIn K (.ref f21) = true)
    (fi21 : PySem.W.fnIn K f21 = true)
    (a22 : PySem.W.nsIn K mainGlobals "_law_refused" = some (some (.ref f22)))
    (l22 : K.lookup f22 = some ⟨oc22, od22, .func (PySem.W.fnOf "_law_refused" "_law_refused" (defArgs st22) (defBody st22) (defScope st22) .none kV22 dc22 pm22 an22 cd22 ct22), sl22⟩)
    (c22 : PySem.W.codeIn K cd22 "_law_refused" = true)
    (k22 : PySem.W.keepIn K (.ref f22) = true)
    (fi22 : PySem.W.fnIn K f22 = true)
    (a23 : PySem.W.nsIn K mainGlobals "_law_asked" = some (some (.ref f23)))
    (l23 : K.lookup f23 = some ⟨oc23, od23, .func (PySem.W.fnOf "_law_asked" "_law_asked" (defArgs st23) (defBody st23) (defScope st23) .none kV23 dc23 pm23 an23 cd23 ct23), sl23⟩)
    (c23 : PySem.W.codeIn K cd23 "_law_asked" = true)
    (k23 : PySem.W.keepIn K (.ref f23) = true)
    (fi23 : PySem.W.fnIn K f23 = true)
    (pg0 : PySem.W.plainGet K C0 Str.empty = true)
    (hd0 : PySem.W.hasDictIn K C0 = true)
    (po0 : PySem.W.plainOver K C0 = true)
    (sa0 : PySem.W.findIn K (.ref C0) "__setattr__" = some (some (.builtin "object.__setattr__")))
    (mk0 : PySem.W.makesIn K C0 = true)
    (kc0 : PySem.W.keepIn K (.ref C0) = true)
    (sf0 : PySem.W.selfFirst K C0 = true)
    (nq0 : PySem.W.noSeq K C0 = true)
    (ia0 : PySem.W.findIn K (.ref C0) "__class__" = some (some (.builtin "object.__class__")))
    (im0 : PySem.W.mroIn K C0 (.type "object") = some true)
    (ik0_0 : PySem.W.kitOne K (.ref C0) (.ref C0) = some true)
    (na0_14 : PySem.W.findIn K (.ref C0) "table" = some none)
    (io : PySem.W.specialIn K (.builtin "object.__class__") "__get__" = some (some (.builtin "getset_descriptor.__get__")))
    (it_ : PySem.W.takesIn K (.builtin "object.__class__") = some true)
    (aC1 : PySem.W.nsIn K mainGlobals "InvalidNumber" = some (some (.ref C1)))
    (aC2 : PySem.W.nsIn K mainGlobals "InvalidEntry" = some (some (.ref C2)))
    (aC3 : PySem.W.nsIn K mainGlobals "InvalidNotation" = some (some (.ref C3)))
    (aC4 : PySem.W.nsIn K mainGlobals "InvalidEvent" = some (some (.ref C4)))
    (aC5 : PySem.W.nsIn K mainGlobals "OutOfScript" = some (some (.ref C5)))
    (aC6 : PySem.W.nsIn K mainGlobals "EventRefused" = some (some (.ref C6)))
    (aC7 : PySem.W.nsIn K mainGlobals "UnknownSign" = some (some (.ref C7)))
    (aC8 : PySem.W.nsIn K mainGlobals "NotSiblings" = some (some (.ref C8)))
    (aC9 : PySem.W.nsIn K mainGlobals "NotMirrored" = some (some (.ref C9)))
    (aC10 : PySem.W.nsIn K mainGlobals "CopyError" = some (some (.ref C10)))
    (aC11 : PySem.W.nsIn K mainGlobals "JudgeError" = some (some (.ref C11)))
    (aC12 : PySem.W.nsIn K mainGlobals "UnshuffledError" = some (some (.ref C12)))
    (xq1 : PySem.W.excIn K C1 [.type "ValueError", .type "Exception", .type "BaseException", .type "object"] "ValueError.__new__" = true)
    (xk1 : PySem.W.keepIn K (.ref C1) = true)
    (xs1_ : PySem.W.subIn K (.ref C1) (.type "BaseException") = some true)
    (xt1 : PySem.W.typeIn K (.ref C1) = some (.type "type"))
    (xg1 : PySem.W.findIn K (.ref C1) "__getattribute__" = some (some (.builtin "BaseException.__getattribute__")))
    (xa1 : PySem.W.findIn K (.ref C1) "__getattr__" = some none)
    (xd1 : PySem.W.hasDictIn K C1 = true)
    (xc1 : PySem.W.findIn K (.ref C1) "__class__" = some (some (.builtin "object.__class__")))
    (xm1 : PySem.W.mroIn K C1 (.type "object") = some true)
    (xq2 : PySem.W.excIn K C2 [.type "ValueError", .type "Exception", .type "BaseException", .type "object"] "ValueError.__new__" = true)
    (xk2 : PySem.W.keepIn K (.ref C2) = true)
    (xs2_ : PySem.W.subIn K (.ref C2) (.type "BaseException") = some true)
    (xt2 : PySem.W.typeIn K (.ref C2) = some (.type "type"))
    (xg2 : PySem.W.findIn K (.ref C2) "__getattribute__" = some (some (.builtin "BaseException.__getattribute__")))
    (xa2 : PySem.W.findIn K (.ref C2) "__getattr__" = some none)
    (xd2 : PySem.W.hasDictIn K C2 = true)
    (xc2 : PySem.W.findIn K (.ref C2) "__class__" = some (some (.builtin "object.__class__")))
    (xm2 : PySem.W.mroIn K C2 (.type "object") = some true)
    (xio : PySem.W.specialIn K (.builtin "object.__class__") "__get__" = some (some (.builtin "getset_descriptor.__get__")))
    (xit : PySem.W.takesIn K (.builtin "object.__class__") = some true)
    (th0_1 : PySem.W.exmOne K (.ref C1) (.ref C1) = some true)
    (th0_2 : PySem.W.exmOne K (.ref C2) (.ref C1) = some false)
    (tq0_1_0 : PySem.W.kitOne K (.ref C1) (.ref C2) = some false)
    (tq0_1_1 : PySem.W.kitOne K (.ref C1) (.ref C3) = some false)
    (tq0_1_2 : PySem.W.kitOne K (.ref C1) (.ref C4) = some false)
    (tq0_1_3 : PySem.W.kitOne K (.ref C1) (.ref C5) = some false)
    (tq0_1_4 : PySem.W.kitOne K (.ref C1) (.ref C6) = some false)
    (tq0_1_5 : PySem.W.kitOne K (.ref C1) (.ref C7) = some false)
    (tq0_1_6 : PySem.W.kitOne K (.ref C1) (.ref C8) = some false)
    (tq0_1_7 : PySem.W.kitOne K (.ref C1) (.ref C9) = some false)
    (tq0_1_8 : PySem.W.kitOne K (.ref C1) (.ref C10) = some false)
    (tq0_1_9 : PySem.W.kitOne K (.ref C1) (.ref C11) = some false)
    (tq0_1_10 : PySem.W.kitOne K (.ref C1) (.ref C12) = some true)
    (tq0_1_11 : PySem.W.kitOne K (.ref C1) (.type "ValueError") = some true)
    (racc0_COUNT : PySem.W.typeIn K (.ref C0) = some mccc0_COUNT)
    (rbcc0_COUNT : PySem.W.readsIn K C0 mccc0_COUNT = true)
    (rccc0_COUNT : PySem.W.specialIn K (.ref C0) "__getattribute__" = some (some (.builtin "type.__getattribute__")))
    (rdcc0_COUNT : PySem.W.findCls K (.ref C0) mccc0_COUNT "COUNT" = some (.val uccc0_COUNT))
    (recc0_COUNT : kvB K (.int 131072) uccc0_COUNT = true)
    (bl_ValueError : PySem.W.nsIn K mainGlobals "ValueError" = some none)
    (bl_bool : PySem.W.nsIn K mainGlobals "bool" = some none)
    (bl_enumerate : PySem.W.nsIn K mainGlobals "enumerate" = some none)
    (bl_int : PySem.W.nsIn K mainGlobals "int" = some none)
    (bl_isinstance : PySem.W.nsIn K mainGlobals "isinstance" = some none)
    (bl_len : PySem.W.nsIn K mainGlobals "len" = some none)
    (bl_list : PySem.W.nsIn K mainGlobals "list" = some none)
    (bl_range : PySem.W.nsIn K mainGlobals "range" = some none)
    (bl_str : PySem.W.nsIn K mainGlobals "str" = some none)
    (bl_tuple : PySem.W.nsIn K mainGlobals "tuple" = some none)
    (hlaw : ∀ ns : List Int, ns.length ≤ 63 → ∃ S, callM tab 0 12 19 [.ro (ns.map Val.int)] [] = .ok (.bl true) S) :
    ∃ fd : FuncData, (∀ (s : Shared) (v : Value), BindsTo s fd ⟨[v], []⟩ [("script", v)]) ∧ ∀ base : Heap, K.In base → base.Ns mainGlobals mg → FnOk l.prog w K mg base (L2.CX l.prog w) 30 fa fd ["script"] (spLaw K) := by
  have e := hfa.symm.trans (PySem.W.mg_of X G a19)
  cases e
  let cs : Nat → Option Addr := fun n => match n with | 0 => some C0 | 1 => some C1 | 2 => some C2 | 3 => some C3 | 4 => some C4 | 5 => some C5 | 6 => some C6 | 7 => some C7 | 8 => some C8 | 9 => some C9 | 10 => some C10 | 11 => some C11 | 12 => some C12 | _ => none
  let ca : Nat → Addr := fun n => match n with | 0 => C0 | 1 => C1 | 2 => C2 | 3 => C3 | 4 => C4 | 5 => C5 | 6 => C6 | 7 => C7 | 8 => C8 | 9 => C9 | 10 => C10 | 11 => C11 | 12 => C12 | _ => 0
  let cv : Nat → Value := fun n => match n with | 0 => cu0 | 1 => cu1 | 2 => cu2 | _ => .none
  let fs : Nat → FnL := fun n => match n with
    | 1 => ⟨f1, PySem.W.fnOf "values_of" "values_of" (defArgs st1) (defBody st1) (defScope st1) .none kV1 dc1 pm1 an1 cd1 ct1, ["key"]⟩
    | 3 => ⟨f3, PySem.W.fnOf "values_of_number" "values_of_number" (defArgs st3) (defBody st3) (defScope st3) .none kV3 dc3 pm3 an3 cd3 ct3, ["number"]⟩
    | 4 => ⟨f4, PySem.W.fnOf "__init__" "Rule.__init__" (defArgs st4) (defBody st4) (defScope st4) (.ref dT4) kV4 dc4 pm4 an4 cd4 ct4, ["self", "values"]⟩
    | 5 => ⟨f5, PySem.W.fnOf "from_number" "Rule.from_number" (defArgs st5) (defBody st5) (defScope st5) .none kV5 dc5 pm5 an5 cd5 ct5, ["number"]⟩
    | 6 => ⟨f6, PySem.W.fnOf "number" "Rule.number" (defArgs st6) (defBody st6) (defScope st6) .none kV6 dc6 pm6 an6 cd6 ct6, ["self"]⟩
    | 7 => ⟨f7, PySem.W.fnOf "__getitem__" "Rule.__getitem__" (defArgs st7) (defBody st7) (defScope st7) .none kV7 dc7 pm7 an7 cd7 ct7, ["self", "key"]⟩
    | 8 => ⟨f8, PySem.W.fnOf "__setitem__" "Rule.__setitem__" (defArgs st8) (defBody st8) (defScope st8) .none kV8 dc8 pm8 an8 cd8 ct8, ["self", "key", "value"]⟩
    | 10 => ⟨f10, PySem.W.fnOf "_law_cell" "_law_cell" (defArgs st10) (defBody st10) (defScope st10) .none kV10 dc10 pm10 an10 cd10 ct10, ["script", "k"]⟩
    | 11 => ⟨f11, PySem.W.fnOf "_law_whole" "_law_whole" (defArgs st11) (defBody st11) (defScope st11) .none kV11 dc11 pm11 an11 cd11 ct11, ["actual"]⟩
    | 12 => ⟨f12, PySem.W.fnOf "_law_same" "_law_same" (defArgs st12) (defBody st12) (defScope st12) .none kV12 dc12 pm12 an12 cd12 ct12, ["actual", "due"]⟩
    | 13 => ⟨f13, PySem.W.fnOf "_law_keys" "_law_keys" (defArgs st13) (defBody st13) (defScope st13) .none kV13 dc13 pm13 an13 cd13 ct13, []⟩
    | 14 => ⟨f14, PySem.W.fnOf "_law_values" "_law_values" (defArgs st14) (defBody st14) (defScope st14) .none kV14 dc14 pm14 an14 cd14 ct14, ["number"]⟩
    | 15 => ⟨f15, PySem.W.fnOf "_law_other" "_law_other" (defArgs st15) (defBody st15) (defScope st15) .none kV15 dc15 pm15 an15 cd15 ct15, ["value"]⟩
    | 17 => ⟨f17, PySem.W.fnOf "_law_entries" "_law_entries" (defArgs st17) (defBody st17) (defScope st17) .none kV17 dc17 pm17 an17 cd17 ct17, ["rule"]⟩
    | 19 => ⟨fa, PySem.W.fnOf "law" "law" (defArgs st19) (defBody st19) (defScope st19) .none kV19 dc19 pm19 an19 cd19 ct19, ["script"]⟩
    | 20 => ⟨f20, PySem.W.fnOf "_law_number" "_law_number" (defArgs st20) (defBody st20) (defScope st20) .none kV20 dc20 pm20 an20 cd20 ct20, ["values"]⟩
    | 21 => ⟨f21, PySem.W.fnOf "_law_cut" "_law_cut" (defArgs st21) (defBody st21) (defScope st21) .none kV21 dc21 pm21 an21 cd21 ct21, ["cell"]⟩
    | 22 => ⟨f22, PySem.W.fnOf "_law_refused" "_law_refused" (defArgs st22) (defBody st22) (defScope st22) .none kV22 dc22 pm22 an22 cd22 ct22, ["number"]⟩
    | 23 => ⟨f23, PySem.W.fnOf "_law_asked" "_law_asked" (defArgs st23) (defBody st23) (defScope st23) .none kV23 dc23 pm23 an23 cd23 ct23, ["number"]⟩
    | _ => ⟨0, default, []⟩
  let L := lk l.prog w K mg cs fs
  have F1 := fun_mk (st := st1) l1 c1 k1
  have F3 := fun_mk (st := st3) l3 c3 k3
  obtain ⟨xs4, hv4, hr4⟩ := kvBs_rel dk4
  have F4 : FunD K "__init__" "Rule.__init__" (defArgs st4) (defBody st4) (defScope st4) xs4 [] f4 (PySem.W.fnOf "__init__" "Rule.__init__" (defArgs st4) (defBody st4) (defScope st4) (.ref dT4) kV4 dc4 pm4 an4 cd4 ct4) := ⟨⟨oc4, od4, _, kV4, dc4, pm4, an4, cd4, ct4, sl4, rfl, l4, c4, .inr ⟨(by intro z; subst z; obtain ⟨_, _, e0, _⟩ := hr4 [] (fun _ => none); cases e0), dT4, _, dI4.toList, dN4, rfl, dl4, rfl, hv4⟩, .inl rfl⟩, k4⟩
  have F5 := fun_mk (st := st5) l5 c5 k5
  have F6 := fun_mk (st := st6) l6 c6 k6
  have F7 := fun_mk (st := st7) l7 c7 k7
  have F8 := fun_mk (st := st8) l8 c8 k8
  have F10 := fun_mk (st := st10) l10 c10 k10
  have F11 := fun_mk (st := st11) l11 c11 k11
  have F12 := fun_mk (st := st12) l12 c12 k12
  have F13 := fun_mk (st := st13) l13 c13 k13
  have F14 := fun_mk (st := st14) l14 c14 k14
  have F15 := fun_mk (st := st15) l15 c15 k15
  have F17 := fun_mk (st := st17) l17 c17 k17
  have F19 := fun_mk (st := st19) l19 c19 k19
  have F20 := fun_mk (st := st20) l20 c20 k20
  have F21 := fun_mk (st := st21) l21 c21 k21
  have F22 := fun_mk (st := st22) l22 c22 k22
  have F23 := fun_mk (st := st23) l23 c23 k23
  have B1 := F1.binds (ps := ["key"]) fun _ _ _ _ _ _ us hl => match us, hl with | [_], _ => rfl
  have B3 := F3.binds (ps := ["number"]) fun _ _ _ _ _ _ us hl => match us, hl with | [_], _ => rfl
  have ln4 : xs4.length = 1 := by have := (hr4 [] (fun _ => none)).length; exact this.symm
  have B4 : Binds K (PySem.W.fnOf "__init__" "Rule.__init__" (defArgs st4) (defBody st4) (defScope st4) (.ref dT4) kV4 dc4 pm4 an4 cd4 ct4) ["self", "values"] [] := by
    obtain ⟨ds, h1, h2⟩ := F4.binds1 (ps := ["self", "values"]) 2 1 (by intro z; rw [z] at ln4; cases ln4) (by rw [ln4]; rfl) fun T kV doc pm an cdv ct us its hu hi => (by
      rw [ln4] at hi
      match us, hu, its, hi with
      | [_, _], _, [_], _ => exact ⟨_, rfl, rfl⟩)
    rw [List.drop_of_length_le (by rw [ln4]; exact Nat.le_refl _)] at h1
    cases h1
    exact h2
  have B5 := F5.binds (ps := ["number"]) fun _ _ _ _ _ _ us hl => match us, hl with | [_], _ => rfl
  have B6 := F6.binds (ps := ["self"]) fun _ _ _ _ _ _ us hl => match us, hl with | [_], _ => rfl
  have B7 := F7.binds (ps := ["self", "key"]) fun _ _ _ _ _ _ us hl => match us, hl with | [_, _], _ => rfl
  have B8 := F8.binds (ps := ["self", "key", "value"]) fun _ _ _ _ _ _ us hl => match us, hl with | [_, _, _], _ => rfl
  have B10 := F10.binds (ps := ["script", "k"]) fun _ _ _ _ _ _ us hl => match us, hl with | [_, _], _ => rfl
  have B11 := F11.binds (ps := ["actual"]) fun _ _ _ _ _ _ us hl => match us, hl with | [_], _ => rfl
  have B12 := F12.binds (ps := ["actual", "due"]) fun _ _ _ _ _ _ us hl => match us, hl with | [_, _], _ => rfl
  have B13 := F13.binds (ps := []) fun _ _ _ _ _ _ us hl => match us, hl with | [], _ => rfl
  have B14 := F14.binds (ps := ["number"]) fun _ _ _ _ _ _ us hl => match us, hl with | [_], _ => rfl
  have B15 := F15.binds (ps := ["value"]) fun _ _ _ _ _ _ us hl => match us, hl with | [_], _ => rfl
  have B17 := F17.binds (ps := ["rule"]) fun _ _ _ _ _ _ us hl => match us, hl with | [_], _ => rfl
  have B19 := F19.binds (ps := ["script"]) fun _ _ _ _ _ _ us hl => match us, hl with | [_], _ => rfl
  have B20 := F20.binds (ps := ["values"]) fun _ _ _ _ _ _ us hl => match us, hl with | [_], _ => rfl
  have B21 := F21.binds (ps := ["cell"]) fun _ _ _ _ _ _ us hl => match us, hl with | [_], _ => rfl
  have B22 := F22.binds (ps := ["number"]) fun _ _ _ _ _ _ us hl => match us, hl with | [_], _ => rfl
  have B23 := F23.binds (ps := ["number"]) fun _ _ _ _ _ _ us hl => match us, hl with | [_], _ => rfl
  have lx4_1 : xs4.length = 1 := by have := (hr4 [] (fun _ => none)).length; exact this.symm
  have D4_1 : Dfl L 4 [.non] := by
    obtain ⟨ds, h1, h2⟩ := F4.binds1 (ps := ["self", "values"]) 1 0 (by intro z; rw [z] at lx4_1; cases lx4_1) (by rw [lx4_1]; rfl) fun T kV doc pm an cdv ct us its hu hi => (by
      rw [lx4_1] at hi
      match us, hu, its, hi with
      | [_], _, [_], _ => exact ⟨_, rfl, rfl⟩)
    exact ⟨ds, _, h2, h1, fun ρ H => (hr4 ρ H).drop 0⟩
  have lkok : LkOk L := by
    refine ⟨nmsN, ?_, ?_, ?_⟩
    · exact by
        intro f d h
        have h : tabD f = some d := h
        unfold tabD at h
        split at h
        · exact k1
        · exact k3
        · exact k4
        · exact k5
        · exact k6
        · exact k7
        · exact k8
        · exact k10
        · exact k11
        · exact k12
        · exact k13
        · exact k14
        · exact k15
        · exact k17
        · exact k19
        · exact k20
        · exact k21
        · exact k22
        · exact k23
        · cases h
    · exact by
        intro f d h
        have h : tabD f = some d := h
        unfold tabD at h
        split at h
        · exact B1
        · exact B3
        · exact B4
        · exact B5
        · exact B6
        · exact B7
        · exact B8
        · exact B10
        · exact B11
        · exact B12
        · exact B13
        · exact B14
        · exact B15
        · exact B17
        · exact B19
        · exact B20
        · exact B21
        · exact B22
        · exact B23
        · cases h
    · intro c ci h
      have h : tabC c = some ci := h
      unfold tabC at h
      split at h
      · cases h
        refine ⟨C0, rfl, ⟨pg0, hd0, po0, sa0⟩, sf0, nq0, ?_, ?_, ?_⟩
        · intro f hf
          have hf : f ∈ ([14] : List Nat) := hf
          simp only [List.mem_cons, List.not_mem_nil, or_false] at hf
          subst hf
          exact ⟨_, rfl, na0_14⟩
        · intro m f hm
          refine lookAll (l := [(6, 7), (7, 8)]) (P := fun m f => ∃ nm, L.names[m]? = some nm ∧ Meth L.K C0 nm (L.fn f).a ∧ ∃ d, L.T.defs f = some d) ?_ hm
          intro p hp
          simp only [List.mem_cons, List.not_mem_nil, or_false] at hp
          rcases hp with rfl | rfl
          · exact ⟨_, rfl, ⟨a7, is7, k7⟩, _, rfl⟩
          · exact ⟨_, rfl, ⟨a8, is8, k8⟩, _, rfl⟩
        · intro f hf
          cases hf
          exact ⟨⟨mk0, a4, is4, kc0⟩, _, rfl⟩
      · cases h
  have prp : PrpOk L := by
    intro c ci m f h hm
    have h : tabC c = some ci := h
    unfold tabC at h
    split at h
    · cases h
      refine lookAll (l := [(13, 6)]) (P := fun m f => ∃ C nm p, L.caddr 0 = some C ∧ L.names[m]? = some nm ∧ PropOf L.K C nm p (L.fn f).a ∧ ∃ d, L.T.defs f = some d) ?_ hm
      intro p hp
      simp only [List.mem_cons, List.not_mem_nil, or_false] at hp
      subst hp
      exact ⟨C0, _, _, rfl, rfl, ⟨pa6, pb6, pc6, _, pd6⟩, _, rfl⟩
    · cases h
  have fnin : ∀ f d, L.T.defs f = some d → PySem.W.fnIn L.K (L.fn f).a = true := by
        intro f d h
        have h : tabD f = some d := h
        unfold tabD at h
        split at h
        · exact fi1
        · exact fi3
        · exact fi4
        · exact fi5
        · exact fi6
        · exact fi7
        · exact fi8
        · exact fi10
        · exact fi11
        · exact fi12
        · exact fi13
        · exact fi14
        · exact fi15
        · exact fi17
        · exact fi19
        · exact fi20
        · exact fi21
        · exact fi22
        · exact fi23
        · cases h
  have isi0 : IsisOk L 0 := by
    intro c ci C D h hC hD
    have h : tabC c = some ci := h
    unfold tabC at h
    split at h
    · cases hC; cases hD; exact ⟨⟨ia0, io, it_, im0⟩, ik0_0⟩
    · cases h
  have try0 : TryOk L (.ref (ca 1)) (tyT0 ca) [(1, true), (2, false)] [(1, [(1000, false), (1001, false), (1002, false), (1003, false), (1004, false), (1005, false), (1006, false), (1007, false), (1008, false), (1009, false), (1010, true), (1011, true)])] := by
    refine ⟨fun c b Ca h => lookAllP (P := fun c b => ∀ Ca, L.caddr c = some Ca → PySem.W.exmOne L.K (.ref Ca) (.ref (ca 1)) = some b) ?_ h Ca, fun c l Ca h => lookAllP (P := fun c l => ∀ Ca, L.caddr c = some Ca → ExcC L.K Ca ∧ ∀ t b, l.lookup t = some b → PySem.W.kitOne L.K (.ref Ca) (tyT0 ca t) = some b) ?_ h Ca⟩
    · skip
      intro p hp
      simp only [List.mem_cons, List.not_mem_nil, or_false] at hp
      rcases hp with rfl | rfl
      · intro Ca hC; cases hC; exact th0_1
      · intro Ca hC; cases hC; exact th0_2
    · skip
      intro p hp
      simp only [List.mem_cons, List.not_mem_nil, or_false] at hp
      subst hp
      · intro Ca hC; cases hC; exact ⟨⟨xg1, xa1, xs1_, xd1, xc1, xio, xit, xm1⟩, fun t b h => lookAllP (P := fun t b => PySem.W.kitOne L.K (.ref C1) (tyT0 ca t) = some b) (by intro p hp; simp only [List.mem_cons, List.not_mem_nil, or_false] at hp; rcases hp with rfl | rfl | rfl | rfl | rfl | rfl | rfl | rfl | rfl | rfl | rfl | rfl <;> first  | exact tq0_1_0 | exact tq0_1_1 | exact tq0_1_2 | exact tq0_1_3 | exact tq0_1_4 | exact tq0_1_5 | exact tq0_1_6 | exact tq0_1_7 | exact tq0_1_8 | exact tq0_1_9 | exact tq0_1_10 | exact tq0_1_11) h⟩
  have facts : Facts L ca cv := ⟨rfl, rfl, PySem.W.ns_none_of X G bl_ValueError, PySem.W.ns_none_of X G bl_bool, PySem.W.ns_none_of X G bl_enumerate, PySem.W.ns_none_of X G bl_int, PySem.W.ns_none_of X G bl_isinstance, PySem.W.ns_none_of X G bl_len, PySem.W.ns_none_of X G bl_list, PySem.W.ns_none_of X G bl_range, PySem.W.ns_none_of X G bl_str, PySem.W.ns_none_of X G bl_tuple, PySem.W.mg_of X G a1, PySem.W.mg_of X G a3, PySem.W.mg_of X G a10, PySem.W.mg_of X G a11, PySem.W.mg_of X G a12, PySem.W.mg_of X G a13, PySem.W.mg_of X G a14, PySem.W.mg_of X G a15, PySem.W.mg_of X G a17, PySem.W.mg_of X G a19, PySem.W.mg_of X G a20, PySem.W.mg_of X G a21, PySem.W.mg_of X G a22, PySem.W.mg_of X G a23, PySem.W.mg_of X G aC0, rfl, PySem.W.mg_of X G ac0, kv0, PySem.W.mg_of X G ac1, kv1, PySem.W.mg_of X G ac2, kv2, fnin, prp, D4_1, ⟨_, _, _, ⟨sb5_, sc5_⟩, sa5_, sd5_, se5_, rfl⟩, isi0, PySem.W.mg_of X G aC1, rfl, PySem.W.mg_of X G aC2, rfl, PySem.W.mg_of X G aC3, rfl, PySem.W.mg_of X G aC4, rfl, PySem.W.mg_of X G aC5, rfl, PySem.W.mg_of X G aC6, rfl, PySem.W.mg_of X G aC7, rfl, PySem.W.mg_of X G aC8, rfl, PySem.W.mg_of X G aC9, rfl, PySem.W.mg_of X G aC10, rfl, PySem.W.mg_of X G aC11, rfl, PySem.W.mg_of X G aC12, rfl, ⟨xq1, xk1, xs1_, xt1⟩, ⟨xq2, xk2, xs2_, xt2⟩, try0, ⟨_, _, ⟨rbcc0_COUNT, rccc0_COUNT⟩, rdcc0_COUNT, recc0_COUNT⟩⟩
  have itok : ∀ base, ItOk L base := by
    intro base c ci f h hf
    have h : tabC c = some ci := h
    unfold tabC at h
    split at h
    · cases h; cases hf
    · cases h
  refine ⟨PySem.W.fnOf "law" "law" (defArgs st19) (defBody st19) (defScope st19) .none kV19 dc19 pm19 an19 cd19 ct19, fun s v => .of_eq rfl, fun base _ _ => ?_⟩
  have dok : ∀ f d, L.T.defs f = some d → DefOk L base f d := by
        intro f d h
        have h : tabD f = some d := h
        unfold tabD at h
        split at h
        · cases h; exact ⟨"values_of", "values_of", st1, nm1, _, Fun.toD F1, ss1, rfl, rfl, fun Γ W k cdv A outer s H E G => b1 facts G⟩
        · cases h; exact ⟨"values_of_number", "values_of_number", st3, nm3, _, Fun.toD F3, ss3, rfl, rfl, fun Γ W k cdv A outer s H E G => b3 facts G⟩
        · cases h; exact ⟨"__init__", "Rule.__init__", st4, nm4, _, F4, ss4, rfl, rfl, fun Γ W k cdv A outer s H E G => b4 facts G⟩
        · cases h; exact ⟨"from_number", "Rule.from_number", st5, nm5, _, Fun.toD F5, ss5, rfl, rfl, fun Γ W k cdv A outer s H E G => b5 facts G⟩
        · cases h; exact ⟨"number", "Rule.number", st6, nm6, _, Fun.toD F6, ss6, rfl, rfl, fun Γ W k cdv A outer s H E G => b6 facts G⟩
        · cases h; exact ⟨"__getitem__", "Rule.__getitem__", st7, nm7, _, Fun.toD F7, ss7, rfl, rfl, fun Γ W k cdv A outer s H E G => b7 facts G⟩
        · cases h; exact ⟨"__setitem__", "Rule.__setitem__", st8, nm8, _, Fun.toD F8, ss8, rfl, rfl, fun Γ W k cdv A outer s H E G => b8 facts G⟩
        · cases h; exact ⟨"_law_cell", "_law_cell", st10, nm10, _, Fun.toD F10, ss10, rfl, rfl, fun Γ W k cdv A outer s H E G => b10 facts G⟩
        · cases h; exact ⟨"_law_whole", "_law_whole", st11, nm11, _, Fun.toD F11, ss11, rfl, rfl, fun Γ W k cdv A outer s H E G => b11 facts G⟩
        · cases h; exact ⟨"_law_same", "_law_same", st12, nm12, _, Fun.toD F12, ss12, rfl, rfl, fun Γ W k cdv A outer s H E G => b12 facts G⟩
        · cases h; exact ⟨"_law_keys", "_law_keys", st13, nm13, _, Fun.toD F13, ss13, rfl, rfl, fun Γ W k cdv A outer s H E G => b13 facts G⟩
        · cases h; exact ⟨"_law_values", "_law_values", st14, nm14, _, Fun.toD F14, ss14, rfl, rfl, fun Γ W k cdv A outer s H E G => b14 facts G⟩
        · cases h; exact ⟨"_law_other", "_law_other", st15, nm15, _, Fun.toD F15, ss15, rfl, rfl, fun Γ W k cdv A outer s H E G => b15 facts G⟩
        · cases h; exact ⟨"_law_entries", "_law_entries", st17, nm17, _, Fun.toD F17, ss17, rfl, rfl, fun Γ W k cdv A outer s H E G => b17 facts G⟩
        · cases h; exact ⟨"law", "law", st19, nm19, _, Fun.toD F19, ss19, rfl, rfl, fun Γ W k cdv A outer s H E G => b19 facts G⟩
        · cases h; exact ⟨"_law_number", "_law_number", st20, nm20, _, Fun.toD F20, ss20, rfl, rfl, fun Γ W k cdv A outer s H E G => b20 facts G⟩
        · cases h; exact ⟨"_law_cut", "_law_cut", st21, nm21, _, Fun.toD F21, ss21, rfl, rfl, fun Γ W k cdv A outer s H E G => b21 facts G⟩
        · cases h; exact ⟨"_law_refused", "_law_refused", st22, nm22, _, Fun.toD F22, ss22, rfl, rfl, fun Γ W k cdv A outer s H E G => b22 facts G⟩
        · cases h; exact ⟨"_law_asked", "_law_asked", st23, nm23, _, Fun.toD F23, ss23, rfl, rfl, fun Γ W k cdv A outer s H E G => b23 facts G⟩
        · cases h
  have AO := all_ok (fuel := 0) rfl lkok (itok base) dok 12 19 _ rfl
  refine FnOk.imp (sp := spM L (callM tab 0 12) 19) AO fun vs H Q E ⟨a, ns, ev, hq, hO, hl, q⟩ => ?_
  obtain ⟨S, hS⟩ := hlaw ns hl
  exact law_sp (L := L) ev hq hO hS q
end Lw
end
section
set_option Elab.async false
set_option linter.all false
set_option maxRecDepth 100000
set_option maxHeartbeats 4000000
namespace Lw
open PySem PySem.Spec L2 ItX C
open PyProof.Rows hiding St
theorem walk {l : PySem.W.OpenLaw} {q : Program} {loose : List Str} {XP : (Str → Option Value) → Heap → Prop} {YP : World → Heap → Prop} {d : DefRec} {K : Params → PySem.W.Frag} (hn : l.most = some 63) (hdf : d.params.defaults = [])
    (hY : ∀ (w : World) (h : Heap), YP w h → (K w.params).In h)
    (F : ∀ (w : World) (mg : Str → Option Value) (fa : Addr) (h : Heap), (K w.params).In h → h.Ns mainGlobals mg → mg d.name = some (.ref fa) →
      ∃ fd : FuncData, (∀ (s : Shared) (u : Value), BindsTo s fd ⟨[u], []⟩ [("script", u)]) ∧ ∀ base : Heap, (K w.params).In base → base.Ns mainGlobals mg → FnOk l.prog w (K w.params) mg base (L2.CX l.prog w) 30 fa fd ["script"] (spLaw (K w.params))) :
    PySem.W.WalkO q loose XP YP l.row.toRowW d [] (fun f vs => PySem.call f vs) :=
  L2.walk_of (n := 63) (k := 30) (x := "script") (CX := fun w => L2.CX l.prog w) (sp := fun w => spLaw (K w.params)) hn (by decide) hdf ⟨rfl, by decide, by decide⟩ hY F (fun w H a ns hl hO hS => ⟨a, ns, rfl, hS, hO, hl, fun _ => rfl⟩) fun w H s e s' z => no_exc z
end Lw
open PySem PySem.W PyProof.Rows
set_option maxRecDepth 100000 in
set_option maxHeartbeats 0 in
theorem PySem.Challenge.cw_unshuffled_k07_rules_numbered_holds : PySem.Challenge.rw_unshuffled_k07_rules_numbered.Holds := by
  w_on; o_law; k_head; (case hw => w_witness2)
  k_fill
  refine Lw.walk (l := PySem.Challenge.rw_unshuffled_k07_rules_numbered) rfl rfl (fun w h Y => PySem.W.kIn_of Y) ?F
  case F =>
    intro w mg fa h KX G hmg
    refine' Lw.all_mk KX G hmg ?aC0 ?ac0 ?kv0 ?ac1 ?kv1 ?ac2 ?kv2 ?a1 ?l1 ?c1 ?k1 ?fi1 ?a3 ?l3 ?c3 ?k3 ?fi3 ?a4 ?is4 ?l4 ?c4 ?k4 ?fi4 ?dl4 ?dk4 ?sa5_ ?sb5_ ?sc5_ ?sd5_ ?se5_ ?l5 ?c5 ?k5 ?fi5 ?pa6 ?pb6 ?pc6 ?pd6 ?l6 ?c6 ?k6 ?fi6 ?a7 ?is7 ?l7 ?c7 ?k7 ?fi7 ?a8 ?is8 ?l8 ?c8 ?k8 ?fi8 ?a10 ?l10 ?c10 ?k10 ?fi10 ?a11 ?l11 ?c11 ?k11 ?fi11 ?a12 ?l12 ?c12 ?k12 ?fi12 ?a13 ?l13 ?c13 ?k13 ?fi13 ?a14 ?l14 ?c14 ?k14 ?fi14 ?a15 ?l15 ?c15 ?k15 ?fi15 ?a17 ?l17 ?c17 ?k17 ?fi17 ?a19 ?l19 ?c19 ?k19 ?fi19 ?a20 ?l20 ?c20 ?k20 ?fi20 ?a21 ?l21 ?c21 ?k21 ?fi21 ?a22 ?l22 ?c22 ?k22 ?fi22 ?a23 ?l23 ?c23 ?k23 ?fi23 ?pg0 ?hd0 ?po0 ?sa0 ?mk0 ?kc0 ?sf0 ?nq0 ?ia0 ?im0 ?ik0_0 ?na0_14 ?io ?it_ ?aC1 ?aC2 ?aC3 ?aC4 ?aC5 ?aC6 ?aC7 ?aC8 ?aC9 ?aC10 ?aC11 ?aC12 ?xq1 ?xk1 ?xs1_ ?xt1 ?xg1 ?xa1 ?xd1 ?xc1 ?xm1 ?xq2 ?xk2 ?xs2_ ?xt2 ?xg2 ?xa2 ?xd2 ?xc2 ?xm2 ?xio ?xit ?th0_1 ?th0_2 ?tq0_1_0 ?tq0_1_1 ?tq0_1_2 ?tq0_1_3 ?tq0_1_4 ?tq0_1_5 ?tq0_1_6 ?tq0_1_7 ?tq0_1_8 ?tq0_1_9 ?tq0_1_10 ?tq0_1_11 ?racc0_COUNT ?rbcc0_COUNT ?rccc0_COUNT ?rdcc0_COUNT ?recc0_COUNT ?bl_ValueError ?bl_bool ?bl_enumerate ?bl_int ?bl_isinstance ?bl_len ?bl_list ?bl_range ?bl_str ?bl_tuple Lw.law_ok
    (case aC0 => k_is)
    (case ac0 => k_is)
    (case kv0 => first | kernel_rfl | rfl)
    (case ac1 => k_is)
    (case kv1 => first | kernel_rfl | rfl)
    (case ac2 => k_is)
    (case kv2 => first | kernel_rfl | rfl)
    (case a1 => k_is)
    (case l1 => k_is)
    (case c1 => k_is)
    (case k1 => k_is)
    (case fi1 => k_is)
    (case a3 => k_is)
    (case l3 => k_is)
    (case c3 => k_is)
    (case k3 => k_is)
    (case fi3 => k_is)
    (case a4 => k_is)
    (case is4 => k_is)
    (case l4 => k_is)
    (case c4 => k_is)
    (case k4 => k_is)
    (case fi4 => k_is)
    (case dl4 => k_is)
    (case dk4 => first | kernel_rfl | rfl)
    (case sa5_ => k_is)
    (case sb5_ => k_is)
    (case sc5_ => k_is)
    (case sd5_ => k_is)
    (case se5_ => k_is)
    (case l5 => k_is)
    (case c5 => k_is)
    (case k5 => k_is)
    (case fi5 => k_is)
    (case pa6 => k_is)
    (case pb6 => k_is)
    (case pc6 => k_is)
    (case pd6 => k_is)
    (case l6 => k_is)
    (case c6 => k_is)
    (case k6 => k_is)
    (case fi6 => k_is)
    (case a7 => k_is)
    (case is7 => k_is)
    (case l7 => k_is)
    (case c7 => k_is)
    (case k7 => k_is)
    (case fi7 => k_is)
    (case a8 => k_is)
    (case is8 => k_is)
    (case l8 => k_is)
    (case c8 => k_is)
    (case k8 => k_is)
    (case fi8 => k_is)
    (case a10 => k_is)
    (case l10 => k_is)
    (case c10 => k_is)
    (case k10 => k_is)
    (case fi10 => k_is)
    (case a11 => k_is)
    (case l11 => k_is)
    (case c11 => k_is)
    (case k11 => k_is)
    (case fi11 => k_is)
    (case a12 => k_is)
    (case l12 => k_is)
    (case c12 => k_is)
    (case k12 => k_is)
    (case fi12 => k_is)
    (case a13 => k_is)
    (case l13 => k_is)
    (case c13 => k_is)
    (case k13 => k_is)
    (case fi13 => k_is)
    (case a14 => k_is)
    (case l14 => k_is)
    (case c14 => k_is)
    (case k14 => k_is)
    (case fi14 => k_is)
    (case a15 => k_is)
    (case l15 => k_is)
    (case c15 => k_is)
    (case k15 => k_is)
    (case fi15 => k_is)
    (case a17 => k_is)
    (case l17 => k_is)
    (case c17 => k_is)
    (case k17 => k_is)
    (case fi17 => k_is)
    (case a19 => k_is)
    (case l19 => k_is)
    (case c19 => k_is)
    (case k19 => k_is)
    (case fi19 => k_is)
    (case a20 => k_is)
    (case l20 => k_is)
    (case c20 => k_is)
    (case k20 => k_is)
    (case fi20 => k_is)
    (case a21 => k_is)
    (case l21 => k_is)
    (case c21 => k_is)
    (case k21 => k_is)
    (case fi21 => k_is)
    (case a22 => k_is)
    (case l22 => k_is)
    (case c22 => k_is)
    (case k22 => k_is)
    (case fi22 => k_is)
    (case a23 => k_is)
    (case l23 => k_is)
    (case c23 => k_is)
    (case k23 => k_is)
    (case fi23 => k_is)
    (case pg0 => k_is)
    (case hd0 => k_is)
    (case po0 => k_is)
    (case sa0 => k_is)
    (case mk0 => k_is)
    (case kc0 => k_is)
    (case sf0 => k_is)
    (case nq0 => k_is)
    (case ia0 => k_is)
    (case im0 => k_is)
    (case ik0_0 => first | kernel_rfl | rfl)
    (case na0_14 => k_is)
    (case io => k_is)
    (case it_ => k_is)
    (case aC1 => k_is)
    (case aC2 => k_is)
    (case aC3 => k_is)
    (case aC4 => k_is)
    (case aC5 => k_is)
    (case aC6 => k_is)
    (case aC7 => k_is)
    (case aC8 => k_is)
    (case aC9 => k_is)
    (case aC10 => k_is)
    (case aC11 => k_is)
    (case aC12 => k_is)
    (case xq1 => first | kernel_rfl | rfl)
    (case xk1 => k_is)
    (case xs1_ => k_is)
    (case xt1 => k_is)
    (case xg1 => k_is)
    (case xa1 => k_is)
    (case xd1 => k_is)
    (case xc1 => k_is)
    (case xm1 => k_is)
    (case xq2 => first | kernel_rfl | rfl)
    (case xk2 => k_is)
    (case xs2_ => k_is)
    (case xt2 => k_is)
    (case xg2 => k_is)
    (case xa2 => k_is)
    (case xd2 => k_is)
    (case xc2 => k_is)
    (case xm2 => k_is)
    (case xio => k_is)
    (case xit => k_is)
    (case th0_1 => first | kernel_rfl | rfl)
    (case th0_2 => first | kernel_rfl | rfl)
    (case tq0_1_0 => first | kernel_rfl | rfl)
    (case tq0_1_1 => first | kernel_rfl | rfl)
    (case tq0_1_2 => first | kernel_rfl | rfl)
    (case tq0_1_3 => first | kernel_rfl | rfl)
    (case tq0_1_4 => first | kernel_rfl | rfl)
    (case tq0_1_5 => first | kernel_rfl | rfl)
    (case tq0_1_6 => first | kernel_rfl | rfl)
    (case tq0_1_7 => first | kernel_rfl | rfl)
    (case tq0_1_8 => first | kernel_rfl | rfl)
    (case tq0_1_9 => first | kernel_rfl | rfl)
    (case tq0_1_10 => first | kernel_rfl | rfl)
    (case tq0_1_11 => first | kernel_rfl | rfl)
    (case racc0_COUNT => k_is)
    (case rbcc0_COUNT => k_is)
    (case rccc0_COUNT => k_is)
    (case rdcc0_COUNT => k_is)
    (case recc0_COUNT => first | kernel_rfl | rfl)
    (case bl_ValueError => k_is)
    (case bl_bool => k_is)
    (case bl_enumerate => k_is)
    (case bl_int => k_is)
    (case bl_isinstance => k_is)
    (case bl_len => k_is)
    (case bl_list => k_is)
    (case bl_range => k_is)
    (case bl_str => k_is)
    (case bl_tuple => k_is)
end
