import PyProof.Rows.All
import Wide.All
import OpenK.AllK
import Wide.FinOn
import PySem.Str
import HandS.ForMost
import HandS.Exc
import KE.KDictKeyed
import HandS.TupAny
import HandS.TupMul
import HandS.Wide
import HandS.IsInst
import HandS.NoneIn
import HandS.Style
import HandS.Rev
import HandS.Conv
import HandS.TupLe
import KE.DataCmp
import HandS.CallSlots
import HandS.WordsExc
import HandS.Deep
import HandS.More
import HandS.Zip
import HandS.Comp
import KE.KDictWalk
import HandS.Iter
import PyProof.SumAny
import KE.KDictDisplayH
import HandS.ExcOwn
import HandS.Words
import HandS.Ends
import PySem.Challenge.RW_anywriting_k03_whole_numbers_written
set_option Elab.async false
set_option linter.all false
set_option maxRecDepth 100000
set_option maxHeartbeats 1000000
set_option linter.all false
/-! The mini level: values, objects, the ends of a run; the operations. -/
namespace Y
open PySem (Str)

/-- a value: tuples are values; what may change is an object, numbered -/
inductive D where
  | non
  | bl (b : Bool)
  | int (i : Int)
  | str (x : Str)
  | tup (ds : List D)
  | ref (n : Nat)
  | gl (x : String)
  | ty (x : String)

namespace D
mutual
def beq : D → D → Bool
  | .non, .non => true
  | .bl a, .bl b => decide (a = b)
  | .int a, .int b => decide (a = b)
  | .str a, .str b => decide (a = b)
  | .tup a, .tup b => beqL a b
  | .ref a, .ref b => decide (a = b)
  | .gl a, .gl b => decide (a = b)
  | .ty a, .ty b => decide (a = b)
  | _, _ => false
def beqL : List D → List D → Bool
  | [], [] => true
  | a :: as, b :: bs => beq a b && beqL as bs
  | _, _ => false
end
mutual
theorem beq_self : ∀ a : D, beq a a = true
  | .non => rfl
  | .bl _ => by simp [beq]
  | .int _ => by simp [beq]
  | .str _ => by simp [beq]
  | .tup a => by rw [beq]; exact beqL_self a
  | .ref _ => by simp [beq]
  | .gl _ => by simp [beq]
  | .ty _ => by simp [beq]
theorem beqL_self : ∀ a : List D, beqL a a = true
  | [] => rfl
  | a :: as => by rw [beqL, beq_self a, beqL_self as]; rfl
end
mutual
theorem eq_of_beq : ∀ a b : D, beq a b = true → a = b
  | .non, b, h => by cases b <;> simp [beq] at h ⊢
  | .bl _, b, h => by cases b <;> simp [beq] at h ⊢; exact h
  | .int _, b, h => by cases b <;> simp [beq] at h ⊢; exact h
  | .str _, b, h => by cases b <;> simp [beq] at h ⊢; exact h
  | .tup a, .tup b, h => by rw [beq] at h; rw [eq_of_beqL a b h]
  | .tup a, .non, h => by simp [beq] at h
  | .tup a, .bl _, h => by simp [beq] at h
  | .tup a, .int _, h => by simp [beq] at h
  | .tup a, .str _, h => by simp [beq] at h
  | .tup a, .ref _, h => by simp [beq] at h
  | .tup a, .gl _, h => by simp [beq] at h
  | .tup a, .ty _, h => by simp [beq] at h
  | .ref _, b, h => by cases b <;> simp [beq] at h ⊢; exact h
  | .gl _, b, h => by cases b <;> simp [beq] at h ⊢; exact h
  | .ty _, b, h => by cases b <;> simp [beq] at h ⊢; exact h
theorem eq_of_beqL : ∀ a b : List D, beqL a b = true → a = b
  | [], [], _ => rfl
  | a :: as, b :: bs, h => by
    rw [beqL, Bool.and_eq_true] at h
    rw [eq_of_beq a b h.1, eq_of_beqL as bs h.2]
  | [], _ :: _, h => by simp [beqL] at h
  | _ :: _, [], h => by simp [beqL] at h
end
end D
instance : DecidableEq D := fun a b => if h : D.beq a b = true then .isTrue (D.eq_of_beq a b h) else .isFalse fun e => h (e ▸ D.beq_self a)
instance : Inhabited D := ⟨.non⟩

namespace D
mutual
/-- data alone: no object, no def, no class -/
def pure : D → Bool
  | .tup ds => pureL ds
  | .ref _ => false
  | .gl _ => false
  | .ty _ => false
  | .str x => x.cps.all (· < 0x110000)
  | _ => true
def pureL : List D → Bool
  | [] => true
  | d :: ds => pure d && pureL ds
end
mutual
/-- == of pure values -/
def eqv : D → D → Bool
  | .non, .non => true
  | .bl a, .bl b => decide (a = b)
  | .bl a, .int j => decide ((if a then 1 else 0) = j)
  | .int i, .bl b => decide (i = (if b then 1 else 0))
  | .int i, .int j => decide (i = j)
  | .str x, .str y => decide (x = y)
  | .tup xs, .tup ys => eqvL xs ys
  | _, _ => false
def eqvL : List D → List D → Bool
  | [], [] => true
  | x :: xs, y :: ys => eqv x y && eqvL xs ys
  | _, _ => false
end
mutual
/-- how deep tuples lie in one another -/
def depth : D → Nat
  | .tup ds => depthL ds + 1
  | _ => 0
def depthL : List D → Nat
  | [] => 0
  | d :: ds => max (depth d) (depthL ds)
end
mutual
/-- a key of a dict: ints, texts, None and tuples of such -/
def key : D → Bool
  | .non => true
  | .int _ => true
  | .str _ => true
  | .tup ds => keyL ds
  | _ => false
def keyL : List D → Bool
  | [] => true
  | d :: ds => key d && keyL ds
end
mutual
/-- the objects that are named in it, all from n on are none -/
def under (n : Nat) : D → Bool
  | .tup ds => underL n ds
  | .ref m => decide (m < n)
  | _ => true
def underL (n : Nat) : List D → Bool
  | [] => true
  | d :: ds => under n d && underL n ds
end
def isTup : D → Bool
  | .tup _ => true
  | _ => false
end D

/-- an object -/
inductive Ob where
  /-- a list -/
  | lst (ds : List D)
  /-- a list that is only read (the script) -/
  | ro (ds : List D)
  | dict (kvs : List (D × D))
  /-- a dict while a loop walks it: read, never written -/
  | ldict (kvs : List (D × D))
  /-- an instance of a class of the text -/
  | ins (c : String) (fs : List (String × D))
  deriving DecidableEq

abbrev Hp := List Ob
abbrev Env := List (Option D)

/-- how a piece of a run ends -/
inductive Res (α : Type) where
  | ok (a : α) (h : Hp)
  /-- an exception: its class, its fields -/
  | exc (c : String) (fs : List (String × D)) (h : Hp)
  /-- not told by the mini level -/
  | bad

def Res.bind {α β : Type} (r : Res α) (f : α → Hp → Res β) : Res β :=
  match r with
  | .ok a h => f a h
  | .exc c fs h => .exc c fs h
  | .bad => .bad
@[simp] theorem Res.bind_ok {α β : Type} (a : α) (h : Hp) (f : α → Hp → Res β) : (Res.ok a h).bind f = f a h := rfl
@[simp] theorem Res.bind_exc {α β : Type} (c : String) (fs : List (String × D)) (h : Hp) (f : α → Hp → Res β) : (Res.exc c fs h : Res α).bind f = .exc c fs h := rfl
@[simp] theorem Res.bind_bad {α β : Type} (f : α → Hp → Res β) : (Res.bad : Res α).bind f = .bad := rfl

/-- how a statement ends -/
inductive RS where
  | nx (ρ : Env) (h : Hp)
  | rt (d : D) (h : Hp)
  | bk (ρ : Env) (h : Hp)
  | ct (ρ : Env) (h : Hp)
  | ex (c : String) (fs : List (String × D)) (ρ : Env) (h : Hp)
  | bad

def RS.seq (r : RS) (f : Env → Hp → RS) : RS :=
  match r with
  | .nx ρ h => f ρ h
  | r => r
@[simp] theorem RS.seq_nx (ρ : Env) (h : Hp) (f : Env → Hp → RS) : (RS.nx ρ h).seq f = f ρ h := rfl
@[simp] theorem RS.seq_rt (d : D) (h : Hp) (f : Env → Hp → RS) : (RS.rt d h).seq f = .rt d h := rfl
@[simp] theorem RS.seq_bk (ρ : Env) (h : Hp) (f : Env → Hp → RS) : (RS.bk ρ h).seq f = .bk ρ h := rfl
@[simp] theorem RS.seq_ct (ρ : Env) (h : Hp) (f : Env → Hp → RS) : (RS.ct ρ h).seq f = .ct ρ h := rfl
@[simp] theorem RS.seq_ex (c : String) (fs : List (String × D)) (ρ : Env) (h : Hp) (f : Env → Hp → RS) : (RS.ex c fs ρ h).seq f = .ex c fs ρ h := rfl
@[simp] theorem RS.seq_bad (f : Env → Hp → RS) : RS.bad.seq f = .bad := rfl
/-- an expression's value goes into a statement's end -/
def Res.into {α : Type} (r : Res α) (ρ : Env) (f : α → Hp → RS) : RS :=
  match r with
  | .ok a h => f a h
  | .exc c fs h => .ex c fs ρ h
  | .bad => .bad
@[simp] theorem Res.into_ok {α : Type} (a : α) (h : Hp) (ρ : Env) (f : α → Hp → RS) : (Res.ok a h).into ρ f = f a h := rfl
@[simp] theorem Res.into_exc {α : Type} (c : String) (fs : List (String × D)) (h : Hp) (ρ : Env) (f : α → Hp → RS) : (Res.exc c fs h : Res α).into ρ f = .ex c fs ρ h := rfl
@[simp] theorem Res.into_bad {α : Type} (ρ : Env) (f : α → Hp → RS) : (Res.bad : Res α).into ρ f = .bad := rfl

/-- sizes that lists, texts, dicts keep below -/
def line : Nat := 16777216
/-- factors of a product keep below 2 ^ (2 ^ 20), divisors below 2 ^ 9000 -/
def mulOk (i j : Int) : Bool := (decide (i.natAbs.log2 < 1000000) && decide (j.natAbs.log2 < 1000000))
def divOk (j : Int) : Bool := decide (0 < j) && decide (j.natAbs.log2 < 9000)

inductive Op where
  | add | sub | mul | fdiv | mod | pow
  deriving DecidableEq
inductive Cm where
  | eq | ne | lt | le | gt | ge | is | isn | in_ | nin
  deriving DecidableEq

/-- a new object -/
def new (o : Ob) (h : Hp) : Res D := .ok (.ref h.length) (h ++ [o])

def rep (xs : List D) (k : Int) : List D := (List.replicate k.toNat xs).flatten

def binop (o : Op) (x y : D) (h : Hp) : Res D :=
  match o, x, y with
  | .add, .int i, .int j => .ok (.int (i + j)) h
  | .add, .str a, .str b => if a.length + b.length ≤ line then .ok (.str (a ++ b)) h else .bad
  | .add, .tup a, .tup b => if a.length + b.length ≤ line then .ok (.tup (a ++ b)) h else .bad
  | .add, .ref m, .ref n =>
    match h[m]?, h[n]? with
    | some (.lst a), some (.lst b) => if a.length + b.length ≤ line then new (.lst (a ++ b)) h else .bad
    | _, _ => .bad
  | .sub, .int i, .int j => .ok (.int (i - j)) h
  | .mul, .int i, .int j => if mulOk i j then .ok (.int (i * j)) h else .bad
  | .mul, .ref m, .int j =>
    match h[m]? with
    | some (.lst a) => if decide (-(2 ^ 62) ≤ j) && decide (j < 2 ^ 62) && decide (a.length * j.toNat ≤ line) then new (.lst (rep a j)) h else .bad
    | _ => .bad
  | .mul, .tup a, .int j => if decide (a ≠ []) && decide (2 ≤ j) && decide (j ≤ 1000) && decide (a.length ≤ 1000) then .ok (.tup (rep a j)) h else .bad
  | .fdiv, .int i, .int j => if divOk j then .ok (.int (i / j)) h else .bad
  | .mod, .int i, .int j => if 0 < j then .ok (.int (i % j)) h else .bad
  | .pow, .int i, .int j => if decide (0 ≤ j) && decide (j ≤ 1000000) && decide (i.natAbs < 2 ^ 64) then .ok (.int (i ^ j.toNat)) h else .bad
  | _, _, _ => .bad

def truth (x : D) (h : Hp) : Option Bool :=
  match x with
  | .non => some false
  | .bl b => some b
  | .int i => some (decide (i ≠ 0))
  | .str a => if a.length ≤ line then some (decide (a.length ≠ 0)) else none
  | .tup a => some (!a.isEmpty)
  | .ref m =>
    match h[m]? with
    | some (.lst a) => some (!a.isEmpty)
    | some (.ro a) => some (!a.isEmpty)
    | _ => none
  | _ => none
def truthR (x : D) (h : Hp) : Res Bool :=
  match truth x h with
  | some b => .ok b h
  | none => .bad

/-- the place that an index means -/
def place (n : Nat) (i : Int) : Option Nat := if 0 ≤ i then (if i < n then some i.toNat else none) else if -(n : Int) ≤ i then some (i + n).toNat else none
def item {α : Type} (xs : List α) (i : Int) : Option α := (place xs.length i).bind fun j => xs[j]?
/-- a slice's bound among n, d where it is left out -/
def bound (n d : Nat) : Option Int → Nat
  | none => d
  | some v => if v < 0 then (v + (n : Int)).toNat else min v.toNat n
def cut {α : Type} (xs : List α) (lo hi : Option Int) : List α := (xs.drop (bound xs.length 0 lo)).take (bound xs.length xs.length hi - bound xs.length 0 lo)

def ofO {α : Type} (o : Option α) (h : Hp) : Res α :=
  match o with
  | some a => .ok a h
  | none => .bad
@[simp] theorem ofO_some {α : Type} (a : α) (h : Hp) : ofO (some a) h = .ok a h := rfl
@[simp] theorem ofO_none {α : Type} (h : Hp) : ofO (none : Option α) h = .bad := rfl

/-- what a list, a tuple holds -/
def items? (x : D) (h : Hp) : Option (List D) :=
  match x with
  | .tup a => some a
  | .ref m =>
    match h[m]? with
    | some (.lst a) => some a
    | some (.ro a) => some a
    | _ => none
  | _ => none

/-! ### dicts -/
def look (kvs : List (D × D)) (k : D) : Option D :=
  match kvs with
  | [] => none
  | (k', v) :: r => if k' = k then some v else look r k
def put (kvs : List (D × D)) (k v : D) : List (D × D) :=
  match kvs with
  | [] => [(k, v)]
  | (k', v') :: r => if k' = k then (k', v) :: r else (k', v') :: put r k v
def drop (kvs : List (D × D)) (k : D) : List (D × D) :=
  match kvs with
  | [] => []
  | (k', v') :: r => if k' = k then r else (k', v') :: drop r k
/-- what may be a key -/
def keyOk (d : D) : Bool :=
  match d with
  | .int _ => true
  | .str _ => true
  | .tup ds => D.keyL ds && decide (D.depthL ds ≤ 7)
  | _ => false
/-- the key may be asked of this dict: of its keys' kind -/
def keyFor (kvs : List (D × D)) (k : D) : Bool := keyOk k && (match kvs with
  | [] => true
  | kv :: _ => kv.1.isTup == k.isTup)

def index (x y : D) (h : Hp) : Res D :=
  match x, y with
  | .tup a, .int i => ofO (item a i) h
  | .str a, .int i => if a.length ≤ line then (match item a.cps.toList i with | some c => .ok (.str ⟨#[c]⟩) h | none => .bad) else .bad
  | .ref m, k =>
    match h[m]?, k with
    | some (.lst a), .int i => ofO (item a i) h
    | some (.ro a), .int i => ofO (item a i) h
    | some (.dict kvs), k => if keyFor kvs k then ofO (look kvs k) h else .bad
    | some (.ldict kvs), k => if keyFor kvs k then ofO (look kvs k) h else .bad
    | _, _ => .bad
  | _, _ => .bad

def slice (x : D) (lo hi : Option Int) (h : Hp) : Res D :=
  match x with
  | .tup a => .ok (.tup (cut a lo hi)) h
  | .str a => if a.length ≤ line then .ok (.str ⟨(cut a.cps.toList lo hi).toArray⟩) h else .bad
  | .ref m =>
    match h[m]? with
    | some (.lst a) => new (.lst (cut a lo hi)) h
    | some (.ro a) => new (.lst (cut a lo hi)) h
    | _ => .bad
  | _ => .bad
/-- x[::-1] -/
def turned (x : D) (h : Hp) : Res D :=
  match x with
  | .tup a => .ok (.tup a.reverse) h
  | .ref m =>
    match h[m]? with
    | some (.lst a) => new (.lst a.reverse) h
    | _ => .bad
  | _ => .bad

/-! ### comparisons -/
/-- == of two values that are no instances -/
def eq? (x y : D) (h : Hp) : Option Bool :=
  match x, y with
  | .ref m, .ref n =>
    match h[m]?, h[n]? with
    | some (.lst a), some (.lst b) => if D.pureL a && D.pureL b && decide (D.depthL a ≤ 60) && decide (D.depthL b ≤ 60) then some (D.eqvL a b) else none
    | _, _ => none
  | .ref m, y =>
    match h[m]? with
    | some (.lst a) => if D.pureL a && decide (D.depthL a ≤ 60) && y.pure && decide (y.depth ≤ 60) then some false else none
    | _ => none
  | x, .ref n =>
    match h[n]? with
    | some (.lst b) => if D.pureL b && decide (D.depthL b ≤ 60) && x.pure && decide (x.depth ≤ 60) then some false else none
    | _ => none
  | x, y => if x.pure && y.pure && decide (x.depth ≤ 60) && decide (y.depth ≤ 60) then some (x.eqv y) else none

/-- k in (a list's, a tuple's items) -/
def among (k : D) : List D → Bool
  | [] => false
  | x :: xs => x.eqv k || among k xs
def flat : D → Bool
  | .non => true
  | .bl _ => true
  | .int _ => true
  | .str _ => true
  | _ => false
def in? (x y : D) (h : Hp) : Option Bool :=
  match y with
  | .ref m =>
    match h[m]? with
    | some (.dict kvs) => if keyFor kvs x then some (look kvs x).isSome else none
    | some (.ldict kvs) => if keyFor kvs x then some (look kvs x).isSome else none
    | some (.lst a) => if x.pure && D.pureL a && decide (x.depth ≤ 60) && decide (D.depthL a ≤ 60) then some (among x a) else none
    | _ => none
  | .tup a => if flat x && a.all flat then some (among x a) else none
  | _ => none

/-- is, is not: beside None, of two flags -/
def is? (x y : D) : Option Bool :=
  match x, y with
  | _, .non => some (decide (x = .non))
  | .bl a, .bl b => some (decide (a = b))
  | _, _ => none
def intsOf : List D → Option (List Int)
  | [] => some []
  | .int i :: r => (intsOf r).map (i :: ·)
  | _ => none
/-- order of rows of ints -/
def lexLe : List Int → List Int → Bool
  | [], _ => true
  | _ :: _, [] => false
  | a :: l, b :: m => decide (a < b) || (decide (a = b) && lexLe l m)
def leL (x y : D) (h : Hp) : Option Bool :=
  match x, y with
  | .ref m, .ref n =>
    match h[m]?, h[n]? with
    | some (.lst a), some (.lst b) =>
      match intsOf a, intsOf b with
      | some ns, some ms => some (lexLe ns ms)
      | _, _ => none
    | _, _ => none
  | _, _ => none

def cmpI (o : Cm) (i j : Int) : Option Bool :=
  match o with
  | .lt => some (decide (i < j))
  | .le => some (decide (i ≤ j))
  | .gt => some (decide (j < i))
  | .ge => some (decide (j ≤ i))
  | _ => none
def compare (o : Cm) (x y : D) (h : Hp) : Option Bool :=
  match o with
  | .eq => eq? x y h
  | .ne => (eq? x y h).map (!·)
  | .is => is? x y
  | .isn => (is? x y).map (!·)
  | .in_ => in? x y h
  | .nin => (in? x y h).map (!·)
  | .le => match x, y with
    | .int i, .int j => cmpI .le i j
    | x, y => leL x y h
  | o => match x, y with
    | .int i, .int j => cmpI o i j
    | _, _ => none
def compareR (o : Cm) (x y : D) (h : Hp) : Res D :=
  match compare o x y h with
  | some b => .ok (.bl b) h
  | none => .bad
end Y

set_option linter.all false
/-! The mini level: the text, and what it does. -/
namespace Y
open PySem (Str)

/-- the builtins -/
inductive Bi where
  | len | abs | int | min | max | all | any | sum | list | tup
  deriving DecidableEq
/-- the methods of built-in kinds -/
inductive Me where
  | append | extend | pop | insert | index | get
  deriving DecidableEq
/-- what a method's receiver is -/
inductive Kd where
  | lst | dct | str
  deriving DecidableEq

/-- a target: names, nested -/
inductive T where
  | nm (i : Nat)
  | tp (ts : List T)

mutual
/-- an expression -/
inductive E where
  /-- not told -/
  | no
  | c (d : D)
  | v (i : Nat)
  | g (x : String)
  | bin (o : Op) (a b : E)
  | neg (a : E)
  | not (a : C)
  | cmp (o : Cm) (a b : E)
  | cmp2 (o p : Cm) (a b c : E)
  | and (a b : E)
  | or (a b : E)
  | ite (t : C) (a b : E)
  | tup (es : List E)
  | lst (es : List E)
  /-- {}, {k: v} -/
  | dict0
  | dict1 (k v : E)
  | idx (a b : E)
  | slc (a : E) (lo hi : Option E)
  | rev (a : E)
  | att (a : E) (f : String)
  /-- a def or class of the text, by its name -/
  | call (x : String) (es : List E)
  /-- a builtin, by its name -/
  | bi (x : Bi) (es : List E)
  /-- isinstance of classes -/
  | isi (a : E) (ts : List String)
  /-- a method -/
  | mt (a : E) (m : Me) (es : List E)
  /-- list(..), tuple(..) of what is walked; a comprehension -/
  | lof (i : I)
  /-- tuple(reversed(..)) of a list -/
  | trev (a : E)
  /-- sum(..), list(..) of a dict's values -/
  | vls (sum : Bool) (i : Nat)
  | lc (e : E) (t : T) (i : I) (cs : List C)
/-- a test -/
inductive C where
  | and (a b : C)
  | or (a b : C)
  | not (a : C)
  | tr (e : E)
/-- what is walked -/
inductive I where
  | no
  | val (e : E)
  /-- a name: a dict, too -/
  | var (i : Nat)
  | rng (a : E)
  | rng2 (a b : E)
  | enum (e : E)
  | zip (a b : E)
  | revd (e : E)
  | vals (i : Nat)
  | items (i : Nat)
end
/-- a statement -/
inductive S where
  | no
  | asg (t : T) (e : E)
  | aug (i : Nat) (o : Op) (e : E)
  /-- a[b] = e -/
  | sto (a b e : E)
  /-- a.f = e -/
  | fld (a : E) (f : String) (e : E)
  | ex (e : E)
  | iff (c : C) (a b : List S)
  | whl (c : C) (b : List S)
  | for_ (t : T) (i : I) (b : List S)
  | ret (e : E)
  | rs (c : String) (es : List E)
  /-- try, except c (as slot) -/
  | tr (b : List S) (hs : List (String × Option Nat × List S))
  | brk
  | cnt
  | pss

/-! ### targets -/
mutual
def bindT : T → D → Env → Hp → Option Env
  | .nm i, d, ρ, _ => some (ρ.set i (some d))
  | .tp ts, d, ρ, h => match items? d h with
    | some ds => bindTs ts ds ρ h
    | none => none
def bindTs : List T → List D → Env → Hp → Option Env
  | [], [], ρ, _ => some ρ
  | t :: ts, d :: ds, ρ, h => match bindT t d ρ h with
    | some ρ' => bindTs ts ds ρ' h
    | none => none
  | _, _, _, _ => none
end
mutual
def T.slots : T → List Nat
  | .nm i => [i]
  | .tp ts => T.slotsL ts
def T.slotsL : List T → List Nat
  | [] => []
  | t :: ts => t.slots ++ T.slotsL ts
end
/-- the slots of a comprehension's own names forgotten -/
def forget (ρ : Env) : List Nat → Env
  | [] => ρ
  | v :: vs => (forget ρ vs).set v none
/-! ### what is walked -/
structure Src where
  ds : List D
  /-- the lists that are to stay as they are -/
  g : List (Nat × Ob)
  /-- the dict that is locked, and its content -/
  lk : Option (Nat × Ob)
def okG (g : List (Nat × Ob)) (h : Hp) : Bool := g.all fun p => decide (h[p.1]? = some p.2)
def seqOf (d : D) (h : Hp) : Option Src :=
  match d with
  | .tup ds => some ⟨ds, [], none⟩
  | .ref m =>
    match h[m]? with
    | some (.lst ds) => some ⟨ds, [(m, .lst ds)], none⟩
    | some (.ro ds) => some ⟨ds, [(m, .ro ds)], none⟩
    | _ => none
  | .str a => some ⟨a.cps.toList.map fun c => .str ⟨#[c]⟩, [], none⟩
  | _ => none
/-- a dict's pairs, whether it is locked already -/
def dict? (d : D) (h : Hp) : Option (Nat × List (D × D) × Ob) :=
  match d with
  | .ref m =>
    match h[m]? with
    | some (.dict kvs) => some (m, kvs, .dict kvs)
    | some (.ldict kvs) => some (m, kvs, .ldict kvs)
    | _ => none
  | _ => none
def srcOf (d : D) (h : Hp) : Option Src :=
  match dict? d h with
  | some (m, kvs, o) => some ⟨kvs.map (·.1), [], some (m, o)⟩
  | none => seqOf d h
def lockOb : Ob → Ob
  | .dict kvs => .ldict kvs
  | o => o
def locked (s : Src) (h : Hp) : Hp := match s.lk with
  | some (m, o) => h.set m (lockOb o)
  | none => h
/-- the dict is let go behind a walk -/
def RS.unlock (s : Src) (r : RS) : RS := match s.lk with
  | none => r
  | some (m, o) => match r with
    | .nx ρ h => .nx ρ (h.set m o)
    | .rt d h => .rt d (h.set m o)
    | .bk ρ h => .bk ρ (h.set m o)
    | .ct ρ h => .ct ρ (h.set m o)
    | _ => .bad
def Res.unlock {α : Type} (s : Src) (r : Res α) : Res α := match s.lk with
  | none => r
  | some (m, o) => match r with
    | .ok a h => .ok a (h.set m o)
    | _ => .bad
def irange (lo : Int) : Nat → List D
  | 0 => []
  | n + 1 => .int lo :: irange (lo + 1) n
def range1 (d : D) : Option Src :=
  match d with
  | .int n => if decide (-(2 ^ 61) ≤ n) && decide (n ≤ line) then some ⟨irange 0 n.toNat, [], none⟩ else none
  | _ => none
def range2 (d e : D) : Option Src :=
  match d, e with
  | .int a, .int b => if decide (-(2 ^ 61) ≤ a) && decide (a ≤ 2 ^ 61) && decide (-(2 ^ 61) ≤ b) && decide (b ≤ 2 ^ 61) && decide (b - a ≤ line) then some ⟨irange a (b - a).toNat, [], none⟩ else none
  | _, _ => none
def pairs (n : Nat) : List D → List D
  | [] => []
  | d :: ds => .tup [.int n, d] :: pairs (n + 1) ds
def zip2 : List D → List D → List D
  | x :: xs, y :: ys => .tup [x, y] :: zip2 xs ys
  | _, _ => []
def enumOf (d : D) (h : Hp) : Option Src :=
  match d with
  | .ref m =>
    match h[m]? with
    | some (.lst ds) => some ⟨pairs 0 ds, [(m, .lst ds)], none⟩
    | _ => none
  | _ => none
def zipOf (d e : D) (h : Hp) : Option Src :=
  match d, e with
  | .tup ds, .tup es => some ⟨zip2 ds es, [], none⟩
  | .ref m, .ref n =>
    match h[m]?, h[n]? with
    | some (.lst ds), some (.lst es) => some ⟨zip2 ds es, [(m, .lst ds)] ++ [(n, .lst es)], none⟩
    | _, _ => none
  | _, _ => none
def revdOf (d : D) (h : Hp) : Option Src :=
  match d with
  | .tup ds => some ⟨ds.reverse, [], none⟩
  | .ref m =>
    match h[m]? with
    | some (.lst ds) => some ⟨ds.reverse, [(m, .lst ds)], none⟩
    | _ => none
  | _ => none
def valsOf (d : D) (h : Hp) : Option Src := (dict? d h).map fun x => ⟨x.2.1.map (·.2), [], some (x.1, x.2.2)⟩
def itemsOf (d : D) (h : Hp) : Option Src := (dict? d h).map fun x => ⟨x.2.1.map fun kv => .tup [kv.1, kv.2], [], some (x.1, x.2.2)⟩

/-- a for over items -/
def forL (t : T) (g : List (Nat × Ob)) (body : Env → Hp → RS) : List D → Env → Hp → RS
  | [], ρ, h => if okG g h then .nx ρ h else .bad
  | d :: ds, ρ, h =>
    if okG g h then
      match bindT t d ρ h with
      | none => .bad
      | some ρ' => match body ρ' h with
        | .nx ρ'' h' => forL t g body ds ρ'' h'
        | .ct ρ'' h' => forL t g body ds ρ'' h'
        | .bk ρ'' h' => .nx ρ'' h'
        | r => r
    else .bad
/-- a comprehension over items: the tests, then the item -/
def lcL (t : T) (g : List (Nat × Ob)) (test : Env → Hp → Res Bool) (elt : Env → Hp → Res D) (ρ : Env) : List D → Hp → Res (List D)
  | [], h => if okG g h then .ok [] h else .bad
  | d :: ds, h =>
    if okG g h then
      match bindT t d ρ h with
      | none => .bad
      | some ρ' => match test ρ' h with
        | .ok true h1 => match elt ρ' h1 with
          | .ok x h2 => match lcL t g test elt ρ ds h2 with
            | .ok xs h3 => .ok (x :: xs) h3
            | _ => .bad
          | _ => .bad
        | .ok false h1 => lcL t g test elt ρ ds h1
        | _ => .bad
    else .bad
/-- a while, by its fuel -/
def whlN (test : Env → Hp → Res Bool) (body : Env → Hp → RS) : Nat → Env → Hp → Option RS
  | 0, _, _ => none
  | n + 1, ρ, h =>
    match test ρ h with
    | .ok true h1 => match body ρ h1 with
      | .nx ρ' h' => whlN test body n ρ' h'
      | .ct ρ' h' => whlN test body n ρ' h'
      | .bk ρ' h' => some (.nx ρ' h')
      | r => some r
    | .ok false h1 => some (.nx ρ h1)
    | .exc c fs h1 => some (.ex c fs ρ h1)
    | .bad => some .bad

/-! ### builtins -/
def lenOf (x : D) (h : Hp) : Option Nat :=
  match x with
  | .tup a => some a.length
  | .str a => if a.length ≤ line then some a.length else none
  | .ref m =>
    match h[m]? with
    | some (.lst a) => some a.length
    | some (.ro a) => some a.length
    | some (.dict a) => some a.length
    | some (.ldict a) => some a.length
    | _ => none
  | _ => none
def blsOf : List D → Option (List Bool)
  | [] => some []
  | .bl b :: r => (blsOf r).map (b :: ·)
  | _ => none
def maxL : List Int → Int
  | [] => 0
  | [i] => i
  | i :: r => max i (maxL r)
def minL : List Int → Int
  | [] => 0
  | [i] => i
  | i :: r => min i (minL r)
/-- what a list holds -/
def list? (x : D) (h : Hp) : Option (List D) :=
  match x with
  | .ref m =>
    match h[m]? with
    | some (.lst a) => some a
    | some (.ro a) => some a
    | _ => none
  | _ => none
def builtin (x : Bi) (ds : List D) (h : Hp) : Res D :=
  match x with
  | .len => match ds with
    | [d] => (match lenOf d h with
      | some n => .ok (.int n) h
      | none => .bad)
    | _ => .bad
  | .abs => match ds with
    | [.int i] => .ok (.int (if i < 0 then -i else i)) h
    | _ => .bad
  | .int => match ds with
    | [.int i] => .ok (.int i) h
    | _ => .bad
  | .min => match ds with
    | [.int i, .int j] => .ok (.int (if j < i then j else i)) h
    | [d] => (match (list? d h).bind intsOf with
      | some (i :: r) => .ok (.int (minL (i :: r))) h
      | _ => .bad)
    | _ => .bad
  | .max => match ds with
    | [.int i, .int j] => .ok (.int (if i < j then j else i)) h
    | [d] => (match (list? d h).bind intsOf with
      | some (i :: r) => .ok (.int (maxL (i :: r))) h
      | _ => .bad)
    | _ => .bad
  | .all => match ds with
    | [d] => (match (list? d h).bind blsOf with
      | some bs => .ok (.bl (bs.all id)) h
      | none => .bad)
    | _ => .bad
  | .any => match ds with
    | [d] => (match (list? d h).bind blsOf with
      | some bs => .ok (.bl (bs.any id)) h
      | none => .bad)
    | _ => .bad
  | .sum => match ds with
    | [d] => (match (list? d h).bind intsOf with
      | some ns => .ok (.int ns.sum) h
      | none => .bad)
    | _ => .bad
  | .list => match ds with
    | [d] => (match items? d h with
      | some xs => new (.lst xs) h
      | none => .bad)
    | _ => .bad
  | .tup => match ds with
    | [d] => (match items? d h with
      | some xs => .ok (.tup xs) h
      | none => .bad)
    | _ => .bad

def six : List String := ["bool", "int", "str", "tuple", "list", "dict"]
/-- the kind of a value, for isinstance -/
def isA (x : D) (t : String) (h : Hp) : Option Bool :=
  match x with
  | .non => some false
  | .bl _ => some (t == "bool" || t == "int")
  | .int _ => some (t == "int")
  | .str _ => some (t == "str")
  | .tup _ => some (t == "tuple")
  | .ref m =>
    match h[m]? with
    | some (.lst _) => some (t == "list")
    | some (.ro _) => some (t == "list")
    | some (.dict _) => some (t == "dict")
    | some (.ldict _) => some (t == "dict")
    | some (.ins c _) => if six.contains t then none else some (t == c)
    | none => none
  | _ => none
def isAny (x : D) (h : Hp) : List String → Option Bool
  | [] => some false
  | t :: ts => match isA x t h, isAny x h ts with
    | some a, some b => some (a || b)
    | _, _ => none

/-! ### methods of the built-in kinds -/
def indexOf (k : D) : List D → Option Nat
  | [] => none
  | x :: xs => if x.eqv k then some 0 else (indexOf k xs).map (· + 1)
def kindOf (x : D) (h : Hp) : Option Kd :=
  match x with
  | .str _ => some .str
  | .ref n =>
    match h[n]? with
    | some (.lst _) => some .lst
    | some (.ro _) => some .lst
    | some (.dict _) => some .dct
    | some (.ldict _) => some .dct
    | _ => none
  | _ => none
def lstM (n : Nat) (a : List D) (m : Me) (ds : List D) (h : Hp) : Res D :=
  match m with
  | .append => match ds with
    | [d] => if a.length < line then .ok .non (h.set n (.lst (a ++ [d]))) else .bad
    | _ => .bad
  | .extend => match ds with
    | [.ref n'] => if n = n' then .bad else (match h[n']? with
      | some (.lst b) => if a.length + b.length ≤ line then .ok .non (h.set n (.lst (a ++ b))) else .bad
      | _ => .bad)
    | _ => .bad
  | .pop => match ds with
    | [] => (match a[a.length - 1]? with
      | some d => .ok d (h.set n (.lst a.dropLast))
      | none => .bad)
    | _ => .bad
  | .insert => match ds with
    | [.int i, d] => if decide (0 ≤ i) && decide (i ≤ a.length) && decide (a.length < line) then .ok .non (h.set n (.lst (a.take i.toNat ++ d :: a.drop i.toNat))) else .bad
    | _ => .bad
  | .index => match ds with
    | [d] => if d.pure && D.pureL a && decide (d.depth ≤ 60) && decide (D.depthL a ≤ 60) then (match indexOf d a with | some j => .ok (.int j) h | none => .bad) else .bad
    | _ => .bad
  | .get => .bad
def dctM (kvs : List (D × D)) (m : Me) (ds : List D) (h : Hp) : Res D :=
  match m with
  | .get => match ds with
    | [k] => if keyFor kvs k then .ok ((look kvs k).getD .non) h else .bad
    | [k, d] => if keyFor kvs k then .ok ((look kvs k).getD d) h else .bad
    | _ => .bad
  | _ => .bad
/-- the kind has the method -/
def has (k : Kd) (m : Me) : Bool :=
  match k, m with
  | .lst, .get => false
  | .lst, _ => true
  | .dct, .get => true
  | _, _ => false
def method (k : Kd) (x : D) (m : Me) (ds : List D) (h : Hp) : Res D :=
  match k, x with
  | .lst, .ref n =>
    match h[n]? with
    | some (.lst a) => lstM n a m ds h
    | _ => .bad
  | .dct, .ref n =>
    match h[n]? with
    | some (.dict kvs) => dctM kvs m ds h
    | some (.ldict kvs) => dctM kvs m ds h
    | _ => .bad
  | _, _ => .bad

/-- a[b] = d -/
def store (a b d : D) (h : Hp) : Option Hp :=
  match a with
  | .ref n =>
    match h[n]?, b with
    | some (.lst xs), .int i => (place xs.length i).map fun j => h.set n (.lst (xs.set j d))
    | some (.dict kvs), k => if keyFor kvs k && decide (kvs.length < line) then some (h.set n (.dict (put kvs k d))) else none
    | _, _ => none
  | _ => none

def lookF (fs : List (String × D)) (f : String) : Option D :=
  match fs with
  | [] => none
  | (f', d) :: r => if f' = f then some d else lookF r f
def putF (fs : List (String × D)) (f : String) (d : D) : List (String × D) :=
  match fs with
  | [] => [(f, d)]
  | (f', d') :: r => if f' = f then (f', d) :: r else (f', d') :: putF r f d
def field (x : D) (f : String) (h : Hp) : Option D :=
  match x with
  | .ref n => match h[n]? with
    | some (.ins _ fs) => lookF fs f
    | _ => none
  | _ => none
def setField (x : D) (f : String) (d : D) (h : Hp) : Option Hp :=
  match x with
  | .ref n => match h[n]? with
    | some (.ins c fs) => if fs.length < 1000 then some (h.set n (.ins c (putF fs f d))) else none
    | _ => none
  | _ => none

/-! ### the run -/
/-- what stands around: the defs and classes of the text, the whiles -/
structure Sg where
  F : String → List D → Hp → Res D
  W : (Env → Hp → Res Bool) → (Env → Hp → RS) → Env → Hp → RS
  /-- constants of the module -/
  G : String → Option D

def intO (d : D) : Option Int := match d with
  | .int i => some i
  | _ => none

mutual
def evE (Z : Sg) : E → Env → Hp → Res D
  | .c d, _, h => .ok d h
  | .v i, ρ, h => match ρ[i]? with
    | some (some d) => .ok d h
    | _ => .bad
  | .g x, _, h => ofO (Z.G x) h
  | .bin o a b, ρ, h => (evE Z a ρ h).bind fun x h => (evE Z b ρ h).bind fun y h => binop o x y h
  | .neg a, ρ, h => (evE Z a ρ h).bind fun x h => match x with
    | .int i => .ok (.int (-i)) h
    | _ => .bad
  | .not a, ρ, h => (evC Z a ρ h).bind fun b h => .ok (.bl (!b)) h
  | .cmp o a b, ρ, h => (evE Z a ρ h).bind fun x h => (evE Z b ρ h).bind fun y h => compareR o x y h
  | .cmp2 o p a b c, ρ, h => (evE Z a ρ h).bind fun x h => (evE Z b ρ h).bind fun y h => match compare o x y h with
    | some true => (evE Z c ρ h).bind fun z h => compareR p y z h
    | some false => .ok (.bl false) h
    | none => .bad
  | .and a b, ρ, h => (evE Z a ρ h).bind fun x h => match x with
    | .bl true => evE Z b ρ h
    | .bl false => .ok (.bl false) h
    | _ => .bad
  | .or a b, ρ, h => (evE Z a ρ h).bind fun x h => match x with
    | .bl true => .ok (.bl true) h
    | .bl false => evE Z b ρ h
    | _ => .bad
  | .ite t a b, ρ, h => (evC Z t ρ h).bind fun c h => if c then evE Z a ρ h else evE Z b ρ h
  | .tup es, ρ, h => (evEs Z es ρ h).bind fun ds h => .ok (.tup ds) h
  | .lst es, ρ, h => (evEs Z es ρ h).bind fun ds h => new (.lst ds) h
  | .no, _, _ => .bad
  | .dict0, _, h => new (.dict []) h
  | .dict1 k v, ρ, h => (evE Z k ρ h).bind fun x h => (evE Z v ρ h).bind fun y h => if keyOk x then new (.dict [(x, y)]) h else .bad
  | .idx a b, ρ, h => (evE Z a ρ h).bind fun x h => (evE Z b ρ h).bind fun y h => index x y h
  | .slc a lo hi, ρ, h => (evE Z a ρ h).bind fun x h => (evO Z lo ρ h).bind fun l h => (evO Z hi ρ h).bind fun u h => slice x l u h
  | .rev a, ρ, h => (evE Z a ρ h).bind fun x h => match list? x h with
    | some xs => new (.lst xs.reverse) h
    | none => .bad
  | .att a f, ρ, h => (evE Z a ρ h).bind fun x h => ofO (field x f h) h
  | .call x es, ρ, h => (evEs Z es ρ h).bind fun ds h => Z.F x ds h
  | .bi x es, ρ, h => (evEs Z es ρ h).bind fun ds h => builtin x ds h
  | .isi a ts, ρ, h => (evE Z a ρ h).bind fun x h => match isAny x h ts with
    | some b => .ok (.bl b) h
    | none => .bad
  | .mt a m es, ρ, h => (evE Z a ρ h).bind fun x h => match kindOf x h with
    | some k => if has k m then (evEs Z es ρ h).bind fun ds h => method k x m ds h else .bad
    | none => .bad
  | .lof i, ρ, h => (evI Z i ρ h).bind fun s h => new (.lst s.ds) h
  | .trev a, ρ, h => (evE Z a ρ h).bind fun x h => match list? x h with
    | some xs => .ok (.tup xs.reverse) h
    | none => .bad
  | .vls b i, ρ, h => match ρ[i]? with
    | some (some d) => match dict? d h with
      | some (_, kvs, _) => if b then match intsOf (kvs.map (·.2)) with
          | some ns => .ok (.int ns.sum) h
          | none => .bad
        else new (.lst (kvs.map (·.2))) h
      | none => .bad
    | _ => .bad
  | .lc e t i cs, ρ, h => (evI Z i ρ h).bind fun s h => if line < s.ds.length then .bad else
    ((lcL t s.g (fun ρ h => evCs Z cs ρ h) (fun ρ h => evE Z e ρ h) (forget ρ t.slots) s.ds (locked s h)).bind fun ds h => new (.lst ds) h).unlock s
/-- its truth -/
def evC (Z : Sg) : C → Env → Hp → Res Bool
  | .and a b, ρ, h => (evC Z a ρ h).bind fun x h => if x then evC Z b ρ h else .ok false h
  | .or a b, ρ, h => (evC Z a ρ h).bind fun x h => if x then .ok true h else evC Z b ρ h
  | .not a, ρ, h => (evC Z a ρ h).bind fun x h => .ok (!x) h
  | .tr e, ρ, h => (evE Z e ρ h).bind truthR
def evEs (Z : Sg) : List E → Env → Hp → Res (List D)
  | [], _, h => .ok [] h
  | e :: es, ρ, h => (evE Z e ρ h).bind fun x h => (evEs Z es ρ h).bind fun xs h => .ok (x :: xs) h
def evO (Z : Sg) : Option E → Env → Hp → Res (Option Int)
  | none, _, h => .ok none h
  | some e, ρ, h => (evE Z e ρ h).bind fun x h => match intO x with
    | some i => .ok (some i) h
    | none => .bad
/-- all tests -/
def evCs (Z : Sg) : List C → Env → Hp → Res Bool
  | [], _, h => .ok true h
  | c :: cs, ρ, h => (evC Z c ρ h).bind fun x h => if x then evCs Z cs ρ h else .ok false h
def evI (Z : Sg) : I → Env → Hp → Res Src
  | .no, _, _ => .bad
  | .val e, ρ, h => (evE Z e ρ h).bind fun x h => ofO (seqOf x h) h
  | .var i, ρ, h => match ρ[i]? with
    | some (some d) => ofO (srcOf d h) h
    | _ => .bad
  | .rng a, ρ, h => (evE Z a ρ h).bind fun x h => ofO (range1 x) h
  | .rng2 a b, ρ, h => (evE Z a ρ h).bind fun x h => (evE Z b ρ h).bind fun y h => ofO (range2 x y) h
  | .enum e, ρ, h => (evE Z e ρ h).bind fun x h => ofO (enumOf x h) h
  | .zip a b, ρ, h => (evE Z a ρ h).bind fun x h => (evE Z b ρ h).bind fun y h => ofO (zipOf x y h) h
  | .revd e, ρ, h => (evE Z e ρ h).bind fun x h => ofO (revdOf x h) h
  | .vals i, ρ, h => match ρ[i]? with
    | some (some d) => ofO (valsOf d h) h
    | _ => .bad
  | .items i, ρ, h => match ρ[i]? with
    | some (some d) => ofO (itemsOf d h) h
    | _ => .bad
end

def subclass (c x : String) : Bool := c == x || x == "WritingError" || x == "ValueError"
mutual
def evS (Z : Sg) : S → Env → Hp → RS
  | .no, _, _ => .bad
  | .asg t e, ρ, h => (evE Z e ρ h).into ρ fun d h => match bindT t d ρ h with
    | some ρ' => .nx ρ' h
    | none => .bad
  | .aug i o e, ρ, h => match ρ[i]? with
    | some (some (.int x)) => (evE Z e ρ h).into ρ fun y h => match y with
      | .int j => match binop o (.int x) (.int j) h with
        | .ok d h => .nx (ρ.set i (some d)) h
        | _ => .bad
      | _ => .bad
    | _ => .bad
  | .sto a b e, ρ, h => ((evE Z e ρ h).bind fun d h => (evE Z a ρ h).bind fun x h => (evE Z b ρ h).bind fun y h => match store x y d h with
      | some h' => .ok () h'
      | none => .bad).into ρ fun _ h => .nx ρ h
  | .fld a f e, ρ, h => ((evE Z e ρ h).bind fun d h => (evE Z a ρ h).bind fun x h => match setField x f d h with
      | some h' => .ok () h'
      | none => .bad).into ρ fun _ h => .nx ρ h
  | .ex e, ρ, h => (evE Z e ρ h).into ρ fun _ h => .nx ρ h
  | .iff c a b, ρ, h => (evC Z c ρ h).into ρ fun t h => if t then evSs Z a ρ h else evSs Z b ρ h
  | .whl c b, ρ, h => Z.W (fun ρ h => evC Z c ρ h) (fun ρ h => evSs Z b ρ h) ρ h
  | .for_ t i b, ρ, h => (evI Z i ρ h).into ρ fun s h => (forL t s.g (fun ρ h => evSs Z b ρ h) s.ds ρ (locked s h)).unlock s
  | .ret e, ρ, h => (evE Z e ρ h).into ρ fun d h => .rt d h
  | .rs c es, ρ, h => (evEs Z es ρ h).into ρ fun ds h => match Z.F c ds h with
    | .exc c' fs h' => .ex c' fs ρ h'
    | _ => .bad
  | .tr b hs, ρ, h => match evSs Z b ρ h with
    | .ex c fs ρ' h' => evHs Z c fs hs ρ' h'
    | r => r
  | .brk, ρ, h => .bk ρ h
  | .cnt, ρ, h => .ct ρ h
  | .pss, ρ, h => .nx ρ h
def evSs (Z : Sg) : List S → Env → Hp → RS
  | [], ρ, h => .nx ρ h
  | s :: ss, ρ, h => (evS Z s ρ h).seq fun ρ h => evSs Z ss ρ h
def evHs (Z : Sg) (c : String) (fs : List (String × D)) : List (String × Option Nat × List S) → Env → Hp → RS
  | [], ρ, h => .ex c fs ρ h
  | (x, _, b) :: r, ρ, h => if subclass c x then evSs Z b ρ h else evHs Z c fs r ρ h
end
end Y

set_option linter.all false
/-! The mini level: a while's end, what is left behind a call, the calls. -/
namespace Y
open PySem (Str)

/-- a while: what some fuel tells -/
noncomputable def whlC (test : Env → Hp → Res Bool) (body : Env → Hp → RS) (ρ : Env) (h : Hp) : RS :=
  open Classical in if e : ∃ r n, whlN test body n ρ h = some r then e.choose else .bad
theorem whlN_mono (test : Env → Hp → Res Bool) (body : Env → Hp → RS) : ∀ (n : Nat) (ρ : Env) (h : Hp) (r : RS), whlN test body n ρ h = some r → ∀ m, n ≤ m → whlN test body m ρ h = some r := by
  intro n
  induction n with
  | zero => intro ρ h r e; simp [whlN] at e
  | succ n ih =>
    intro ρ h r e m hm
    obtain ⟨m, rfl⟩ : ∃ k, m = k + 1 := ⟨m - 1, by omega⟩
    rw [whlN] at e ⊢
    cases ht : test ρ h with
    | ok b h1 =>
      rw [ht] at e
      cases b with
      | true =>
        simp only at e ⊢
        cases hb : body ρ h1 with
        | nx ρ' h' => rw [hb] at e; exact ih _ _ _ e _ (by omega)
        | ct ρ' h' => rw [hb] at e; exact ih _ _ _ e _ (by omega)
        | bk ρ' h' => rw [hb] at e; exact e
        | rt d h' => rw [hb] at e; exact e
        | ex c fs ρ' h' => rw [hb] at e; exact e
        | bad => rw [hb] at e; exact e
      | false => exact e
    | exc c fs h1 => rw [ht] at e; exact e
    | bad => rw [ht] at e; exact e
theorem whlC_of {test : Env → Hp → Res Bool} {body : Env → Hp → RS} {n : Nat} {ρ : Env} {h : Hp} {r : RS} (e : whlN test body n ρ h = some r) : whlC test body ρ h = r := by
  have ex : ∃ r n, whlN test body n ρ h = some r := ⟨r, n, e⟩
  unfold whlC
  rw [dif_pos ex]
  obtain ⟨m, hm⟩ := ex.choose_spec
  have a := whlN_mono test body n ρ h r e (max n m) (by omega)
  have b := whlN_mono test body m ρ h _ hm (max n m) (by omega)
  rw [a] at b
  exact (Option.some.inj b).symm
theorem whlC_fuel {test : Env → Hp → Res Bool} {body : Env → Hp → RS} {ρ : Env} {h : Hp} (e : whlC test body ρ h ≠ .bad) : ∃ n, whlN test body n ρ h = some (whlC test body ρ h) := by
  by_cases ex : ∃ r n, whlN test body n ρ h = some r
  · obtain ⟨r, n, q⟩ := ex
    exact ⟨n, by rw [whlC_of q]; exact q⟩
  · exfalso
    apply e
    unfold whlC
    rw [dif_neg ex]
/-- one turn of a while -/
theorem whlC_turn (test : Env → Hp → Res Bool) (body : Env → Hp → RS) (ρ : Env) (h : Hp) : whlC test body ρ h =
    match test ρ h with
    | .ok true h1 => (match body ρ h1 with
      | .nx ρ' h' => whlC test body ρ' h'
      | .ct ρ' h' => whlC test body ρ' h'
      | .bk ρ' h' => .nx ρ' h'
      | r => r)
    | .ok false h1 => .nx ρ h1
    | .exc c fs h1 => .ex c fs ρ h1
    | .bad => .bad := by
  have again : ∀ ρ' h', (∀ n, whlN test body (n + 1) ρ h = whlN test body n ρ' h') → whlC test body ρ h = whlC test body ρ' h' := by
    intro ρ' h' q
    by_cases e : whlC test body ρ' h' = .bad
    · by_cases e2 : whlC test body ρ h = .bad
      · rw [e, e2]
      · obtain ⟨n, hn⟩ := whlC_fuel e2
        cases n with
        | zero => simp [whlN] at hn
        | succ n =>
          rw [q] at hn
          rw [whlC_of hn]
    · obtain ⟨n, hn⟩ := whlC_fuel e
      rw [← q] at hn
      exact whlC_of hn
  cases ht : test ρ h with
  | ok b h1 =>
    cases b with
    | true =>
      cases hb : body ρ h1 with
      | nx ρ' h' => simp only [hb]; exact again ρ' h' fun n => by rw [whlN, ht]; simp only [hb]
      | ct ρ' h' => simp only [hb]; exact again ρ' h' fun n => by rw [whlN, ht]; simp only [hb]
      | bk ρ' h' => simp only [hb]; exact whlC_of (n := 1) (by rw [whlN, ht]; simp only [hb])
      | rt d h' => simp only [hb]; exact whlC_of (n := 1) (by rw [whlN, ht]; simp only [hb])
      | ex c fs ρ' h' => simp only [hb]; exact whlC_of (n := 1) (by rw [whlN, ht]; simp only [hb])
      | bad => simp only [hb]; exact whlC_of (n := 1) (by rw [whlN, ht]; simp only [hb])
    | false => exact whlC_of (n := 1) (by rw [whlN, ht])
  | exc c fs h1 => exact whlC_of (n := 1) (by rw [whlN, ht])
  | bad => exact whlC_of (n := 1) (by rw [whlN, ht])

/-! ### what is left behind a call -/
mutual
/-- the objects from n on that a value names, in order, each once -/
def news (n : Nat) : D → List Nat → List Nat
  | .tup ds, acc => newsL n ds acc
  | .ref m, acc => if n ≤ m then (if m ∈ acc then acc else acc ++ [m]) else acc
  | _, acc => acc
def newsL (n : Nat) : List D → List Nat → List Nat
  | [], acc => acc
  | d :: ds, acc => newsL n ds (news n d acc)
end
mutual
/-- .. get their new numbers -/
def ren (n : Nat) (ms : List Nat) : D → D
  | .tup ds => .tup (renL n ms ds)
  | .ref m => if n ≤ m then .ref (n + ms.idxOf m) else .ref m
  | d => d
def renL (n : Nat) (ms : List Nat) : List D → List D
  | [] => []
  | d :: ds => ren n ms d :: renL n ms ds
end
/-- an object that names none from n on -/
def Ob.flat (n : Nat) : Ob → Bool
  | .lst ds => D.underL n ds
  | .ro ds => D.underL n ds
  | .dict kvs => kvs.all fun kv => D.under n kv.1 && D.under n kv.2
  | .ldict kvs => kvs.all fun kv => D.under n kv.1 && D.under n kv.2
  | .ins _ fs => fs.all fun f => D.under n f.2
/-- the elder objects name no newer one, where they changed -/
def elder (h h' : Hp) : Bool := (List.range h.length).all fun i => decide (h'[i]? = h[i]?) || (match h'[i]? with | some o => o.flat h.length | none => false)
/-- behind a call that was begun at h: what the value does not name is dropped -/
def left (h : Hp) (d : D) (h' : Hp) : Res D :=
  let ms := news h.length d []
  if elder h h' && (ms.all fun m => match h'[m]? with | some o => o.flat h.length | none => false) then
    .ok (ren h.length ms d) (h'.take h.length ++ ms.filterMap fun m => h'[m]?)
  else .ok d h'
def leftE (h : Hp) (c : String) (fs : List (String × D)) (h' : Hp) : Res D :=
  if elder h h' && fs.all fun f => f.2.under h.length then .exc c fs (h'.take h.length) else .exc c fs h'

/-! ### calls -/
inductive Def where
  /-- a def: how many parameters, how many names, its body -/
  | fn (n m : Nat) (b : List S)
  /-- a class of the text; has it its own __init__ -/
  | cls (init : Bool)
  /-- an error class, its fields -/
  | err (fs : List String)
def start (n m : Nat) (ds : List D) : Env := ds.map some ++ List.replicate (m - n) none
def fin (h : Hp) : RS → Res D
  | .nx _ h' => left h .non h'
  | .rt d h' => left h d h'
  | .ex c fs _ h' => leftE h c fs h'
  | _ => .bad
abbrev Tbl := String → Option Def
abbrev Wh := (Env → Hp → Res Bool) → (Env → Hp → RS) → Env → Hp → RS
/-- calls, k deep -/
def callN (T : Tbl) (G : String → Option D) (W : Wh) : Nat → String → List D → Hp → Res D
  | 0, _, _, _ => .bad
  | k + 1, x, ds, h => match T x with
    | some (.fn n m b) => if ds.length = n then fin h (evSs ⟨callN T G W k, W, G⟩ b (start n m ds) h) else .bad
    | some (.cls true) => match callN T G W k (x ++ ".__init__") (.ref h.length :: ds) (h ++ [.ins x []]) with
      | .ok .non h' => .ok (.ref h.length) h'
      | .exc c fs h' => .exc c fs h'
      | _ => .bad
    | some (.cls false) => if ds.length = 0 then new (.ins x []) h else .bad
    | some (.err fs) => if ds.length = fs.length then .exc x (fs.zip ds) h else .bad
    | none => .bad
end Y

set_option Elab.async false
set_option linter.all false
set_option maxRecDepth 100000
/-! How the mini level lies in the model: values, objects, slots; what a piece's reading is. -/
namespace Y
open PySem PySem.Spec PyProof.Rows L2

abbrev Fg := PySem.W.Frag
/-- what stands around: the module's names, the program, the world -/
structure Nm where
  mg : Str → Option Value
  P : Program
  w : World
/-- the classes of the text that make instances, the fields that are named -/
structure Tx where
  cls : List String
  flds : List String
abbrev nm (X : Cx) : Nm := ⟨X.mg, X.prog, X.w⟩
/-- what a class of the text is known for -/
structure CK (K : Fg) (C : Addr) : Prop where
  cls : Cls K C
  ha : PySem.W.findIn K (.ref C) "__class__" = some (some (.builtin "object.__class__"))
  hn : PySem.W.specialIn K (.builtin "object.__class__") "__get__" = some (some (.builtin "getset_descriptor.__get__"))
  htk : PySem.W.takesIn K (.builtin "object.__class__") = some true
  hm : PySem.W.mroIn K C (.type "object") = some true

mutual
/-- the mini value d is v, the objects standing at φ -/
inductive Tr (K : Fg) (φ : List Addr) (H : L2.Hp) : D → V → Prop
  | non : Tr K φ H .non .non
  | bl (b : Bool) : Tr K φ H (.bl b) (.bl b)
  | int (i : Int) : Tr K φ H (.int i) (.int i)
  | str (x : Str) : Tr K φ H (.str x) (.str x)
  | tup {a : Addr} {xs : List V} {ds : List D} : SqT K H a xs → TrL K φ H ds xs → Tr K φ H (.tup ds) (.ref a)
  | ref {n : Nat} {a : Addr} : φ[n]? = some a → Tr K φ H (.ref n) (.ref a)
inductive TrL (K : Fg) (φ : List Addr) (H : L2.Hp) : List D → List V → Prop
  | nil : TrL K φ H [] []
  | cons {d : D} {v : V} {ds : List D} {vs : List V} : Tr K φ H d v → TrL K φ H ds vs → TrL K φ H (d :: ds) (v :: vs)
end

/-- tuples and what is frozen stay -/
structure Keep (H H' : L2.Hp) : Prop where
  tups : ∀ b xs, H b = some (.tup xs) → H' b = some (.tup xs)
  frzs : ∀ b o u, H b = some (.frz o u) → H' b = some (.frz o u)
theorem Keep.refl (H : L2.Hp) : Keep H H := ⟨fun _ _ h => h, fun _ _ _ h => h⟩
theorem Keep.trans {H H1 H2 : L2.Hp} (a : Keep H H1) (b : Keep H1 H2) : Keep H H2 := ⟨fun c o h => b.tups c o (a.tups c o h), fun c o u h => b.frzs c o u (a.frzs c o u h)⟩
theorem Keep.of {H H' : L2.Hp} (h : ∀ b o, H b = some o → H' b = some o) : Keep H H' := ⟨fun _ _ e => h _ _ e, fun _ _ _ e => h _ _ e⟩
theorem Keep.new {H : L2.Hp} {p : Addr} {o : HO} (h : H p = none) : Keep H (upd H p o) := .of fun b u e => by rw [upd_ne (ne_of_none e h)]; exact e
theorem Keep.write {H : L2.Hp} {p : Addr} {o u : HO} (h : H p = some u) (m : ∀ xs, u ≠ .tup xs) (f : ∀ o w, u ≠ .frz o w) : Keep H (upd H p o) :=
  ⟨fun b xs e => by rw [upd_ne (ne_of e h fun z => m xs z.symm)]; exact e, fun b q w e => by rw [upd_ne (ne_of e h fun z => f q w z.symm)]; exact e⟩
theorem Keep.sqT {K : Fg} {H H' : L2.Hp} (k : Keep H H') {a : Addr} {xs : List V} (h : SqT K H a xs) : SqT K H' a xs := by
  rcases h with (h | ⟨o, h⟩) | h
  · exact .inl (.inl (k.tups _ _ h))
  · exact .inl (.inr ⟨o, k.frzs _ _ _ h⟩)
  · exact .inr h

section
variable {K : Fg} {φ φ' : List Addr} {H H' : L2.Hp}
theorem pre_get {n : Nat} {a : Addr} (p : φ <+: φ') (h : φ[n]? = some a) : φ'[n]? = some a := by
  obtain ⟨r, rfl⟩ := p
  rw [List.getElem?_append_left (List.getElem?_eq_some_iff.mp h).1]
  exact h
mutual
theorem Tr.mono (p : φ <+: φ') (k : Keep H H') : ∀ (d : D) (v : V), Tr K φ H d v → Tr K φ' H' d v
  | _, _, .non => .non
  | _, _, .bl b => .bl b
  | _, _, .int i => .int i
  | _, _, .str x => .str x
  | .tup _, _, .tup s t => .tup (k.sqT s) (TrL.mono p k _ _ t)
  | _, _, .ref h => .ref (pre_get p h)
theorem TrL.mono (p : φ <+: φ') (k : Keep H H') : ∀ (ds : List D) (vs : List V), TrL K φ H ds vs → TrL K φ' H' ds vs
  | _, _, .nil => .nil
  | _ :: _, _, .cons t r => .cons (Tr.mono p k _ _ t) (TrL.mono p k _ _ r)
end
theorem Tr.up {d : D} {v : V} (t : Tr K φ H d v) (p : φ <+: φ') (k : Keep H H') : Tr K φ' H' d v := t.mono p k _ _
theorem TrL.up {d : List D} {v : List V} (t : TrL K φ H d v) (p : φ <+: φ') (k : Keep H H') : TrL K φ' H' d v := t.mono p k _ _
theorem TrL.length : ∀ {ds : List D} {vs : List V}, TrL K φ H ds vs → ds.length = vs.length
  | _, _, .nil => rfl
  | _, _, .cons _ r => by rw [List.length_cons, List.length_cons, r.length]
theorem TrL.get : ∀ {ds : List D} {vs : List V} {i : Nat} {d : D}, TrL K φ H ds vs → ds[i]? = some d → ∃ v, vs[i]? = some v ∧ Tr K φ H d v
  | _, _, _, _, .nil, e => by simp at e
  | _, _, 0, _, .cons t _, e => by simp at e; subst e; exact ⟨_, rfl, t⟩
  | _, _, i + 1, d, .cons _ r, e => by
    obtain ⟨v, h1, h2⟩ := TrL.get (i := i) (d := d) r (by simpa using e)
    exact ⟨v, by simpa using h1, h2⟩
theorem TrL.get' : ∀ {ds : List D} {vs : List V} {i : Nat} {v : V}, TrL K φ H ds vs → vs[i]? = some v → ∃ d, ds[i]? = some d ∧ Tr K φ H d v
  | _, _, _, _, .nil, e => by simp at e
  | _, _, 0, _, .cons t _, e => by simp at e; subst e; exact ⟨_, rfl, t⟩
  | _, _, i + 1, d, .cons _ r, e => by
    obtain ⟨v, h1, h2⟩ := TrL.get' (i := i) (v := d) r (by simpa using e)
    exact ⟨v, by simpa using h1, h2⟩
theorem TrL.append : ∀ {a b : List D} {x y : List V}, TrL K φ H a x → TrL K φ H b y → TrL K φ H (a ++ b) (x ++ y)
  | _, _, _, _, .nil, s => s
  | _, _, _, _, .cons t r, s => .cons t (TrL.append r s)
theorem TrL.take : ∀ {a : List D} {x : List V} (n : Nat), TrL K φ H a x → TrL K φ H (a.take n) (x.take n)
  | _, _, 0, _ => .nil
  | _, _, _ + 1, .nil => .nil
  | _, _, n + 1, .cons t r => .cons t (TrL.take n r)
theorem TrL.drop : ∀ {a : List D} {x : List V} (n : Nat), TrL K φ H a x → TrL K φ H (a.drop n) (x.drop n)
  | _, _, 0, r => r
  | _, _, _ + 1, .nil => .nil
  | _, _, n + 1, .cons _ r => TrL.drop n r
theorem TrL.set {d : D} {v : V} (t : Tr K φ H d v) : ∀ {a : List D} {x : List V} (i : Nat), TrL K φ H a x → TrL K φ H (a.set i d) (x.set i v)
  | _, _, _, .nil => .nil
  | _, _, 0, .cons _ r => .cons t r
  | _, _, i + 1, .cons q r => .cons q (TrL.set t i r)
theorem TrL.snoc {d : D} {v : V} {a : List D} {x : List V} (r : TrL K φ H a x) (t : Tr K φ H d v) : TrL K φ H (a ++ [d]) (x ++ [v]) := r.append (.cons t .nil)
theorem TrL.reverse : ∀ {a : List D} {x : List V}, TrL K φ H a x → TrL K φ H a.reverse x.reverse
  | _, _, .nil => .nil
  | _, _, .cons t r => by rw [List.reverse_cons, List.reverse_cons]; exact r.reverse.snoc t
theorem TrL.dropLast {a : List D} {x : List V} (r : TrL K φ H a x) : TrL K φ H a.dropLast x.dropLast := by
  rw [List.dropLast_eq_take, List.dropLast_eq_take, r.length]; exact r.take _
theorem TrL.flatten {a : List D} {x : List V} (r : TrL K φ H a x) : ∀ k : Nat, TrL K φ H (List.replicate k a).flatten (List.replicate k x).flatten
  | 0 => .nil
  | k + 1 => by
    rw [List.replicate_succ, List.replicate_succ, List.flatten_cons, List.flatten_cons]
    exact r.append (TrL.flatten r k)
/-! #### what a mini value says of its value -/
theorem Tr.of_int {i : Int} {v : V} (t : Tr K φ H (.int i) v) : v = .int i := by cases t; rfl
theorem Tr.of_bl {b : Bool} {v : V} (t : Tr K φ H (.bl b) v) : v = .bl b := by cases t; rfl
theorem Tr.of_non {v : V} (t : Tr K φ H .non v) : v = .non := by cases t; rfl
theorem Tr.of_str {x : Str} {v : V} (t : Tr K φ H (.str x) v) : v = .str x := by cases t; rfl
theorem Tr.of_tup {ds : List D} {v : V} (t : Tr K φ H (.tup ds) v) : ∃ a xs, v = .ref a ∧ SqT K H a xs ∧ TrL K φ H ds xs := by
  cases t with
  | tup s r => exact ⟨_, _, rfl, s, r⟩
theorem Tr.of_ref {n : Nat} {v : V} (t : Tr K φ H (.ref n) v) : ∃ a, v = .ref a ∧ φ[n]? = some a := by
  cases t with
  | ref h => exact ⟨_, rfl, h⟩
end

/-! ### objects -/
/-- a key: an int, a text -/
def keyD : Key → D
  | .inl i => .int i
  | .inr x => .str x
mutual
def nkey : D → NestedKey
  | .int i => .num i
  | .str x => .text x
  | .tup ds => .tup (nkeyL ds)
  | _ => .none
def nkeyL : List D → List NestedKey
  | [] => []
  | d :: ds => nkey d :: nkeyL ds
end
/-- a dict whose keys are tuples, as it lies at a -/
def DictN (mg : Nm) (a : Addr) (xs : List (NestedKey × Addr × Value)) : HO :=
  .ext fun h => ∃ o es ep, h.get? a = some o ∧ o.ExactDict ∧ o.data = .dict es ep ∧ es.toList = xs.map (entryOfKey (nestedKind mg.P mg.w)) ∧ (xs.map (·.1)).Nodup
/-- an entry of it -/
def NR (K : Fg) (φ : List Addr) (H : L2.Hp) (p : D × D) (x : NestedKey × Addr × Value) : Prop :=
  p.1.isTup = true ∧ keyOk p.1 = true ∧ x.1 = nkey p.1 ∧ Tr K φ H p.1 (.ref x.2.1) ∧ ∃ v, RelV v x.2.2 ∧ Tr K φ H p.2 v
/-- the pairs of a dict at a -/
inductive DR (K : Fg) (mg : Nm) (φ : List Addr) (H : L2.Hp) (a : Addr) : List (D × D) → HO → Prop
  | k {kvs : List (Key × V)} {ds : List (D × D)} : Paired (fun (p : D × D) (q : Key × V) => p.1 = keyD q.1 ∧ Tr K φ H p.2 q.2) ds kvs → DR K mg φ H a ds (.dK kvs)
  | t {xs : List (NestedKey × Addr × Value)} {ds : List (D × D)} : (a == sysModules) = false → ds.length ≤ sizeLine → Paired (NR K φ H) ds xs → DR K mg φ H a ds (DictN mg a xs)
/-- the fields of an instance, of an exception -/
abbrev FR (K : Fg) (φ : List Addr) (H : L2.Hp) : List (String × D) → List (Str × V) → Prop := Paired fun p q => q.1 = Str.ofString p.1 ∧ Tr K φ H p.2 q.2
/-- the object o stands at a -/
inductive OR (K : Fg) (mg : Nm) (φ : List Addr) (H : L2.Hp) : Ob → Addr → Prop
  | lst {ds : List D} {a : Addr} {xs : List V} : H a = some (.lst xs) → TrL K φ H ds xs → OR K mg φ H (.lst ds) a
  | ro {ds : List D} {a : Addr} {xs : List V} {o : Obj} : H a = some (.frz o (.lst xs)) → TrL K φ H ds xs → OR K mg φ H (.ro ds) a
  | dict {kvs : List (D × D)} {a : Addr} {u : HO} : H a = some u → DR K mg φ H a kvs u → OR K mg φ H (.dict kvs) a
  | ldict {kvs : List (D × D)} {a : Addr} {u : HO} {o : Obj} : H a = some (.frz o u) → DR K mg φ H a kvs u → OR K mg φ H (.ldict kvs) a
  | ins {c : String} {fs : List (String × D)} {a C dx : Addr} {xs : List (Str × V)} : H a = some (.ins C dx xs) → mg.mg (Str.ofString c) = some (.ref C) → CK K C → FR K φ H fs xs → OR K mg φ H (.ins c fs) a
section
variable {K : Fg} {mg : Nm} {φ φ' : List Addr} {H H' : L2.Hp}
theorem NR.up {p : D × D} {x : NestedKey × Addr × Value} (r : NR K φ H p x) (q : φ <+: φ') (k : Keep H H') : NR K φ' H' p x :=
  ⟨r.1, r.2.1, r.2.2.1, r.2.2.2.1.up q k, let ⟨v, a, b⟩ := r.2.2.2.2; ⟨v, a, b.up q k⟩⟩
theorem DR.up {kvs : List (D × D)} {u : HO} {a : Addr} (r : DR K mg φ H a kvs u) (p : φ <+: φ') (k : Keep H H') : DR K mg φ' H' a kvs u := by
  cases r with
  | k r => exact .k (L2.Paired.mapP r fun _ _ q => ⟨q.1, q.2.up p k⟩)
  | t s l r => exact .t s l (L2.Paired.mapP r fun _ _ q => q.up p k)
theorem FR.up {fs : List (String × D)} {xs : List (Str × V)} (r : FR K φ H fs xs) (p : φ <+: φ') (k : Keep H H') : FR K φ' H' fs xs := L2.Paired.mapP r fun _ _ q => ⟨q.1, q.2.up p k⟩
/-- an object stays where its place is kept -/
theorem OR.up {o : Ob} {a : Addr} (r : OR K mg φ H o a) (p : φ <+: φ') (k : Keep H H') (e : H' a = H a) : OR K mg φ' H' o a := by
  cases r with
  | lst h t => exact .lst (e.trans h) (t.up p k)
  | ro h t => exact .ro (e.trans h) (t.up p k)
  | dict h t => exact .dict (e.trans h) (t.up p k)
  | ldict h t => exact .ldict (e.trans h) (t.up p k)
  | ins h m ck t => exact .ins (e.trans h) m ck (t.up p k)
theorem OR.there {o : Ob} {a : Addr} (r : OR K mg φ H o a) : ∃ u, H a = some u := by
  cases r with
  | lst h _ => exact ⟨_, h⟩
  | ro h _ => exact ⟨_, h⟩
  | dict h _ => exact ⟨_, h⟩
  | ldict h _ => exact ⟨_, h⟩
  | ins h _ _ _ => exact ⟨_, h⟩
end

/-- the mini heap h lies in H, its objects at φ -/
structure RH (K : Fg) (mg : Nm) (φ : List Addr) (h : Y.Hp) (H : L2.Hp) : Prop where
  len : φ.length = h.length
  nd : φ.Nodup
  ob : ∀ (n : Nat) (o : Ob) (a : Addr), h[n]? = some o → φ[n]? = some a → OR K mg φ H o a
section
variable {K : Fg} {mg : Nm} {φ φ' : List Addr} {h : Y.Hp} {H H' : L2.Hp}
theorem RH.at (r : RH K mg φ h H) {n : Nat} {a : Addr} (e : φ[n]? = some a) : ∃ o, h[n]? = some o ∧ OR K mg φ H o a := by
  have hl : n < h.length := by rw [← r.len]; exact (List.getElem?_eq_some_iff.mp e).1
  exact ⟨h[n], List.getElem?_eq_getElem hl, r.ob n _ a (List.getElem?_eq_getElem hl) e⟩
theorem RH.addr (r : RH K mg φ h H) {n : Nat} {o : Ob} (e : h[n]? = some o) : ∃ a, φ[n]? = some a ∧ OR K mg φ H o a := by
  have hl : n < φ.length := by rw [r.len]; exact (List.getElem?_eq_some_iff.mp e).1
  exact ⟨φ[n], List.getElem?_eq_getElem hl, r.ob n o _ e (List.getElem?_eq_getElem hl)⟩
/-- none of the mini objects stands at p -/
theorem RH.fresh (r : RH K mg φ h H) {p : Addr} (e : H p = none) : p ∉ φ := fun hm => by
  obtain ⟨n, hn⟩ := List.getElem?_of_mem hm
  obtain ⟨o, _, q⟩ := r.at hn
  obtain ⟨u, hu⟩ := q.there
  rw [e] at hu; cases hu
/-- all places are kept -/
theorem RH.same (r : RH K mg φ h H) (k : Keep H H') (e : ∀ a ∈ φ, H' a = H a) : RH K mg φ h H' :=
  ⟨r.len, r.nd, fun n o a hn ha => (r.ob n o a hn ha).up (List.prefix_refl φ) k (e a (List.mem_of_getElem? ha))⟩
/-- what is new beside the mini heap -/
theorem RH.beside (r : RH K mg φ h H) {p : Addr} {u : HO} (e : H p = none) : RH K mg φ h (upd H p u) :=
  r.same (.new e) fun a ha => upd_ne fun z => r.fresh e (z ▸ ha)
/-- a new object -/
theorem RH.push (r : RH K mg φ h H) {p : Addr} {o : Ob} {H' : L2.Hp} (e : H p = none) (k : Keep H H') (s : ∀ a ∈ φ, H' a = H a) (new : OR K mg (φ ++ [p]) H' o p) : RH K mg (φ ++ [p]) (h ++ [o]) H' := by
  refine ⟨by simp [r.len], ?_, fun n u a hn ha => ?_⟩
  · rw [List.nodup_append]
    exact ⟨r.nd, by simp, fun a ha b hb => by simp at hb; subst hb; intro z; exact r.fresh e (z ▸ ha)⟩
  · by_cases hl : n < h.length
    · rw [List.getElem?_append_left hl] at hn
      rw [List.getElem?_append_left (by rw [r.len]; exact hl)] at ha
      exact (r.ob n u a hn ha).up (List.prefix_append φ [p]) k (s a (List.mem_of_getElem? ha))
    · have hn' : n = h.length := by
        have := (List.getElem?_eq_some_iff.mp hn).1
        simp at this
        omega
      subst hn'
      rw [List.getElem?_concat_length] at hn
      rw [← r.len, List.getElem?_concat_length] at ha
      cases hn; cases ha
      exact new
theorem nodup_get {φ : List Addr} (nd : φ.Nodup) {i j : Nat} {a : Addr} (h1 : φ[i]? = some a) (h2 : φ[j]? = some a) : i = j := by
  obtain ⟨a1, b1⟩ := List.getElem?_eq_some_iff.mp h1
  obtain ⟨a2, b2⟩ := List.getElem?_eq_some_iff.mp h2
  exact (List.getElem_inj nd).mp (b1.trans b2.symm)
/-- an object is written -/
theorem RH.put (r : RH K mg φ h H) {n : Nat} {p : Addr} {o : Ob} {u : HO} (ha : φ[n]? = some p) (k : Keep H (upd H p u)) (new : OR K mg φ (upd H p u) o p) : RH K mg φ (h.set n o) (upd H p u) := by
  refine ⟨by simp [r.len], r.nd, fun m u' a hm hma => ?_⟩
  by_cases e : m = n
  · subst e
    rw [ha] at hma; cases hma
    have hl : m < h.length := by rw [← r.len]; exact (List.getElem?_eq_some_iff.mp ha).1
    rw [List.getElem?_set_self hl] at hm; cases hm
    exact new
  · rw [List.getElem?_set_ne (Ne.symm e)] at hm
    refine (r.ob m u' a hm hma).up (List.prefix_refl φ) k (upd_ne ?_)
    rintro rfl
    exact e (nodup_get r.nd hma ha)
end

/-- the slots -/
structure TrS (K : Fg) (φ : List Addr) (H : L2.Hp) (ρ : Y.Env) (σ : L2.St) : Prop where
  len : ρ.length = σ.length
  at_ : ∀ (i : Nat) (d : D), ρ[i]? = some (some d) → ∃ v, σ[i]? = some (some v) ∧ Tr K φ H d v
section
variable {K : Fg} {φ φ' : List Addr} {H H' : L2.Hp} {ρ : Y.Env} {σ : L2.St}
theorem TrS.up (r : TrS K φ H ρ σ) (p : φ <+: φ') (k : Keep H H') : TrS K φ' H' ρ σ := ⟨r.len, fun i d e => let ⟨v, a, b⟩ := r.at_ i d e; ⟨v, a, b.up p k⟩⟩
theorem TrS.set (r : TrS K φ H ρ σ) {d : D} {v : V} (t : Tr K φ H d v) (i : Nat) : TrS K φ H (ρ.set i (some d)) (σ.set i (some v)) := by
  refine ⟨by simp [r.len], fun j e hj => ?_⟩
  by_cases q : j = i
  · subst q
    have hl : j < ρ.length := by
      have := (List.getElem?_eq_some_iff.mp hj).1
      simpa using this
    rw [List.getElem?_set_self hl] at hj
    cases hj
    exact ⟨v, List.getElem?_set_self (by rw [← r.len]; exact hl), t⟩
  · rw [List.getElem?_set_ne (Ne.symm q)] at hj
    obtain ⟨w, a, b⟩ := r.at_ j e hj
    exact ⟨w, by rw [List.getElem?_set_ne (Ne.symm q)]; exact a, b⟩
end

/-! ### how a run's end is read -/
/-- an exception: its class, its own dict -/
inductive ER (K : Fg) (mg : Nm) (φ : List Addr) (H : L2.Hp) (c : String) : List (String × D) → Value → Option Addr → Prop
  | none {C : Addr} : mg.mg (Str.ofString c) = some (.ref C) → ER K mg φ H c [] (.ref C) none
  | some {C d : Addr} {fs : List (String × D)} {xs : List (Str × V)} : mg.mg (Str.ofString c) = some (.ref C) → H d = some (.xd xs) → FR K φ H fs xs → ER K mg φ H c fs (.ref C) (some d)
section
variable (K : Fg) (mg : Nm) (φ : List Addr) (H : L2.Hp)
/-- what is wanted behind: the objects at a longer φ', all else as it was -/
structure Bh (h' : Y.Hp) (φ' : List Addr) (H' : L2.Hp) : Prop where
  pre : φ <+: φ'
  keep : Keep H H'
  /-- what is none of the objects stays -/
  oth : ∀ a o, a ∉ φ → H a = some o → H' a = some o ∧ a ∉ φ'
  rh : RH K mg φ' h' H'
def PostE (r : Res D) (W : Value → Option Addr → L2.Hp → Prop) (Q : VK) : Prop :=
  match r with
  | .ok d h' => ∀ φ' H' v, Bh K mg φ H h' φ' H' → Tr K φ' H' d v → Q v H'
  | .exc c fs h' => ∀ φ' H' cls dx, Bh K mg φ H h' φ' H' → ER K mg φ' H' c fs cls dx → W cls dx H'
  | .bad => False
def PostT (r : Res Bool) (W : Value → Option Addr → L2.Hp → Prop) (Q : Bool → L2.Hp → Prop) : Prop :=
  match r with
  | .ok b h' => ∀ φ' H', Bh K mg φ H h' φ' H' → Q b H'
  | .exc c fs h' => ∀ φ' H' cls dx, Bh K mg φ H h' φ' H' → ER K mg φ' H' c fs cls dx → W cls dx H'
  | .bad => False
def PostA (r : Res (List D)) (W : Value → Option Addr → L2.Hp → Prop) (Q : List V → L2.Hp → Prop) : Prop :=
  match r with
  | .ok ds h' => ∀ φ' H' vs, Bh K mg φ H h' φ' H' → TrL K φ' H' ds vs → Q vs H'
  | .exc c fs h' => ∀ φ' H' cls dx, Bh K mg φ H h' φ' H' → ER K mg φ' H' c fs cls dx → W cls dx H'
  | .bad => False
def PostS (r : RS) (W : WX) (D : Ends) : Prop :=
  match r with
  | .nx ρ' h' => ∀ φ' H' σ', Bh K mg φ H h' φ' H' → TrS K φ' H' ρ' σ' → D.nx σ' H'
  | .bk ρ' h' => ∀ φ' H' σ', Bh K mg φ H h' φ' H' → TrS K φ' H' ρ' σ' → D.bk σ' H'
  | .ct ρ' h' => ∀ φ' H' σ', Bh K mg φ H h' φ' H' → TrS K φ' H' ρ' σ' → D.ct σ' H'
  | .rt d h' => ∀ φ' H' v, Bh K mg φ H h' φ' H' → Tr K φ' H' d v → D.rt v H'
  | .ex c fs ρ' h' => ∀ φ' H' σ' cls dx, Bh K mg φ H h' φ' H' → TrS K φ' H' ρ' σ' → ER K mg φ' H' c fs cls dx → W cls dx σ' H'
  | .bad => False
end
section
variable (K : Fg) (mg : Nm)
/-- the reading of an expression, a test, arguments, a statement -/
def RdE (W : WX) (m : Y.Env → Y.Hp → Res D) : TE := fun σ H Q => ∃ φ ρ h, RH K mg φ h H ∧ TrS K φ H ρ σ ∧ PostE K mg φ H (m ρ h) (fun c d H' => W c d σ H') Q
def RdT (W : WX) (m : Y.Env → Y.Hp → Res Bool) : TT := fun σ H Q => ∃ φ ρ h, RH K mg φ h H ∧ TrS K φ H ρ σ ∧ PostT K mg φ H (m ρ h) (fun c d H' => W c d σ H') Q
def RdA (W : WX) (m : Y.Env → Y.Hp → Res (List D)) : TA := fun σ H Q => ∃ φ ρ h, RH K mg φ h H ∧ TrS K φ H ρ σ ∧ PostA K mg φ H (m ρ h) (fun c d H' => W c d σ H') Q
def RdS (W : WX) (m : Y.Env → Y.Hp → RS) : TS := fun D σ H => ∃ φ ρ h, RH K mg φ h H ∧ TrS K φ H ρ σ ∧ PostS K mg φ H (m ρ h) W D
end
section
variable {K : Fg} {mg : Nm} {φ φ' φ2 : List Addr} {H H' H2 : L2.Hp} {h h' : Y.Hp}
theorem Bh.refl (r : RH K mg φ h H) : Bh K mg φ H h φ H := ⟨List.prefix_refl φ, .refl H, fun _ _ n e => ⟨e, n⟩, r⟩
theorem Bh.trans (a : Bh K mg φ H h φ' H') (b : Bh K mg φ' H' h' φ2 H2) : Bh K mg φ H h' φ2 H2 := ⟨a.pre.trans b.pre, a.keep.trans b.keep, fun c xs n e => let ⟨e', n'⟩ := a.oth c xs n e; b.oth c xs n' e', b.rh⟩
/-- a new object of the mini heap; one beside; one written -/
theorem Bh.push {p : Addr} {u : HO} (e : H p = none) (r : RH K mg (φ ++ [p]) h' (upd H p u)) : Bh K mg φ H h' (φ ++ [p]) (upd H p u) :=
  ⟨List.prefix_append _ _, .new e, fun a xs n ha => ⟨by rw [upd_ne (ne_of_none ha e)]; exact ha, fun m => by
    rcases List.mem_append.mp m with m | m
    · exact n m
    · exact ne_of_none ha e (List.mem_singleton.mp m)⟩, r⟩
theorem Bh.side {p : Addr} {u : HO} (e : H p = none) (r : RH K mg φ h' (upd H p u)) : Bh K mg φ H h' φ (upd H p u) :=
  ⟨List.prefix_refl φ, .new e, fun a xs n ha => ⟨by rw [upd_ne (ne_of_none ha e)]; exact ha, n⟩, r⟩
theorem Bh.write {p : Addr} {u : HO} (e : p ∈ φ) (k : Keep H (upd H p u)) (r : RH K mg φ h' (upd H p u)) : Bh K mg φ H h' φ (upd H p u) :=
  ⟨List.prefix_refl φ, k, fun a xs n ha => ⟨(upd_ne (show a ≠ p from fun z => n (by rw [z]; exact e))).trans ha, n⟩, r⟩
theorem Bh.tr (b : Bh K mg φ H h φ' H') {d : D} {v : V} (t : Tr K φ H d v) : Tr K φ' H' d v := t.up b.pre b.keep
theorem Bh.trL (b : Bh K mg φ H h φ' H') {d : List D} {v : List V} (t : TrL K φ H d v) : TrL K φ' H' d v := t.up b.pre b.keep
theorem Bh.trS (b : Bh K mg φ H h φ' H') {ρ : Y.Env} {σ : L2.St} (t : TrS K φ H ρ σ) : TrS K φ' H' ρ σ := t.up b.pre b.keep
variable {W W' : Value → Option Addr → L2.Hp → Prop}
/-- what was wanted from φ is wanted from what came behind -/
theorem PostE.on {r : Res D} {Q : VK} (b : Bh K mg φ H h φ' H') (p : PostE K mg φ H r W Q) : PostE K mg φ' H' r W Q := by
  cases r with
  | ok d h' => exact fun φ2 H2 v b2 t => p φ2 H2 v (b.trans b2) t
  | exc c fs h' => exact fun φ2 H2 c' d b2 t => p φ2 H2 c' d (b.trans b2) t
  | bad => exact p
theorem PostT.on {r : Res Bool} {Q : Bool → L2.Hp → Prop} (b : Bh K mg φ H h φ' H') (p : PostT K mg φ H r W Q) : PostT K mg φ' H' r W Q := by
  cases r with
  | ok d h' => exact fun φ2 H2 b2 => p φ2 H2 (b.trans b2)
  | exc c fs h' => exact fun φ2 H2 c' d b2 t => p φ2 H2 c' d (b.trans b2) t
  | bad => exact p
theorem PostA.on {r : Res (List D)} {Q : List V → L2.Hp → Prop} (b : Bh K mg φ H h φ' H') (p : PostA K mg φ H r W Q) : PostA K mg φ' H' r W Q := by
  cases r with
  | ok d h' => exact fun φ2 H2 v b2 t => p φ2 H2 v (b.trans b2) t
  | exc c fs h' => exact fun φ2 H2 c' d b2 t => p φ2 H2 c' d (b.trans b2) t
  | bad => exact p
theorem PostS.on {r : RS} {W : WX} {D : Ends} (b : Bh K mg φ H h φ' H') (p : PostS K mg φ H r W D) : PostS K mg φ' H' r W D := by
  cases r with
  | nx ρ h => exact fun φ2 H2 v b2 t => p φ2 H2 v (b.trans b2) t
  | bk ρ h => exact fun φ2 H2 v b2 t => p φ2 H2 v (b.trans b2) t
  | ct ρ h => exact fun φ2 H2 v b2 t => p φ2 H2 v (b.trans b2) t
  | rt d h => exact fun φ2 H2 v b2 t => p φ2 H2 v (b.trans b2) t
  | ex c fs ρ h => exact fun φ2 H2 s c' d b2 t u => p φ2 H2 s c' d (b.trans b2) t u
  | bad => exact p
/-- what is wanted of a first piece, where the whole is wanted -/
theorem PostE.bindE {r : Res D} {f : D → Y.Hp → Res D} {Q Q' : VK} (p : PostE K mg φ H (r.bind f) W Q)
    (hq : ∀ d h' φ' H' v, Bh K mg φ H h' φ' H' → Tr K φ' H' d v → PostE K mg φ' H' (f d h') W Q → Q' v H') : PostE K mg φ H r W Q' := by
  cases r with
  | ok d h' => exact fun φ' H' v b t => hq d h' φ' H' v b t (PostE.on b p)
  | exc c fs h' => exact p
  | bad => exact p
theorem PostE.bindT {r : Res D} {f : D → Y.Hp → Res Bool} {Q : Bool → L2.Hp → Prop} {Q' : VK} (p : PostT K mg φ H (r.bind f) W Q)
    (hq : ∀ d h' φ' H' v, Bh K mg φ H h' φ' H' → Tr K φ' H' d v → PostT K mg φ' H' (f d h') W Q → Q' v H') : PostE K mg φ H r W Q' := by
  cases r with
  | ok d h' => exact fun φ' H' v b t => hq d h' φ' H' v b t (PostT.on b p)
  | exc c fs h' => exact p
  | bad => exact p
theorem PostE.bindA {r : Res D} {f : D → Y.Hp → Res (List D)} {Q : List V → L2.Hp → Prop} {Q' : VK} (p : PostA K mg φ H (r.bind f) W Q)
    (hq : ∀ d h' φ' H' v, Bh K mg φ H h' φ' H' → Tr K φ' H' d v → PostA K mg φ' H' (f d h') W Q → Q' v H') : PostE K mg φ H r W Q' := by
  cases r with
  | ok d h' => exact fun φ' H' v b t => hq d h' φ' H' v b t (PostA.on b p)
  | exc c fs h' => exact p
  | bad => exact p
theorem PostT.bindE {r : Res Bool} {f : Bool → Y.Hp → Res D} {Q : VK} {Q' : Bool → L2.Hp → Prop} (p : PostE K mg φ H (r.bind f) W Q)
    (hq : ∀ d h' φ' H', Bh K mg φ H h' φ' H' → PostE K mg φ' H' (f d h') W Q → Q' d H') : PostT K mg φ H r W Q' := by
  cases r with
  | ok d h' => exact fun φ' H' b => hq d h' φ' H' b (PostE.on b p)
  | exc c fs h' => exact p
  | bad => exact p
theorem PostT.bindT {r : Res Bool} {f : Bool → Y.Hp → Res Bool} {Q Q' : Bool → L2.Hp → Prop} (p : PostT K mg φ H (r.bind f) W Q)
    (hq : ∀ d h' φ' H', Bh K mg φ H h' φ' H' → PostT K mg φ' H' (f d h') W Q → Q' d H') : PostT K mg φ H r W Q' := by
  cases r with
  | ok d h' => exact fun φ' H' b => hq d h' φ' H' b (PostT.on b p)
  | exc c fs h' => exact p
  | bad => exact p
theorem PostA.bindE {r : Res (List D)} {f : List D → Y.Hp → Res D} {Q : VK} {Q' : List V → L2.Hp → Prop} (p : PostE K mg φ H (r.bind f) W Q)
    (hq : ∀ d h' φ' H' v, Bh K mg φ H h' φ' H' → TrL K φ' H' d v → PostE K mg φ' H' (f d h') W Q → Q' v H') : PostA K mg φ H r W Q' := by
  cases r with
  | ok d h' => exact fun φ' H' v b t => hq d h' φ' H' v b t (PostE.on b p)
  | exc c fs h' => exact p
  | bad => exact p
theorem PostA.bindA {r : Res (List D)} {f : List D → Y.Hp → Res (List D)} {Q Q' : List V → L2.Hp → Prop} (p : PostA K mg φ H (r.bind f) W Q)
    (hq : ∀ d h' φ' H' v, Bh K mg φ H h' φ' H' → TrL K φ' H' d v → PostA K mg φ' H' (f d h') W Q → Q' v H') : PostA K mg φ H r W Q' := by
  cases r with
  | ok d h' => exact fun φ' H' v b t => hq d h' φ' H' v b t (PostA.on b p)
  | exc c fs h' => exact p
  | bad => exact p
theorem PostE.intoS {r : Res D} {ρ : Y.Env} {σ : L2.St} {f : D → Y.Hp → RS} {W : WX} {D : Ends} {Q' : VK} (s : TrS K φ H ρ σ) (p : PostS K mg φ H (r.into ρ f) W D)
    (hq : ∀ d h' φ' H' v, Bh K mg φ H h' φ' H' → Tr K φ' H' d v → PostS K mg φ' H' (f d h') W D → Q' v H') : PostE K mg φ H r (fun c d H' => W c d σ H') Q' := by
  cases r with
  | ok d h' => exact fun φ' H' v b t => hq d h' φ' H' v b t (PostS.on b p)
  | exc c fs h' => exact fun φ' H' cls dx b t => p φ' H' σ cls dx b (b.trS s) t
  | bad => exact p
theorem PostT.intoS {r : Res Bool} {ρ : Y.Env} {σ : L2.St} {f : Bool → Y.Hp → RS} {W : WX} {D : Ends} {Q' : Bool → L2.Hp → Prop} (s : TrS K φ H ρ σ) (p : PostS K mg φ H (r.into ρ f) W D)
    (hq : ∀ d h' φ' H', Bh K mg φ H h' φ' H' → PostS K mg φ' H' (f d h') W D → Q' d H') : PostT K mg φ H r (fun c d H' => W c d σ H') Q' := by
  cases r with
  | ok d h' => exact fun φ' H' b => hq d h' φ' H' b (PostS.on b p)
  | exc c fs h' => exact fun φ' H' cls dx b t => p φ' H' σ cls dx b (b.trS s) t
  | bad => exact p
theorem PostA.intoS {r : Res (List D)} {ρ : Y.Env} {σ : L2.St} {f : List D → Y.Hp → RS} {W : WX} {D : Ends} {Q' : List V → L2.Hp → Prop} (s : TrS K φ H ρ σ) (p : PostS K mg φ H (r.into ρ f) W D)
    (hq : ∀ d h' φ' H' v, Bh K mg φ H h' φ' H' → TrL K φ' H' d v → PostS K mg φ' H' (f d h') W D → Q' v H') : PostA K mg φ H r (fun c d H' => W c d σ H') Q' := by
  cases r with
  | ok d h' => exact fun φ' H' v b t => hq d h' φ' H' v b t (PostS.on b p)
  | exc c fs h' => exact fun φ' H' cls dx b t => p φ' H' σ cls dx b (b.trS s) t
  | bad => exact p
end
end Y

set_option Elab.async false
set_option linter.all false
set_option maxRecDepth 100000
/-! The operations of the mini level are the model's. -/
namespace Y
open PySem PySem.Spec PyProof.Rows L2

abbrev NoX : Value → Option Addr → L2.Hp → Prop := fun _ _ _ => False
section
variable (K : Fg) (mg : Nm)
def ROp (f : D → D → Y.Hp → Res D) : R2 := fun x y H Q => ∃ φ h d e, RH K mg φ h H ∧ Tr K φ H d x ∧ Tr K φ H e y ∧ PostE K mg φ H (f d e h) NoX Q
def RUn (f : D → Y.Hp → Res D) : V → L2.Hp → VK → Prop := fun x H Q => ∃ φ h d, RH K mg φ h H ∧ Tr K φ H d x ∧ PostE K mg φ H (f d h) NoX Q
def RCall (f : List D → Y.Hp → Res D) : List V → L2.Hp → VK → Prop := fun xs H Q => ∃ φ h ds, RH K mg φ h H ∧ TrL K φ H ds xs ∧ PostE K mg φ H (f ds h) NoX Q
end
section
variable {K : Fg} {mg : Nm} {φ : List Addr} {H : L2.Hp} {h : Y.Hp} {W W' : Value → Option Addr → L2.Hp → Prop}
theorem PostE.noexc {r : Res D} {Q : VK} (n : ∀ c fs h', r ≠ .exc c fs h') (p : PostE K mg φ H r W Q) : PostE K mg φ H r W' Q := by
  cases r with
  | ok d h' => exact p
  | exc c fs h' => exact absurd rfl (n c fs h')
  | bad => exact p
theorem PostE.here {d : D} {v : V} {Q : VK} (p : PostE K mg φ H (.ok d h) W Q) (r : RH K mg φ h H) (t : Tr K φ H d v) : Q v H := p φ H v (Bh.refl r) t
/-- a new object comes out -/
theorem PostE.made {o : Ob} {Q : VK} (p : PostE K mg φ H (new o h) W Q) (r : RH K mg φ h H) {a : Addr} {u : HO} (e : H a = none) (ho : OR K mg (φ ++ [a]) (upd H a u) o a) : Q (.ref a) (upd H a u) := by
  have k : Keep H (upd H a u) := .new e
  have r' : RH K mg (φ ++ [a]) (h ++ [o]) (upd H a u) := r.push e k (fun b hb => upd_ne fun z => r.fresh e (z ▸ hb)) ho
  exact p (φ ++ [a]) (upd H a u) (.ref a) (.push e r') (.ref (by rw [← r.len, List.getElem?_concat_length]))
theorem new_lst {ds : List D} {xs : List V} {a : Addr} (r : RH K mg φ h H) (e : H a = none) (t : TrL K φ H ds xs) : OR K mg (φ ++ [a]) (upd H a (.lst xs)) (.lst ds) a :=
  .lst upd_same (t.up (List.prefix_append _ _) (.new e))
/-- a value beside the mini heap comes out -/
theorem PostE.beside {d : D} {Q : VK} (p : PostE K mg φ H (.ok d h) W Q) (r : RH K mg φ h H) {a : Addr} {u : HO} {v : V} (e : H a = none) (t : Tr K φ (upd H a u) d v) : Q v (upd H a u) :=
  p φ (upd H a u) v (.side e (r.beside e)) t
theorem OR.lst_of {ds : List D} {a : Addr} (o : OR K mg φ H (.lst ds) a) : ∃ xs, H a = some (.lst xs) ∧ TrL K φ H ds xs := by
  cases o with
  | lst h t => exact ⟨_, h, t⟩
theorem OR.ro_of {ds : List D} {a : Addr} (o : OR K mg φ H (.ro ds) a) : ∃ ob xs, H a = some (.frz ob (.lst xs)) ∧ TrL K φ H ds xs := by
  cases o with
  | ro h t => exact ⟨_, _, h, t⟩
theorem OR.dict_of {ds : List (D × D)} {a : Addr} (o : OR K mg φ H (.dict ds) a) : ∃ u, H a = some u ∧ DR K mg φ H a ds u := by
  cases o with
  | dict h t => exact ⟨_, h, t⟩
theorem OR.ldict_of {ds : List (D × D)} {a : Addr} (o : OR K mg φ H (.ldict ds) a) : ∃ ob u, H a = some (.frz ob u) ∧ DR K mg φ H a ds u := by
  cases o with
  | ldict h t => exact ⟨_, _, h, t⟩
theorem OR.ins_of {c : String} {fs : List (String × D)} {a : Addr} (o : OR K mg φ H (.ins c fs) a) : ∃ C dx xs, H a = some (.ins C dx xs) ∧ mg.mg (Str.ofString c) = some (.ref C) ∧ CK K C ∧ FR K φ H fs xs := by
  cases o with
  | ins h m ck t => exact ⟨_, _, _, h, m, ck, t⟩
/-- the object that a mini number names -/
theorem Tr.obj (r : RH K mg φ h H) {n : Nat} {o : Ob} {v : V} (t : Tr K φ H (.ref n) v) (e : h[n]? = some o) : ∃ a, v = .ref a ∧ φ[n]? = some a ∧ OR K mg φ H o a := by
  obtain ⟨a, rfl, ha⟩ := t.of_ref
  exact ⟨a, rfl, ha, r.ob n o a e ha⟩
end
theorem line_eq : line = sizeLine := by rw [sizeLine_eq]; rfl

section
variable {X : Cx}
theorem OpR.imp {f : Value → Value → Sem Value} {r r' : R2} (o : OpR X f r) (i : ∀ x y H Q, r' x y H Q → r x y H Q) : OpR X f r' :=
  fun pins s σ H x y v u Q I rx ry q => o pins s σ H x y v u Q I rx ry (i _ _ _ _ q)

theorem op_add_m : OpR X (binaryOp .Add) (ROp X.K (nm X) (binop .add)) := by
  intro pins s σ H x y v u Q I rx ry q
  obtain ⟨φ, h, d, e, rh, td, te, p⟩ := q
  cases d with
  | int i =>
    cases e with
    | int j =>
      obtain rfl := td.of_int; obtain rfl := te.of_int
      exact op_add pins s σ H _ _ v u Q I rx ry ⟨i, j, rfl, rfl, p.here rh (.int _)⟩
    | _ => exact (show False from p).elim
  | str a =>
    cases e with
    | str b =>
      obtain rfl := td.of_str; obtain rfl := te.of_str
      simp only [binop] at p
      by_cases hl : a.length + b.length ≤ line
      · rw [if_pos hl] at p
        exact op_add_str pins s σ H _ _ v u Q I rx ry ⟨a, b, rfl, rfl, by rw [← line_eq]; exact hl, p.here rh (.str _)⟩
      · rw [if_neg hl] at p; exact (show False from p).elim
    | _ => exact (show False from p).elim
  | tup a =>
    cases e with
    | tup b =>
      obtain ⟨pa, xs, rfl, sa, ta⟩ := td.of_tup
      obtain ⟨pb, ys, rfl, sb, tb⟩ := te.of_tup
      simp only [binop] at p
      by_cases hl : a.length + b.length ≤ line
      · rw [if_pos hl] at p
        have l1 := ta.length
        have l2 := tb.length
        refine op_catA pins s σ H _ _ v u Q I rx ry ⟨pa, pb, xs, ys, rfl, rfl, sa, sb, by rw [← line_eq, ← l1, ← l2]; exact hl, fun e => ?_, fun _ e => ?_, fun _ _ q hq => ?_⟩
        · subst e
          cases ta
          exact p.here rh (.tup sb tb)
        · subst e
          cases tb
          rw [List.append_nil] at p
          exact p.here rh (.tup sa ta)
        · exact p.beside rh hq (.tup (.of upd_same) ((ta.append tb).up (List.prefix_refl _) (.new hq)))
      · rw [if_neg hl] at p; exact (show False from p).elim
    | _ => exact (show False from p).elim
  | ref m =>
    cases e with
    | ref n =>
      simp only [binop] at p
      split at p
      · rename_i a b e1 e2
        obtain ⟨pa, rfl, _, oa⟩ := td.obj rh e1
        obtain ⟨pb, rfl, _, ob⟩ := te.obj rh e2
        obtain ⟨xs, ha, ta⟩ := oa.lst_of
        obtain ⟨ys, hb, tb⟩ := ob.lst_of
        by_cases hl : a.length + b.length ≤ line
        · rw [if_pos hl] at p
          refine op_cat pins s σ H _ _ v u Q I rx ry ⟨pa, pb, xs, ys, rfl, rfl, ha, hb, by rw [← line_eq, ← ta.length, ← tb.length]; exact hl, fun q hq => ?_⟩
          exact p.made rh hq (new_lst rh hq (ta.append tb))
        · rw [if_neg hl] at p; exact (show False from p).elim
      · exact (show False from p).elim
    | _ => exact (show False from p).elim
  | _ => exact (show False from by cases e <;> exact p).elim

theorem op_sub_m : OpR X (binaryOp .Sub) (ROp X.K (nm X) (binop .sub)) := by
  intro pins s σ H x y v u Q I rx ry q
  obtain ⟨φ, h, d, e, rh, td, te, p⟩ := q
  cases d with
  | int i =>
    cases e with
    | int j =>
      obtain rfl := td.of_int; obtain rfl := te.of_int
      exact op_sub pins s σ H _ _ v u Q I rx ry ⟨i, j, rfl, rfl, p.here rh (.int _)⟩
    | _ => exact (show False from p).elim
  | _ => exact (show False from by cases e <;> exact p).elim

theorem mulOk_wide {i j : Int} (h : mulOk i j = true) : IntMulOk i j := by
  unfold mulOk at h
  simp only [Bool.and_eq_true, decide_eq_true_eq] at h
  refine IntMulOk.of_bits ?_ ?_ <;> (simp only [Builtin.Int.intBits]; split <;> omega)
theorem op_mul_m : OpR X (binaryOp .Mult) (ROp X.K (nm X) (binop .mul)) := by
  intro pins s σ H x y v u Q I rx ry q
  obtain ⟨φ, h, d, e, rh, td, te, p⟩ := q
  cases d with
  | int i =>
    cases e with
    | int j =>
      obtain rfl := td.of_int; obtain rfl := te.of_int
      simp only [binop] at p
      by_cases hm : mulOk i j = true
      · rw [if_pos hm] at p
        obtain ⟨t, rfl⟩ := rx
        obtain ⟨t', rfl⟩ := ry
        exact mul_int ⟨.int _, H, I.tok _, ⟨_, rfl⟩, p.here rh (.int _)⟩ (mulOk_wide hm)
      · rw [if_neg hm] at p; exact (show False from p).elim
    | _ => exact (show False from p).elim
  | tup a =>
    cases e with
    | int j =>
      obtain ⟨pa, xs, rfl, sa, ta⟩ := td.of_tup
      obtain rfl := te.of_int
      simp only [binop] at p
      split at p
      · rename_i hc
        simp only [Bool.and_eq_true, decide_eq_true_eq] at hc
        obtain ⟨⟨⟨h1, h2⟩, h3⟩, h4⟩ := hc
        refine op_repT pins s σ H _ _ v u Q I rx ry ⟨pa, j, xs, rfl, rfl, sa, ?_, h2, h3, by rw [← ta.length]; exact h4, fun q hq => ?_⟩
        · intro z; subst z; cases ta; exact h1 rfl
        · exact p.beside rh hq (.tup (.of upd_same) ((ta.flatten j.toNat).up (List.prefix_refl _) (.new hq)))
      · exact (show False from p).elim
    | _ => exact (show False from p).elim
  | ref m =>
    cases e with
    | int j =>
      obtain rfl := te.of_int
      simp only [binop] at p
      split at p
      · rename_i a e1
        obtain ⟨pa, rfl, _, oa⟩ := td.obj rh e1
        obtain ⟨xs, ha, ta⟩ := oa.lst_of
        split at p
        · rename_i hc
          simp only [Bool.and_eq_true, decide_eq_true_eq] at hc
          obtain ⟨⟨h1, h2⟩, h3⟩ := hc
          refine op_rep pins s σ H _ _ v u Q I rx ry ⟨pa, j, xs, rfl, rfl, ha, by omega, by omega, by rw [← line_eq, ← ta.length]; exact h3, fun q hq => ?_⟩
          exact p.made rh hq (new_lst rh hq (ta.flatten j.toNat))
        · exact (show False from p).elim
      · exact (show False from p).elim
    | _ => exact (show False from p).elim
  | _ => exact (show False from by cases e <;> exact p).elim

theorem op_fdiv_m : OpR X (binaryOp .FloorDiv) (ROp X.K (nm X) (binop .fdiv)) := by
  intro pins s σ H x y v u Q I rx ry q
  obtain ⟨φ, h, d, e, rh, td, te, p⟩ := q
  cases d with
  | int i =>
    cases e with
    | int j =>
      obtain rfl := td.of_int; obtain rfl := te.of_int
      simp only [binop] at p
      by_cases hm : divOk j = true
      · rw [if_pos hm] at p
        simp only [divOk, Bool.and_eq_true, decide_eq_true_eq] at hm
        exact op_fdivW pins s σ H _ _ v u Q I rx ry ⟨i, j, rfl, rfl, hm, p.here rh (.int _)⟩
      · rw [if_neg hm] at p; exact (show False from p).elim
    | _ => exact (show False from p).elim
  | _ => exact (show False from by cases e <;> exact p).elim
theorem op_mod_m : OpR X (binaryOp .Mod) (ROp X.K (nm X) (binop .mod)) := by
  intro pins s σ H x y v u Q I rx ry q
  obtain ⟨φ, h, d, e, rh, td, te, p⟩ := q
  cases d with
  | int i =>
    cases e with
    | int j =>
      obtain rfl := td.of_int; obtain rfl := te.of_int
      simp only [binop] at p
      by_cases hm : 0 < j
      · rw [if_pos hm] at p
        exact op_mod pins s σ H _ _ v u Q I rx ry ⟨i, j, rfl, rfl, hm, p.here rh (.int _)⟩
      · rw [if_neg hm] at p; exact (show False from p).elim
    | _ => exact (show False from p).elim
  | _ => exact (show False from by cases e <;> exact p).elim
theorem op_pow_m : OpR X (binaryOp .Pow) (ROp X.K (nm X) (binop .pow)) := by
  intro pins s σ H x y v u Q I rx ry q
  obtain ⟨φ, h, d, e, rh, td, te, p⟩ := q
  cases d with
  | int i =>
    cases e with
    | int j =>
      obtain rfl := td.of_int; obtain rfl := te.of_int
      simp only [binop] at p
      split at p
      · rename_i hm
        simp only [Bool.and_eq_true, decide_eq_true_eq] at hm
        exact op_pow pins s σ H _ _ v u Q I rx ry ⟨i, j, rfl, rfl, ⟨hm.1.1, hm.1.2, hm.2⟩, p.here rh (.int _)⟩
      · exact (show False from p).elim
    | _ => exact (show False from p).elim
  | _ => exact (show False from by cases e <;> exact p).elim
end
theorem noexc_new {o : Ob} {h : Y.Hp} : ∀ c fs h', new o h ≠ .exc c fs h' := by intro c fs h'; simp [new]
theorem noexc_binop {o : Op} {x y : D} {h : Y.Hp} : ∀ c fs h', binop o x y h ≠ .exc c fs h' := by
  intro c fs h' e
  unfold binop at e
  split at e <;> (try split at e) <;> (try split at e) <;> simp [new] at e
end Y

set_option Elab.async false
set_option linter.all false
set_option maxRecDepth 100000
/-! Comparisons, truth, places, slices, lengths. -/
namespace Y
open PySem PySem.Spec PyProof.Rows L2

/-! ### data -/
mutual
def py : D → PyData
  | .non => .none
  | .bl b => .bool b
  | .int i => .int i
  | .str x => .str x
  | .tup ds => .tuple (pyL ds)
  | _ => .none
def pyL : List D → List PyData
  | [] => []
  | d :: ds => py d :: pyL ds
end
section
variable {K : Fg} {φ : List Addr} {H : L2.Hp}
mutual
theorem dp_of : ∀ (d : D) (v : V), D.pure d = true → Tr K φ H d v → Dp K H v (py d)
  | .non, _, _, .non => by rw [py]; exact .non
  | .bl b, _, _, .bl _ => by rw [py]; exact .bl b
  | .int i, _, _, .int _ => by rw [py]; exact .int i
  | .str x, _, _, .str _ => by rw [py]; exact .str x
  | .tup ds, _, p, .tup s t => by rw [py]; exact .tup s (dp_ofL ds _ (by rw [D.pure] at p; exact p) t)
  | .ref n, _, p, _ => by rw [D.pure] at p; cases p
theorem dp_ofL : ∀ (ds : List D) (vs : List V), D.pureL ds = true → TrL K φ H ds vs → DpAll K H vs (pyL ds)
  | [], _, _, .nil => by rw [pyL]; exact .nil
  | d :: ds, _, p, .cons t r => by
    rw [D.pureL, Bool.and_eq_true] at p
    rw [pyL]
    exact .cons (dp_of d _ p.1 t) (dp_ofL ds _ p.2 r)
end
end
mutual
theorem py_lay : ∀ d : D, D.pure d = true → (py d).canLay0 = true
  | .non, _ => by simp [py, PyData.canLay0]
  | .bl _, _ => by simp [py, PyData.canLay0]
  | .int _, _ => by simp [py, PyData.canLay0]
  | .str x, p => by rw [D.pure] at p; simp only [py, PyData.canLay0, PyData.strOk]; exact p
  | .tup ds, p => by rw [D.pure] at p; simp only [py, PyData.canLay0]; exact py_layL ds p
  | .ref _, p => by rw [D.pure] at p; cases p
  | .gl _, p => by rw [D.pure] at p; cases p
  | .ty _, p => by rw [D.pure] at p; cases p
theorem py_layL : ∀ ds : List D, D.pureL ds = true → PyData.canLayAll0 (pyL ds) = true
  | [], _ => by simp [pyL, PyData.canLayAll0]
  | d :: ds, p => by
    rw [D.pureL, Bool.and_eq_true] at p
    simp only [pyL, PyData.canLayAll0, Bool.and_eq_true]
    exact ⟨py_lay d p.1, py_layL ds p.2⟩
end
mutual
theorem py_depth : ∀ d : D, (py d).depth = d.depth
  | .non => by simp [py, PyData.depth, D.depth]
  | .bl _ => by simp [py, PyData.depth, D.depth]
  | .int _ => by simp [py, PyData.depth, D.depth]
  | .str _ => by simp [py, PyData.depth, D.depth]
  | .tup ds => by simp only [py, PyData.depth, D.depth]; rw [py_depthL ds]
  | .ref _ => by simp [py, PyData.depth, D.depth]
  | .gl _ => by simp [py, PyData.depth, D.depth]
  | .ty _ => by simp [py, PyData.depth, D.depth]
theorem py_depthL : ∀ ds : List D, PyData.depthAll (pyL ds) = D.depthL ds
  | [] => by simp [pyL, PyData.depthAll, D.depthL]
  | d :: ds => by simp only [pyL, PyData.depthAll, D.depthL]; rw [py_depth d, py_depthL ds]
end
mutual
theorem py_eqv : ∀ a b : D, D.pure a = true → D.pure b = true → PyData.eqv (py a) (py b) = D.eqv a b
  | .non, b, _, p => by cases b <;> simp_all [py, PyData.eqv, D.eqv, D.pure]
  | .bl x, b, _, p => by cases b <;> simp_all [py, PyData.eqv, D.eqv, D.pure, Bool.beq_eq_decide_eq]
  | .int x, b, _, p => by cases b <;> simp_all [py, PyData.eqv, D.eqv, D.pure, Bool.beq_eq_decide_eq] <;> rfl
  | .str x, b, _, p => by cases b <;> simp_all [py, PyData.eqv, D.eqv, D.pure, Bool.beq_eq_decide_eq] <;> rfl
  | .tup xs, .tup ys, p, q => by
    rw [D.pure] at p q
    simp only [py, PyData.eqv, D.eqv]
    exact py_eqvL xs ys p q
  | .tup xs, .non, _, _ => by simp [py, PyData.eqv, D.eqv]
  | .tup xs, .bl _, _, _ => by simp [py, PyData.eqv, D.eqv]
  | .tup xs, .int _, _, _ => by simp [py, PyData.eqv, D.eqv]
  | .tup xs, .str _, _, _ => by simp [py, PyData.eqv, D.eqv]
  | .tup xs, .ref _, _, p => by rw [D.pure] at p; cases p
  | .tup xs, .gl _, _, p => by rw [D.pure] at p; cases p
  | .tup xs, .ty _, _, p => by rw [D.pure] at p; cases p
  | .ref _, _, p, _ => by rw [D.pure] at p; cases p
  | .gl _, _, p, _ => by rw [D.pure] at p; cases p
  | .ty _, _, p, _ => by rw [D.pure] at p; cases p
theorem py_eqvL : ∀ a b : List D, D.pureL a = true → D.pureL b = true → PyData.eqvAll (pyL a) (pyL b) = D.eqvL a b
  | [], [], _, _ => by simp [pyL, PyData.eqvAll, D.eqvL]
  | [], _ :: _, _, _ => by simp [pyL, PyData.eqvAll, D.eqvL]
  | _ :: _, [], _, _ => by simp [pyL, PyData.eqvAll, D.eqvL]
  | a :: as, b :: bs, p, q => by
    rw [D.pureL, Bool.and_eq_true] at p q
    simp only [pyL, PyData.eqvAll, D.eqvL]
    rw [py_eqv a b p.1 q.1, py_eqvL as bs p.2 q.2]
end
theorem shaped_of {d : D} (p : D.pure d = true) (h : d.depth ≤ 60) : SeqAt.shaped (py d) = true := by
  unfold SeqAt.shaped
  rw [Bool.and_eq_true]
  exact ⟨py_lay d p, decide_eq_true (by rw [py_depth]; omega)⟩
theorem shaped_ofL {ds : List D} (p : D.pureL ds = true) (h : D.depthL ds ≤ 60) : SeqAt.shaped (.list (pyL ds)) = true := by
  unfold SeqAt.shaped
  rw [Bool.and_eq_true]
  refine ⟨by rw [PyData.canLay0]; exact py_layL ds p, decide_eq_true ?_⟩
  rw [PyData.depth, py_depthL]
  omega

section
variable {K : Fg} {mg : Nm} {φ : List Addr} {H : L2.Hp} {h : Y.Hp}
/-- what == tells of two mini values, told of the data -/
theorem eq_data {x y : D} {v u : V} {b : Bool} (r : RH K mg φ h H) (tx : Tr K φ H x v) (ty : Tr K φ H y u) (e : eq? x y h = some b) :
    ∃ d e', Dp K H v d ∧ Dp K H u e' ∧ SeqAt.shaped d = true ∧ SeqAt.shaped e' = true ∧ PyData.eqv d e' = b := by
  have plain : ∀ {z : D} {w : V}, Tr K φ H z w → D.pure z = true → z.depth ≤ 60 → Dp K H w (py z) ∧ SeqAt.shaped (py z) = true := fun t p q => ⟨dp_of _ _ p t, shaped_of p q⟩
  have lst : ∀ {n : Nat} {a : List D} {w : V}, Tr K φ H (.ref n) w → h[n]? = some (.lst a) → D.pureL a = true → D.depthL a ≤ 60 → Dp K H w (.list (pyL a)) ∧ SeqAt.shaped (.list (pyL a)) = true := fun t e p q => by
    obtain ⟨pa, rfl, _, oa⟩ := t.obj r e
    obtain ⟨xs, ha, ta⟩ := oa.lst_of
    exact ⟨.lst (.of ha) (dp_ofL _ _ p ta), shaped_ofL p q⟩
  unfold eq? at e
  split at e
  · split at e
    · split at e
      · rename_i hc
        simp only [Bool.and_eq_true, decide_eq_true_eq] at hc
        cases e
        rename_i e1 e2
        obtain ⟨p1, q1⟩ := lst tx e1 hc.1.1.1 hc.1.2
        obtain ⟨p2, q2⟩ := lst ty e2 hc.1.1.2 hc.2
        exact ⟨_, _, p1, p2, q1, q2, by rw [PyData.eqv]; exact py_eqvL _ _ hc.1.1.1 hc.1.1.2⟩
      · cases e
    · cases e
  · split at e
    · split at e
      · rename_i hc
        simp only [Bool.and_eq_true, decide_eq_true_eq] at hc
        cases e
        rename_i e1
        obtain ⟨p1, q1⟩ := lst tx e1 hc.1.1.1 hc.1.1.2
        obtain ⟨p2, q2⟩ := plain ty hc.1.2 hc.2
        refine ⟨_, _, p1, p2, q1, q2, ?_⟩
        cases y <;> simp_all [py, PyData.eqv, D.pure]
      · cases e
    · cases e
  · split at e
    · split at e
      · rename_i hc
        simp only [Bool.and_eq_true, decide_eq_true_eq] at hc
        cases e
        rename_i e1
        obtain ⟨p1, q1⟩ := lst ty e1 hc.1.1.1 hc.1.1.2
        obtain ⟨p2, q2⟩ := plain tx hc.1.2 hc.2
        refine ⟨_, _, p2, p1, q2, q1, ?_⟩
        cases x <;> simp_all [py, PyData.eqv, D.pure]
      · cases e
    · cases e
  · split at e
    · rename_i hc
      simp only [Bool.and_eq_true, decide_eq_true_eq] at hc
      cases e
      obtain ⟨p1, q1⟩ := plain tx hc.1.1.1 hc.1.2
      obtain ⟨p2, q2⟩ := plain ty hc.1.1.2 hc.2
      exact ⟨_, _, p1, p2, q1, q2, py_eqv _ _ hc.1.1.1 hc.1.1.2⟩
    · cases e
end

section
variable {X : Cx}
/-- a comparison that tells a Bool, by values -/
def RCm (K : Fg) (mg : Nm) (o : Cm) : R2 := fun x y H Q => ∃ φ h d e b, RH K mg φ h H ∧ Tr K φ H d x ∧ Tr K φ H e y ∧ Y.compare o d e h = some b ∧ Q (.bl b) H
theorem op_eq_m (hu : X.A.units + 64 < cLine) : OpR X (compareOp .Eq) (RCm X.K (nm X) .eq) := by
  intro pins s σ H x y v u Q I rx ry q
  obtain ⟨φ, h, d, e, b, rh, td, te, p, q⟩ := q
  obtain ⟨d', e', h1, h2, h3, h4, h5⟩ := eq_data rh td te p
  exact op_eqD hu pins s σ H x y v u Q I rx ry ⟨d', e', h1, h2, h3, h4, by rw [h5]; exact q⟩
theorem op_ne_m (hu : X.A.units + 64 < cLine) : OpR X (compareOp .NotEq) (RCm X.K (nm X) .ne) := by
  intro pins s σ H x y v u Q I rx ry q
  obtain ⟨φ, h, d, e, b, rh, td, te, p, q⟩ := q
  simp only [Y.compare, Option.map_eq_some_iff] at p
  obtain ⟨b', p, rfl⟩ := p
  obtain ⟨d', e', h1, h2, h3, h4, h5⟩ := eq_data rh td te p
  exact op_neD hu pins s σ H x y v u Q I rx ry ⟨d', e', h1, h2, h3, h4, by rw [h5]; exact q⟩
theorem cmp_ints {o : Cm} {d e : D} {h : Y.Hp} {b : Bool} (ho : o = .lt ∨ o = .gt ∨ o = .ge) (p : Y.compare o d e h = some b) : ∃ i j, d = .int i ∧ e = .int j ∧ cmpI o i j = some b := by
  rcases ho with rfl | rfl | rfl <;> (cases d <;> cases e <;> simp_all [Y.compare])
theorem op_lt_m : OpR X (compareOp .Lt) (RCm X.K (nm X) .lt) := by
  intro pins s σ H x y v u Q I rx ry q
  obtain ⟨φ, h, d, e, b, rh, td, te, p, q⟩ := q
  obtain ⟨i, j, rfl, rfl, p⟩ := cmp_ints (by simp) p
  obtain rfl := td.of_int; obtain rfl := te.of_int
  cases p
  exact op_lt pins s σ H _ _ v u Q I rx ry ⟨i, j, rfl, rfl, q⟩
theorem firstLt_from (e r : Nat → Bool) (z : Bool) : ∀ l : List Nat, PySem.SeqAt.firstLt e r z (l.map (· + 1)) = PySem.SeqAt.firstLt (fun j => e (j + 1)) (fun j => r (j + 1)) z l
  | [] => rfl
  | j :: l => by
    rw [List.map_cons, PySem.SeqAt.firstLt, PySem.SeqAt.firstLt, firstLt_from e r z l]
theorem firstLt_lex : ∀ ns ms : List Int, PySem.SeqAt.firstLt (fun j => decide (ns.getD j 0 = ms.getD j 0)) (fun j => decide (ns.getD j 0 ≤ ms.getD j 0)) (decide (ns.length ≤ ms.length)) (List.range (min ns.length ms.length)) = lexLe ns ms
  | [], ms => by simp [PySem.SeqAt.firstLt, lexLe]
  | _ :: _, [] => by simp [PySem.SeqAt.firstLt, lexLe]
  | x :: ns, y :: ms => by
    have ih := firstLt_lex ns ms
    have e1 : min (x :: ns).length (y :: ms).length = min ns.length ms.length + 1 := by simp
    rw [e1, List.range_succ_eq_map, PySem.SeqAt.firstLt]
    have e2 : List.map Nat.succ (List.range (min ns.length ms.length)) = (List.range (min ns.length ms.length)).map (· + 1) := rfl
    rw [e2, firstLt_from]
    simp only [List.getD_cons_zero, List.getD_cons_succ, List.length_cons, Nat.add_le_add_iff_right]
    rw [ih, lexLe]
    by_cases z : x = y
    · subst z; simp
    · by_cases w : x < y
      · have : x ≤ y := by omega
        simp [z, w, this]
      · have : ¬ x ≤ y := by omega
        simp [z, w, this]
def rLeL (K : PySem.W.Frag) : R2 := fun x y H Q => ∃ (a b : Addr) (ns ms : List Int), x = .ref a ∧ y = .ref b ∧ SqL K H a (ns.map V.int) ∧ SqL K H b (ms.map V.int) ∧ Q (.bl (lexLe ns ms)) H
theorem op_leL {X : Cx} (hu : X.A.units < cLine) : OpR X (compareOp .LtE) (rLeL X.K) := by
  intro pins s σ H x y v u Q I rx ry h
  obtain ⟨a, b, ns, ms, rfl, rfl, ha, hb, q⟩ := h
  cases rx
  cases ry
  obtain ⟨its, r1, p1, _⟩ := I.list ha
  obtain ⟨its2, r2, p2, _⟩ := I.list hb
  have i1 : IntsAre its ns := Vals.ints r1
  have i2 : IntsAre its2 ms := Vals.ints r2
  have e1 : its.toArray.size = ns.length := by rw [List.size_toArray]; exact i1.length
  have e2 : its2.toArray.size = ms.length := by rw [List.size_toArray]; exact i2.length
  have at1 : ∀ j (h1 : j < its.toArray.size), ∃ t, its.toArray[j] = .int (ns.getD j 0) t := fun j h1 => PyProof.Rows.IntsAre.int_at i1 _ _ (by simp at h1; simp [h1])
  have at2 : ∀ j (h1 : j < its2.toArray.size), ∃ t, its2.toArray[j] = .int (ms.getD j 0) t := fun j h1 => PyProof.Rows.IntsAre.int_at i2 _ _ (by simp at h1; simp [h1])
  have l1 : s.heap.IsList a its.toArray := by obtain ⟨o, n, z1, z2, _, z3⟩ := p1; exact ⟨o, z1, z2, n, z3⟩
  have l2 : s.heap.IsList b its2.toArray := by obtain ⟨o, n, z1, z2, _, z3⟩ := p2; exact ⟨o, z1, z2, n, z3⟩
  have R := PySem.SeqAt.RcOp.lists_le (A := X.A) (s := s) (e := fun j => decide (ns.getD j 0 = ms.getD j 0)) (r := fun j => decide (ns.getD j 0 ≤ ms.getD j 0)) l1 l2 hu (fun j h1 h2 => by
    obtain ⟨t, et⟩ := at1 j h1
    obtain ⟨t', et'⟩ := at2 j h2
    rw [et, et']
    have z : (ns.getD j 0 == ms.getD j 0) = decide (ns.getD j 0 = ms.getD j 0) := by
      by_cases q : ns.getD j 0 = ms.getD j 0
      · rw [decide_eq_true q]; exact beq_iff_eq.mpr q
      · rw [decide_eq_false q]; exact beq_eq_false_iff_ne.mpr q
    rw [← z]
    exact SeqAt.EqAt.int_int _ _ _ _) (fun j h1 h2 _ => by
    obtain ⟨t, et⟩ := at1 j h1
    obtain ⟨t', et'⟩ := at2 j h2
    rw [et, et']
    exact fun _ _ _ _ h => PyProof.Rows.le_int h)
  rw [e1, e2, firstLt_lex] at R
  have z : wpAny (model X.prog X.w) X.A (compareOp .LtE (.ref a) (.ref b)) (EP X pins σ Q) X.xe s := R X.prog X.w X.xe (EP X pins σ Q) ⟨.bl _, H, I, rfl, q⟩
  exact z
theorem ints_trV {K : Fg} {φ : List Addr} {H : L2.Hp} : ∀ {ds : List D} {xs : List V} {ns : List Int}, TrL K φ H ds xs → intsOf ds = some ns → xs = ns.map V.int
  | [], _, _, .nil, e => by cases e; rfl
  | .int i :: ds, _, ns, .cons t r, e => by
    simp only [intsOf, Option.map_eq_some_iff] at e
    obtain ⟨ns', e, rfl⟩ := e
    obtain rfl := t.of_int
    rw [ints_trV r e]
    rfl
  | .non :: _, _, _, _, e => by simp [intsOf] at e
  | .bl _ :: _, _, _, _, e => by simp [intsOf] at e
  | .str _ :: _, _, _, _, e => by simp [intsOf] at e
  | .tup _ :: _, _, _, _, e => by simp [intsOf] at e
  | .ref _ :: _, _, _, _, e => by simp [intsOf] at e
  | .gl _ :: _, _, _, _, e => by simp [intsOf] at e
  | .ty _ :: _, _, _, _, e => by simp [intsOf] at e
theorem op_le_m (hu : X.A.units + 64 < cLine) : OpR X (compareOp .LtE) (RCm X.K (nm X) .le) := by
  intro pins s σ H x y v u Q I rx ry q
  obtain ⟨φ, h, d, e, b, rh, td, te, p, q⟩ := q
  simp only [Y.compare] at p
  split at p
  · obtain rfl := td.of_int; obtain rfl := te.of_int
    cases p
    exact op_le pins s σ H _ _ v u Q I rx ry ⟨_, _, rfl, rfl, q⟩
  · unfold leL at p
    split at p
    · split at p
      · rename_i a b q1 q2
        split at p
        · rename_i ns ms i1 i2
          cases p
          obtain ⟨pa, rfl, _, oa⟩ := td.obj rh q1
          obtain ⟨pb, rfl, _, ob⟩ := te.obj rh q2
          obtain ⟨xs, ha, ta⟩ := oa.lst_of
          obtain ⟨ys, hb, tb⟩ := ob.lst_of
          exact op_leL (by omega) pins s σ H _ _ v u Q I rx ry ⟨pa, pb, ns, ms, rfl, rfl, .of (by rw [← ints_trV ta i1]; exact ha), .of (by rw [← ints_trV tb i2]; exact hb), q⟩
        · cases p
      · cases p
    · cases p
theorem op_gt_m : OpR X (compareOp .Gt) (RCm X.K (nm X) .gt) := by
  intro pins s σ H x y v u Q I rx ry q
  obtain ⟨φ, h, d, e, b, rh, td, te, p, q⟩ := q
  obtain ⟨i, j, rfl, rfl, p⟩ := cmp_ints (by simp) p
  obtain rfl := td.of_int; obtain rfl := te.of_int
  cases p
  exact op_gt pins s σ H _ _ v u Q I rx ry ⟨i, j, rfl, rfl, q⟩
theorem op_ge_m : OpR X (compareOp .GtE) (RCm X.K (nm X) .ge) := by
  intro pins s σ H x y v u Q I rx ry q
  obtain ⟨φ, h, d, e, b, rh, td, te, p, q⟩ := q
  obtain ⟨i, j, rfl, rfl, p⟩ := cmp_ints (by simp) p
  obtain rfl := td.of_int; obtain rfl := te.of_int
  cases p
  exact op_ge pins s σ H _ _ v u Q I rx ry ⟨i, j, rfl, rfl, q⟩
theorem is_none {d e : D} {b : Bool} (p : is? d e = some b) : e = .non ∧ b = decide (d = .non) ∨ ∃ x y, d = .bl x ∧ e = .bl y ∧ b = decide (x = y) := by
  cases d <;> cases e <;> simp_all [is?]
theorem tr_none {K : Fg} {φ : List Addr} {H : L2.Hp} {d : D} {v : V} (t : Tr K φ H d v) : decide (v = .non) = decide (d = .non) := by
  cases t <;> simp
theorem op_is_m : OpR X (compareOp .Is) (RCm X.K (nm X) .is) := by
  intro pins s σ H x y v u Q I rx ry q
  obtain ⟨φ, h, d, e, b, rh, td, te, p, q⟩ := q
  rcases is_none p with ⟨rfl, rfl⟩ | ⟨_, _, rfl, rfl, rfl⟩
  · obtain rfl := te.of_non
    exact op_isN pins s σ H _ _ v u Q I rx ry ⟨rfl, by rw [tr_none td]; exact q⟩
  · obtain rfl := te.of_bl
    obtain rfl := td.of_bl
    exact op_is_bl pins s σ H _ _ v u Q I rx ry ⟨_, _, rfl, rfl, q⟩
theorem op_isn_m : OpR X (compareOp .IsNot) (RCm X.K (nm X) .isn) := by
  intro pins s σ H x y v u Q I rx ry q
  obtain ⟨φ, h, d, e, b, rh, td, te, p, q⟩ := q
  simp only [Y.compare, Option.map_eq_some_iff] at p
  obtain ⟨b', p, rfl⟩ := p
  rcases is_none p with ⟨rfl, rfl⟩ | ⟨_, _, rfl, rfl, rfl⟩
  · obtain rfl := te.of_non
    exact op_notN pins s σ H _ _ v u Q I rx ry ⟨rfl, by rw [tr_none td]; exact q⟩
  · obtain rfl := te.of_bl
    obtain rfl := td.of_bl
    exact op_isnot_bl pins s σ H _ _ v u Q I rx ry ⟨_, _, rfl, rfl, q⟩

/-! ### truth -/
theorem tru_m {K : Fg} {mg : Nm} {φ : List Addr} {H : L2.Hp} {h : Y.Hp} {d : D} {v : V} {b : Bool} (r : RH K mg φ h H) (t : Tr K φ H d v) (e : truth d h = some b) : TruV K v H b := by
  cases d with
  | non => obtain rfl := t.of_non; cases e; rfl
  | bl b => obtain rfl := t.of_bl; cases e; rfl
  | int i => obtain rfl := t.of_int; cases e; show decide _ = (i != 0); simp [bne, Bool.beq_eq_decide_eq]
  | str x =>
    obtain rfl := t.of_str
    simp only [truth] at e
    split at e
    · rename_i hl
      cases e
      refine ⟨by rw [← line_eq]; exact hl, ?_⟩
      by_cases z : x.length = 0 <;> simp [z, bne]
    · cases e
  | tup ds =>
    obtain ⟨a, xs, rfl, s, tl⟩ := t.of_tup
    cases e
    refine .inr (.inl ⟨xs, s, ?_⟩)
    cases tl <;> rfl
  | ref n =>
    simp only [truth] at e
    split at e
    · rename_i ds q
      obtain ⟨a, rfl, _, o⟩ := t.obj r q
      obtain ⟨xs, ha, tl⟩ := o.lst_of
      cases e
      refine .inl ⟨xs, .of ha, ?_⟩
      cases tl <;> rfl
    · rename_i ds q
      obtain ⟨a, rfl, _, o⟩ := t.obj r q
      obtain ⟨ob, xs, ha, tl⟩ := o.ro_of
      cases e
      refine .inl ⟨xs, .inl (.inr ⟨_, ha⟩), ?_⟩
      cases tl <;> rfl
    · cases e
  | gl x => cases e
  | ty x => cases e

/-! ### places -/
theorem place_eq {n : Nat} {i : Int} : place n i = ixN n i := rfl
theorem bound_eq {n d : Nat} {o : Option Int} : bound n d o = HT.sIx n d o := by cases o <;> rfl
theorem item_tr {K : Fg} {φ : List Addr} {H : L2.Hp} {ds : List D} {xs : List V} {i : Int} {d : D} (t : TrL K φ H ds xs) (e : item ds i = some d) : ∃ v, atI xs i = some v ∧ Tr K φ H d v := by
  unfold item at e
  rw [Option.bind_eq_some_iff] at e
  obtain ⟨j, e1, e2⟩ := e
  obtain ⟨v, h1, h2⟩ := t.get e2
  refine ⟨v, ?_, h2⟩
  unfold atI
  rw [← t.length, ← place_eq, e1]
  exact h1
theorem cut_tr {K : Fg} {φ : List Addr} {H : L2.Hp} {ds : List D} {xs : List V} {lo hi : Option Int} (t : TrL K φ H ds xs) : TrL K φ H (cut ds lo hi) (cutV xs lo hi) := by
  unfold cut cutV
  rw [bound_eq, bound_eq, t.length]
  exact (t.drop _).take _
end
end Y

set_option Elab.async false
set_option linter.all false
set_option maxRecDepth 100000
set_option maxHeartbeats 1000000
/-! Dicts. -/
namespace Y
open PySem PySem.Spec PyProof.Rows L2

/-! ### keys -/
mutual
theorem nkey_inj : ∀ a b : D, D.key a = true → D.key b = true → nkey a = nkey b → a = b
  | .non, b, _, q, e => by cases b <;> simp_all [nkey, D.key]
  | .int i, b, _, q, e => by cases b <;> simp_all [nkey, D.key]
  | .str x, b, _, q, e => by cases b <;> simp_all [nkey, D.key]
  | .tup xs, .tup ys, p, q, e => by
    rw [D.key] at p q
    rw [nkey, nkey] at e
    injection e with e
    rw [nkey_injL xs ys p q e]
  | .tup _, .non, _, q, e => by simp [nkey] at e
  | .tup _, .int _, _, q, e => by simp [nkey] at e
  | .tup _, .str _, _, q, e => by simp [nkey] at e
  | .tup _, .bl _, _, q, e => by simp [D.key] at q
  | .tup _, .ref _, _, q, e => by simp [D.key] at q
  | .tup _, .gl _, _, q, e => by simp [D.key] at q
  | .tup _, .ty _, _, q, e => by simp [D.key] at q
  | .bl _, _, p, _, _ => by simp [D.key] at p
  | .ref _, _, p, _, _ => by simp [D.key] at p
  | .gl _, _, p, _, _ => by simp [D.key] at p
  | .ty _, _, p, _, _ => by simp [D.key] at p
theorem nkey_injL : ∀ a b : List D, D.keyL a = true → D.keyL b = true → nkeyL a = nkeyL b → a = b
  | [], [], _, _, _ => rfl
  | [], _ :: _, _, _, e => by simp [nkeyL] at e
  | _ :: _, [], _, _, e => by simp [nkeyL] at e
  | a :: as, b :: bs, p, q, e => by
    rw [D.keyL, Bool.and_eq_true] at p q
    rw [nkeyL, nkeyL] at e
    injection e with e1 e2
    rw [nkey_inj a b p.1 q.1 e1, nkey_injL as bs p.2 q.2 e2]
end
mutual
theorem nkey_depth : ∀ a : D, (nkey a).depth ≤ a.depth
  | .non => by simp [nkey, NestedKey.depth]
  | .int i => by simp [nkey, NestedKey.depth]
  | .str x => by simp [nkey, NestedKey.depth]
  | .tup xs => by simp only [nkey, NestedKey.depth, D.depth]; have := nkey_depthL xs; omega
  | .bl _ => by simp [nkey, NestedKey.depth]
  | .ref _ => by simp [nkey, NestedKey.depth]
  | .gl _ => by simp [nkey, NestedKey.depth]
  | .ty _ => by simp [nkey, NestedKey.depth]
theorem nkey_depthL : ∀ a : List D, NestedKey.depthAll (nkeyL a) ≤ D.depthL a
  | [] => by simp [nkeyL, NestedKey.depthAll]
  | a :: as => by simp only [nkeyL, NestedKey.depthAll, D.depthL]; have := nkey_depth a; have := nkey_depthL as; omega
end
theorem keyOk_key {k : D} (h : keyOk k = true) : D.key k = true := by
  cases k <;> simp_all [keyOk, D.key]
theorem keyOk_depth {k : D} (h : keyOk k = true) : k.depth ≤ 8 := by
  cases k <;> simp_all [keyOk, D.depth]
theorem keyOk_scalar {k : D} (h : keyOk k = true) (t : k.isTup = false) : ∃ kk : Key, k = keyD kk := by
  cases k with
  | int i => exact ⟨.inl i, rfl⟩
  | str x => exact ⟨.inr x, rfl⟩
  | tup _ => simp [D.isTup] at t
  | _ => simp [keyOk] at h
theorem keyD_inj {a b : Key} (h : keyD a = keyD b) : a = b := by
  cases a <;> cases b <;> simp_all [keyD]
theorem keyD_tup (a : Key) : (keyD a).isTup = false := by cases a <;> rfl
theorem tr_key {K : Fg} {φ : List Addr} {H : L2.Hp} {k : Key} {v : V} (t : Tr K φ H (keyD k) v) : v = kV k := by
  cases k with
  | inl i => exact t.of_int
  | inr x => exact t.of_str

section
variable {X : Cx} {pins : List (Addr × Obj)} {σ : L2.St} {H : L2.Hp} {s : Shared} {φ : List Addr}
mutual
/-- a mini key is a key of the model -/
theorem nested_of (I : Inv X pins σ H s) : ∀ (d : D) (v : V) (u : Value), D.key d = true → Tr X.K φ H d v → RelV v u → NestedIs s.heap (nkey d) u
  | .non, _, u, _, .non, r => by cases r; simp only [nkey]; exact .none
  | .int i, _, u, _, .int _, r => by obtain ⟨t, rfl⟩ := r; rw [nkey]; exact .int i t
  | .str x, _, u, _, .str _, r => by obtain ⟨t, rfl⟩ := r; rw [nkey]; exact .text x t
  | .tup ds, _, u, p, .tup sq t, r => by
    obtain rfl : u = Value.ref _ := r
    obtain ⟨its, rv, ⟨o, ho, hc, n, hd⟩, _⟩ := I.tuple sq
    rw [nkey]
    rw [D.key] at p
    exact .tup ho hc hd (by simpa using nested_ofL I ds _ its p t rv)
  | .bl _, _, _, p, _, _ => by simp [D.key] at p
  | .ref _, _, _, p, _, _ => by simp [D.key] at p
theorem nested_ofL (I : Inv X pins σ H s) : ∀ (ds : List D) (vs : List V) (us : List Value), D.keyL ds = true → TrL X.K φ H ds vs → Vals vs us → NestedAll s.heap (nkeyL ds) us
  | [], _, _, _, .nil, r => by cases r; rw [nkeyL]; exact .nil
  | d :: ds, _, _, p, .cons t r, rv => by
    cases rv with
    | cons r1 r2 =>
      rw [D.keyL, Bool.and_eq_true] at p
      rw [nkeyL]
      exact .cons (nested_of I d _ _ p.1 t r1) (nested_ofL I ds _ _ p.2 r r2)
end
/-- .. of the kind -/
theorem kind_of (I : Inv X pins σ H s) {k : D} {q : Addr} (h : keyOk k = true) (t : Tr X.K φ H k (.ref q)) : (nestedKind X.prog X.w).is s.heap (nkey k) q :=
  ⟨nested_of I k _ _ (keyOk_key h) t rfl, Nat.le_trans (nkey_depth k) (keyOk_depth h)⟩

/-! ### the two views -/
/-- where scalar keys are asked -/
structure VK1 (X : Cx) (φ : List Addr) (H : L2.Hp) (s : Shared) (a : Addr) (kvs : List (D × D)) (kv : List (Key × V)) (vs : List (Key × Value)) : Prop where
  nos : (a == sysModules) = false
  rel : KV kv vs
  at_ : s.heap.DictOf (mixKind X.prog X.w) a vs
  pr : Paired (fun (p : D × D) (q : Key × V) => p.1 = keyD q.1 ∧ Tr X.K φ H p.2 q.2) kvs kv
  sz : kv.length ≤ sizeLine
/-- where tuples are -/
structure VT1 (X : Cx) (φ : List Addr) (H : L2.Hp) (s : Shared) (a : Addr) (kvs : List (D × D)) (xs : List (NestedKey × Addr × Value)) : Prop where
  nos : (a == sysModules) = false
  at_ : s.heap.DictOfH (nestedKind X.prog X.w) a xs
  pr : Paired (NR X.K φ H) kvs xs
  sz : xs.length ≤ sizeLine
theorem is_all (I : Inv X pins σ H s) : ∀ {kvs : List (D × D)} {xs : List (NestedKey × Addr × Value)}, Paired (NR X.K φ H) kvs xs → ∀ x ∈ xs, (nestedKind X.prog X.w).is s.heap x.1 x.2.1
  | _, _, .nil, _, hx => nomatch hx
  | _, _, .cons r t, x, hx => by
    rcases List.mem_cons.mp hx with e | hx
    · subst e
      obtain ⟨_, h2, h3, h4, _⟩ := r
      rw [h3]
      exact kind_of I h2 h4
    · exact is_all I t x hx
theorem view_t (I : Inv X pins σ H s) {a : Addr} {kvs : List (D × D)} {u : HO} (r : Rd H a u) (d : DR X.K (nm X) φ H a kvs u) {k : D} (hk : keyFor kvs k = true) (ht : k.isTup = true) : ∃ xs, VT1 X φ H s a kvs xs := by
  have ok := r.ok I.hok
  cases d with
  | t n l pr =>
    obtain ⟨⟨o, es, ep, h1, h2, h3, h4, h5⟩, _, _⟩ := ok
    exact ⟨_, n, ⟨o, es, ep, h1, h2, h3, h4, is_all I pr, h5⟩, pr, by rw [← Paired.length pr]; exact l⟩
  | k pr =>
    cases pr with
    | nil =>
      obtain ⟨z, n, vs, rel, o, es, ep, h1, h2, h3, h4, h5, h6⟩ := ok
      cases rel
      refine ⟨[], n, ⟨o, es, ep, h1, h2, h3, ?_, fun x hx => (nomatch hx), List.nodup_nil⟩, .nil, Nat.zero_le _⟩
      cases e : es.toList with
      | nil => rfl
      | cons x r => rw [e] at h5; cases h5
    | cons q t =>
      rename_i p0 q0 ps qs
      simp only [keyFor, Bool.and_eq_true] at hk
      rw [q.1, keyD_tup, ht] at hk
      exact absurd hk.2 (by decide)
theorem view_k (I : Inv X pins σ H s) {a : Addr} {kvs : List (D × D)} {u : HO} (r : Rd H a u) (d : DR X.K (nm X) φ H a kvs u) {k : D} (hk : keyFor kvs k = true) (ht : k.isTup = false) : ∃ kv vs, VK1 X φ H s a kvs kv vs := by
  have ok := r.ok I.hok
  cases d with
  | k pr =>
    obtain ⟨z, n, vs, rel, dd⟩ := ok
    exact ⟨_, vs, n, rel, dd, pr, z⟩
  | t n l pr =>
    cases pr with
    | nil =>
      obtain ⟨⟨o, es, ep, h1, h2, h3, h4, h5⟩, _, _⟩ := ok
      have e : es = #[] := by
        have : es.toList = [] := by simpa using h4
        exact Array.toList_eq_nil_iff.mp this
      subst e
      refine ⟨[], [], n, .nil, ⟨o, #[], ep, h1, h2, h3, ?_, ?_, List.nodup_nil⟩, .nil, Nat.zero_le _⟩
      · first
          | exact fun e he => absurd he (by simp)
          | exact trivial
          | simp [KeysOf]
      · exact .nil
    | cons q t =>
      simp only [keyFor, Bool.and_eq_true] at hk
      rw [q.1, ht] at hk
      exact absurd hk.2 (by decide)
theorem look_k {kvs : List (D × D)} {kv : List (Key × V)} (pr : Paired (fun (p : D × D) (q : Key × V) => p.1 = keyD q.1 ∧ Tr X.K φ H p.2 q.2) kvs kv) (k : Key) :
    (look kvs (keyD k) = none ∧ valV kv k = none) ∨ ∃ d v, look kvs (keyD k) = some d ∧ valV kv k = some v ∧ Tr X.K φ H d v := by
  induction pr with
  | nil => exact .inl ⟨rfl, rfl⟩
  | @cons p q ps qs h t ih =>
    obtain ⟨p1, p2⟩ := p
    obtain ⟨h1, h2⟩ := h
    simp only at h1 h2
    subst h1
    by_cases e : q.1 = k
    · right
      exact ⟨p2, q.2, by simp [look, e], valV_pos e, h2⟩
    · have e' : ¬ keyD q.1 = keyD k := fun z => e (keyD_inj z)
      rw [valV_neg e]
      simp only [look, if_neg e']
      exact ih
theorem look_t {kvs : List (D × D)} {xs : List (NestedKey × Addr × Value)} (pr : Paired (NR X.K φ H) kvs xs) {k : D} (hk : keyOk k = true) :
    (look kvs k = none ∧ atKey xs (nkey k) = none) ∨ ∃ d p v, look kvs k = some d ∧ atKey xs (nkey k) = some p ∧ RelV v p.2 ∧ Tr X.K φ H d v := by
  induction pr with
  | nil => exact .inl ⟨rfl, rfl⟩
  | @cons p q ps qs h t ih =>
    obtain ⟨p1, p2⟩ := p
    obtain ⟨h1, h2, h3, h4, v, h5, h6⟩ := h
    simp only at h1 h2 h3 h4 h6
    by_cases e : p1 = k
    · right
      refine ⟨p2, q.2, v, by simp [look, e], ?_, h5, h6⟩
      have e' : q.1 = nkey k := by rw [h3, e]
      simp [atKey, List.find?_cons, e']
    · have e' : ¬ q.1 = nkey k := fun z => e (nkey_inj _ _ (keyOk_key h2) (keyOk_key hk) (h3.symm.trans z))
      have b : atKey (q :: qs) (nkey k) = atKey qs (nkey k) := by simp [atKey, List.find?_cons, e']
      rw [b]
      simp only [look, if_neg e]
      exact ih

/-! ### what is asked -/
variable {A : Around} {E : Value → Shared → Prop}
theorem room8 {A : Around} (hu : A.units + 64 < cLine) : (nestedKind X.prog X.w).room A.in1 := by
  show A.units + 1 + 8 < cLine
  omega
theorem di_in (hu : A.units + 64 < cLine) (I : Inv X pins σ H s) {a : Addr} {kvs : List (D × D)} {o : HO} (r : Rd H a o) (d : DR X.K (nm X) φ H a kvs o) {k : D} {kv : V} {ku : Value} (hk : keyFor kvs k = true) (tk : Tr X.K φ H k kv) (rk : RelV kv ku)
    {Q : Value → Shared → Prop} (h : ∀ s', Inv X pins σ H s' → Q (.bool (look kvs k).isSome) s') : wpAny (model X.prog X.w) A (compareOp .In ku (.ref a)) Q E s := by
  have hok : keyOk k = true := by simp only [keyFor, Bool.and_eq_true] at hk; exact hk.1
  cases ht : k.isTup with
  | true =>
    obtain ⟨xs, V⟩ := view_t I r d hk ht
    obtain ⟨q, ys, rfl, _, _⟩ : ∃ q ys, kv = .ref q ∧ SqT X.K H q ys ∧ True := by
      cases k <;> simp [D.isTup] at ht
      obtain ⟨q, ys, e, s1, _⟩ := tk.of_tup
      exact ⟨q, ys, e, s1, trivial⟩
    obtain rfl : ku = Value.ref q := rk
    refine wpAny_in_heap (room8 hu) (kind_of I hok tk) V.nos V.at_ ?_
    rcases look_t V.pr hok with ⟨h1, h2⟩ | ⟨d, p, v, h1, h2, _, _⟩
    · rw [h2]; rw [h1] at h; exact h _ (I.tok _)
    · rw [h2]; rw [h1] at h; exact h _ (I.tok _)
  | false =>
    obtain ⟨kv', vs, V⟩ := view_k I r d hk ht
    obtain ⟨kk, rfl⟩ := keyOk_scalar hok ht
    obtain rfl := tr_key tk
    refine wpAny_in_of (kV_is rk) V.nos V.at_.mapOf ?_
    rw [← (V.rel.val kk).isSome_eq]
    rcases look_k V.pr kk with ⟨h1, h2⟩ | ⟨d, v, h1, h2, _⟩
    · rw [h2]; rw [h1] at h; exact h _ (I.tok _)
    · rw [h2]; rw [h1] at h; exact h _ (I.tok _)
theorem di_nin (hu : A.units + 64 < cLine) (I : Inv X pins σ H s) {a : Addr} {kvs : List (D × D)} {o : HO} (r : Rd H a o) (d : DR X.K (nm X) φ H a kvs o) {k : D} {kv : V} {ku : Value} (hk : keyFor kvs k = true) (tk : Tr X.K φ H k kv) (rk : RelV kv ku)
    {Q : Value → Shared → Prop} (h : ∀ s', Inv X pins σ H s' → Q (.bool (!(look kvs k).isSome)) s') : wpAny (model X.prog X.w) A (compareOp .NotIn ku (.ref a)) Q E s := by
  have hok : keyOk k = true := by simp only [keyFor, Bool.and_eq_true] at hk; exact hk.1
  cases ht : k.isTup with
  | true =>
    obtain ⟨xs, V⟩ := view_t I r d hk ht
    obtain ⟨q, ys, rfl, _, _⟩ : ∃ q ys, kv = .ref q ∧ SqT X.K H q ys ∧ True := by
      cases k <;> simp [D.isTup] at ht
      obtain ⟨q, ys, e, s1, _⟩ := tk.of_tup
      exact ⟨q, ys, e, s1, trivial⟩
    obtain rfl : ku = Value.ref q := rk
    refine wpAny_notIn_heap (room8 hu) (kind_of I hok tk) V.nos V.at_ ?_
    rcases look_t V.pr hok with ⟨h1, h2⟩ | ⟨d, p, v, h1, h2, _, _⟩
    · rw [h2]; rw [h1] at h; exact h _ (I.tok _)
    · rw [h2]; rw [h1] at h; exact h _ (I.tok _)
  | false =>
    obtain ⟨kv', vs, V⟩ := view_k I r d hk ht
    obtain ⟨kk, rfl⟩ := keyOk_scalar hok ht
    obtain rfl := tr_key tk
    refine wpAny_notIn_of (kV_is rk) V.nos V.at_.mapOf ?_
    rw [← (V.rel.val kk).isSome_eq]
    rcases look_k V.pr kk with ⟨h1, h2⟩ | ⟨d, v, h1, h2, _⟩
    · rw [h2]; rw [h1] at h; exact h _ (I.tok _)
    · rw [h2]; rw [h1] at h; exact h _ (I.tok _)
theorem di_get (hu : A.units + 64 < cLine) (I : Inv X pins σ H s) {a : Addr} {kvs : List (D × D)} {o : HO} (r : Rd H a o) (d : DR X.K (nm X) φ H a kvs o) {k w : D} {kv : V} {ku : Value} (hk : keyFor kvs k = true) (tk : Tr X.K φ H k kv) (rk : RelV kv ku)
    (hw : look kvs k = some w) {Q : Value → Shared → Prop} (h : ∀ v u s', Inv X pins σ H s' → Tr X.K φ H w v → RelV v u → Q u s') : wpAny (model X.prog X.w) A (getItem (.ref a) ku) Q E s := by
  have hok : keyOk k = true := by simp only [keyFor, Bool.and_eq_true] at hk; exact hk.1
  cases ht : k.isTup with
  | true =>
    obtain ⟨xs, V⟩ := view_t I r d hk ht
    obtain ⟨q, ys, rfl, _, _⟩ : ∃ q ys, kv = .ref q ∧ SqT X.K H q ys ∧ True := by
      cases k <;> simp [D.isTup] at ht
      obtain ⟨q, ys, e, s1, _⟩ := tk.of_tup
      exact ⟨q, ys, e, s1, trivial⟩
    obtain rfl : ku = Value.ref q := rk
    rcases look_t V.pr hok with ⟨h1, h2⟩ | ⟨d, p, v, h1, h2, h3, h4⟩
    · rw [hw] at h1; cases h1
    · rw [hw] at h1; cases h1
      exact wpAny_getItem_heap (room8 hu) (kind_of I hok tk) V.at_ h2 (h v _ _ (I.tok _) h4 h3)
  | false =>
    obtain ⟨kv', vs, V⟩ := view_k I r d hk ht
    obtain ⟨kk, rfl⟩ := keyOk_scalar hok ht
    obtain rfl := tr_key tk
    rcases look_k V.pr kk with ⟨h1, h2⟩ | ⟨d, v, h1, h2, h3⟩
    · rw [hw] at h1; cases h1
    · rw [hw] at h1; cases h1
      obtain ⟨w', hw', rw'⟩ := RelO.some_of (v := v) (o := valueAt vs kk) (by rw [← h2]; exact V.rel.val kk)
      exact wpAny_getItem_of (kV_is rk) V.at_.mapOf hw' (h v _ _ (I.tok _) h3 rw')
theorem dict_is (I : Inv X pins σ H s) {a : Addr} {kvs : List (D × D)} {o : HO} (r : Rd H a o) (d : DR X.K (nm X) φ H a kvs o) : s.TypeIs (.ref a) "dict" ∧ ∃ ob, s.heap.get? a = some ob ∧ ob.dict = none := by
  have ok := r.ok I.hok
  cases d with
  | k pr =>
    obtain ⟨z, n, vs, rel, ob, es, ep, h1, h2, h3, h4, h5, h6⟩ := ok
    exact ⟨⟨ob, h1, h2.1⟩, ob, h1, h2.2.1⟩
  | t n l pr =>
    obtain ⟨⟨ob, es, ep, h1, h2, h3, h4, h5⟩, _, _⟩ := ok
    exact ⟨⟨ob, h1, h2.1⟩, ob, h1, h2.2.1⟩
theorem di_get1 (hu : A.units + 64 < cLine) (I : Inv X pins σ H s) {a : Addr} {kvs : List (D × D)} {o : HO} (r : Rd H a o) (d : DR X.K (nm X) φ H a kvs o) {k : D} {kv : V} {ku : Value} (hk : keyFor kvs k = true) (tk : Tr X.K φ H k kv) (rk : RelV kv ku)
    {Q : Value → Shared → Prop} (h : ∀ v u s', Inv X pins σ H s' → Tr X.K φ H ((look kvs k).getD .non) v → RelV v u → Q u s') : wpAny (model X.prog X.w) A (call (.builtin "dict.get") [.ref a, ku]) Q E s := by
  have hok : keyOk k = true := by simp only [keyFor, Bool.and_eq_true] at hk; exact hk.1
  cases ht : k.isTup with
  | true =>
    obtain ⟨xs, V⟩ := view_t I r d hk ht
    obtain ⟨q, ys, rfl, _, _⟩ : ∃ q ys, kv = .ref q ∧ SqT X.K H q ys ∧ True := by
      cases k <;> simp [D.isTup] at ht
      obtain ⟨q, ys, e, s1, _⟩ := tk.of_tup
      exact ⟨q, ys, e, s1, trivial⟩
    obtain rfl : ku = Value.ref q := rk
    refine call_meetsIn PySem.F.slot_dict_get V.at_.typeIs PySem.F.entry_dict_get (PySem.F.args_dict_get_2 _ _) (meetsH_dict_get (nestedKind X.prog X.w) a q V.nos) ⟨room8 hu, nkey k, xs, kind_of I hok tk, V.at_, ?_⟩
    rcases look_t V.pr hok with ⟨h1, h2⟩ | ⟨d, p, v, h1, h2, h3, h4⟩
    · rw [h2]; rw [h1] at h; exact h .non _ _ (I.tok _) .non rfl
    · rw [h2]; rw [h1] at h; exact h v _ _ (I.tok _) h4 h3
  | false =>
    obtain ⟨kv', vs, V⟩ := view_k I r d hk ht
    obtain ⟨kk, rfl⟩ := keyOk_scalar hok ht
    obtain rfl := tr_key tk
    refine call_meetsIn PySem.F.slot_dict_get V.at_.typeIs PySem.F.entry_dict_get (PySem.F.args_dict_get_2 _ _) (meets_dict_get (mixKind X.prog X.w) a (kV_is rk) V.nos) ⟨_, V.at_.mapOf, ?_⟩
    rcases look_k V.pr kk with ⟨h1, h2⟩ | ⟨d, v, h1, h2, h3⟩
    · rw [h1] at h
      have e := RelO.none_of (o := valueAt vs kk) (by rw [← h2]; exact V.rel.val kk)
      rw [e]
      exact h .non _ _ (I.tok _) .non rfl
    · rw [h1] at h
      obtain ⟨w', hw', rw'⟩ := RelO.some_of (v := v) (o := valueAt vs kk) (by rw [← h2]; exact V.rel.val kk)
      rw [hw']
      exact h v _ _ (I.tok _) h3 rw'
theorem di_get2 (hu : A.units + 64 < cLine) (I : Inv X pins σ H s) {a : Addr} {kvs : List (D × D)} {o : HO} (r : Rd H a o) (d : DR X.K (nm X) φ H a kvs o) {k z : D} {kv zv : V} {ku zu : Value} (hk : keyFor kvs k = true) (tk : Tr X.K φ H k kv) (rk : RelV kv ku) (tz : Tr X.K φ H z zv) (rz : RelV zv zu)
    {Q : Value → Shared → Prop} (h : ∀ v u s', Inv X pins σ H s' → Tr X.K φ H ((look kvs k).getD z) v → RelV v u → Q u s') : wpAny (model X.prog X.w) A (call (.builtin "dict.get") [.ref a, ku, zu]) Q E s := by
  have hok : keyOk k = true := by simp only [keyFor, Bool.and_eq_true] at hk; exact hk.1
  cases ht : k.isTup with
  | true =>
    obtain ⟨xs, V⟩ := view_t I r d hk ht
    obtain ⟨q, ys, rfl, _, _⟩ : ∃ q ys, kv = .ref q ∧ SqT X.K H q ys ∧ True := by
      cases k <;> simp [D.isTup] at ht
      obtain ⟨q, ys, e, s1, _⟩ := tk.of_tup
      exact ⟨q, ys, e, s1, trivial⟩
    obtain rfl : ku = Value.ref q := rk
    refine call_meetsIn PySem.F.slot_dict_get V.at_.typeIs PySem.F.entry_dict_get (PySem.F.args_dict_get_3 _ _ _) (meetsH_dict_get_default (nestedKind X.prog X.w) a q V.nos zu) ⟨room8 hu, nkey k, xs, kind_of I hok tk, V.at_, ?_⟩
    rcases look_t V.pr hok with ⟨h1, h2⟩ | ⟨d, p, v, h1, h2, h3, h4⟩
    · rw [h2]; rw [h1] at h; exact h zv _ _ (I.tok _) tz rz
    · rw [h2]; rw [h1] at h; exact h v _ _ (I.tok _) h4 h3
  | false =>
    obtain ⟨kv', vs, V⟩ := view_k I r d hk ht
    obtain ⟨kk, rfl⟩ := keyOk_scalar hok ht
    obtain rfl := tr_key tk
    refine call_meetsIn PySem.F.slot_dict_get V.at_.typeIs PySem.F.entry_dict_get (PySem.F.args_dict_get_3 _ _ _) (meets_dict_get_default (mixKind X.prog X.w) a (kV_is rk) V.nos zu) ⟨_, V.at_.mapOf, ?_⟩
    rcases look_k V.pr kk with ⟨h1, h2⟩ | ⟨d, v, h1, h2, h3⟩
    · rw [h1] at h
      have e := RelO.none_of (o := valueAt vs kk) (by rw [← h2]; exact V.rel.val kk)
      rw [e]
      exact h zv _ _ (I.tok _) tz rz
    · rw [h1] at h
      obtain ⟨w', hw', rw'⟩ := RelO.some_of (v := v) (o := valueAt vs kk) (by rw [← h2]; exact V.rel.val kk)
      rw [hw']
      exact h v _ _ (I.tok _) h3 rw'
end
end Y

set_option Elab.async false
set_option linter.all false
set_option maxRecDepth 100000
set_option maxHeartbeats 1000000
/-! Stores: into dicts, lists, fields. -/
namespace Y
open PySem PySem.Spec PyProof.Rows L2

theorem put_length (kvs : List (D × D)) (k w : D) : (put kvs k w).length ≤ kvs.length + 1 := by
  induction kvs with
  | nil => simp [put]
  | cons p r ih =>
    obtain ⟨a, b⟩ := p
    rw [put]
    split
    · simp
    · simp only [List.length_cons]; omega
section
variable {K : Fg} {φ : List Addr} {H : L2.Hp}
theorem put_t {kvs : List (D × D)} {xs : List (NestedKey × Addr × Value)} (pr : Paired (NR K φ H) kvs xs) (nd : (xs.map (·.1)).Nodup) {k w : D} {q : Addr} {v : V} {u : Value} (hk : keyOk k = true) (ht : k.isTup = true)
    (tk : Tr K φ H k (.ref q)) (tw : Tr K φ H w v) (rv : RelV v u) : Paired (NR K φ H) (put kvs k w) (storedH xs (nkey k) q u) := by
  induction pr with
  | nil => exact .cons ⟨ht, hk, rfl, tk, v, rv, tw⟩ .nil
  | @cons p x ps qs h t ih =>
    obtain ⟨p1, p2⟩ := p
    rw [List.map_cons, List.nodup_cons] at nd
    obtain ⟨h1, h2, h3, h4, v0, h5, h6⟩ := h
    simp only at h1 h2 h3 h4 h6
    by_cases e : p1 = k
    · subst e
      have b : atKey (x :: qs) (nkey p1) = some x.2 := by simp [atKey, List.find?_cons, h3]
      rw [storedH_old b, put, if_pos rfl, List.map_cons]
      have nm' : nkey p1 ∉ qs.map (·.1) := by rw [← h3]; exact nd.1
      rw [map_putAt_of_not_mem _ _ _ nm']
      refine .cons ?_ t
      unfold putAt
      rw [if_pos h3]
      exact ⟨h1, h2, h3, h4, v, rv, tw⟩
    · have e' : ¬ x.1 = nkey k := fun z => e (nkey_inj _ _ (keyOk_key h2) (keyOk_key hk) (h3.symm.trans z))
      have b : atKey (x :: qs) (nkey k) = atKey qs (nkey k) := by simp [atKey, List.find?_cons, e']
      rw [put, if_neg e]
      have e2 : storedH (x :: qs) (nkey k) q u = x :: storedH qs (nkey k) q u := by
        cases z : atKey qs (nkey k) with
        | none => rw [storedH_new (b.trans z), storedH_new z]; rfl
        | some y =>
          rw [storedH_old (b.trans z), storedH_old z, List.map_cons]
          congr 1
          unfold putAt
          rw [if_neg e']
      rw [e2]
      exact .cons ⟨h1, h2, h3, h4, v0, h5, h6⟩ (ih nd.2)
theorem putK_cons_eq {p : Key × V} {r : List (Key × V)} {k : Key} {v : V} (e : p.1 = k) (n : k ∉ r.map (·.1)) : putK (p :: r) k v = (p.1, v) :: r := by
  unfold putK
  rw [if_pos (by simp [e]), List.map_cons, if_pos e]
  congr 1
  have : ∀ l : List (Key × V), k ∉ l.map (·.1) → l.map (fun kv => if kv.1 = k then (kv.1, v) else kv) = l := by
    intro l
    induction l with
    | nil => intro _; rfl
    | cons a l ih =>
      intro h
      rw [List.map_cons, List.mem_cons, not_or] at h
      rw [List.map_cons, if_neg (fun z => h.1 z.symm), ih h.2]
  exact this r n
theorem putK_cons_ne {p : Key × V} {r : List (Key × V)} {k : Key} {v : V} (e : ¬ p.1 = k) : putK (p :: r) k v = p :: putK r k v := by
  unfold putK
  have : ((p :: r).any fun kv => decide (kv.1 = k)) = (r.any fun kv => decide (kv.1 = k)) := by simp [e]
  rw [this]
  split
  · rw [List.map_cons, if_neg e]
  · rfl
theorem put_k {kvs : List (D × D)} {kv : List (Key × V)} (pr : Paired (fun (p : D × D) (q : Key × V) => p.1 = keyD q.1 ∧ Tr K φ H p.2 q.2) kvs kv) (nd : (kv.map (·.1)).Nodup) {k : Key} {w : D} {v : V} (tw : Tr K φ H w v) :
    Paired (fun (p : D × D) (q : Key × V) => p.1 = keyD q.1 ∧ Tr K φ H p.2 q.2) (put kvs (keyD k) w) (putK kv k v) := by
  induction pr with
  | nil => exact .cons ⟨rfl, tw⟩ .nil
  | @cons p x ps qs h t ih =>
    obtain ⟨p1, p2⟩ := p
    rw [List.map_cons, List.nodup_cons] at nd
    obtain ⟨h1, h2⟩ := h
    simp only at h1 h2
    subst h1
    by_cases e : x.1 = k
    · rw [putK_cons_eq e (by rw [← e]; exact nd.1), put, if_pos (by rw [e])]
      exact .cons ⟨rfl, tw⟩ t
    · rw [putK_cons_ne e, put, if_neg (fun z => e (keyD_inj z))]
      exact .cons ⟨rfl, h2⟩ (ih nd.2)
end
theorem KV.keys {kv : List (Key × V)} {vs : List (Key × Value)} (r : KV kv vs) : kv.map (·.1) = vs.map (·.1) := by
  induction r with
  | nil => rfl
  | cons h t ih => rw [List.map_cons, List.map_cons, h.1, ih]

section
variable {X : Cx} {pins : List (Addr × Obj)} {σ : L2.St} {H : L2.Hp} {s : Shared} {φ : List Addr} {A : Around} {E : Value → Shared → Prop}
theorem DR.mut {a : Addr} {kvs : List (D × D)} {o : HO} (d : DR X.K (nm X) φ H a kvs o) : Mut (some o) := by cases d <;> exact True.intro
theorem DR.keep {a : Addr} {kvs : List (D × D)} {o u : HO} (e : H a = some o) (d : DR X.K (nm X) φ H a kvs o) : Keep H (upd H a u) := by
  refine .write e ?_ ?_ <;> (cases d <;> (intros; simp [DictN]))
/-- a[k] = w -/
theorem di_set (hu : A.units + 64 < cLine) (I : Inv X pins σ H s) {a : Addr} {kvs : List (D × D)} {o : HO} (e : H a = some o) (d : DR X.K (nm X) φ H a kvs o) {k w : D} {kv wv : V} {ku wu : Value} (hk : keyFor kvs k = true) (hl : kvs.length < line)
    (tk : Tr X.K φ H k kv) (rk : RelV kv ku) (tw : Tr X.K φ H w wv) (rw' : RelV wv wu) {Q : Unit → Shared → Prop}
    (h : ∀ o' s', Inv X pins σ (upd H a o') s' → DR X.K (nm X) φ (upd H a o') a (put kvs k w) o' → Q () s') : wpAny (model X.prog X.w) A (setItem (.ref a) ku wu) Q E s := by
  have hok : keyOk k = true := by simp only [keyFor, Bool.and_eq_true] at hk; exact hk.1
  have hline : kvs.length < sizeLine := by rw [← line_eq]; exact hl
  cases ht : k.isTup with
  | true =>
    obtain ⟨xs, V⟩ := view_t I (.inl e) d hk ht
    obtain ⟨q, rfl⟩ : ∃ q, kv = .ref q := by
      cases k <;> simp [D.isTup] at ht
      obtain ⟨q, ys, e, s1, _⟩ := tk.of_tup
      exact ⟨q, e⟩
    obtain rfl : ku = Value.ref q := rk
    refine wpAny_setItem_heap (hsz := V.sz) (room8 hu) (kind_of I hok tk) V.at_ fun h' dd' hs => ?_
    have nd : (xs.map (·.1)).Nodup := let ⟨_, _, _, _, _, _, _, _, n⟩ := V.at_; n
    obtain ⟨ob, es, ep, h1, h2, h3, h4, _, h5⟩ := dd'
    have K' : Keep H (upd H a (DictN (nm X) a (storedH xs (nkey k) q wu))) := DR.keep e d
    have P' := put_t V.pr nd hok ht tk tw rw'
    refine h (DictN (nm X) a (storedH xs (nkey k) q wu)) _ ?_ (.t V.nos (Nat.le_trans (put_length kvs k w) hline) (L2.Paired.mapP P' fun _ _ r => r.up (List.prefix_refl φ) K'))
    exact d_write I (by rw [e]; exact d.mut) hs ⟨ob, h1⟩ ⟨⟨ob, es, ep, h1, h2, h3, h4, h5⟩, ⟨ob, h1⟩, fun g1 g2 ⟨ob', es', ep', z1, z2⟩ st => ⟨ob', es', ep', st _ z1, z2⟩⟩
  | false =>
    obtain ⟨kv', vs, V⟩ := view_k I (.inl e) d hk ht
    obtain ⟨kk, rfl⟩ := keyOk_scalar hok ht
    obtain rfl := tr_key tk
    have hz : vs.length ≤ sizeLine := by rw [← V.rel.length]; exact V.sz
    refine wpAny_setItem_pairs (hsz := hz) (kV_is rk) V.at_ fun h' dd' hs => ?_
    have nd : (kv'.map (·.1)).Nodup := by rw [KV.keys V.rel]; exact let ⟨_, _, _, _, _, _, _, _, n⟩ := V.at_; n
    have K' : Keep H (upd H a (.dK (putK kv' kk wv))) := DR.keep e d
    have P' := put_k V.pr nd (k := kk) tw
    have le : (putK kv' kk wv).length ≤ sizeLine := by
      rw [← Paired.length P']
      exact Nat.le_trans (put_length kvs (keyD kk) w) hline
    refine h (.dK (putK kv' kk wv)) _ ?_ (.k (L2.Paired.mapP P' fun _ _ r => ⟨r.1, r.2.up (List.prefix_refl φ) K'⟩))
    have he : ∃ q, h'.get? a = some q := let ⟨q, _, _, hq, _⟩ := dd'; ⟨q, hq⟩
    exact d_write I (by rw [e]; exact d.mut) hs he (dk_new le V.nos (V.rel.put kk rw') dd')

/-- a[b] = w, by values -/
def RSto (K : Fg) (mg : Nm) : V → V → V → L2.Hp → (L2.Hp → Prop) → Prop := fun o i v H Q => ∃ φ h a b w h', RH K mg φ h H ∧ Tr K φ H a o ∧ Tr K φ H b i ∧ Tr K φ H w v ∧ store a b w h = some h' ∧
  ∀ H', Bh K mg φ H h' φ H' → Q H'
theorem set_m (hu : X.A.units + 64 < cLine) : PSet X (RSto X.K (nm X)) := by
  intro pins s σ H o i v ov iv u Q I ro ri rv q
  obtain ⟨φ, h, a, b, w, h', rh, ta, tb, tw, st, q⟩ := q
  cases a with
  | ref n =>
    simp only [store] at st
    split at st
    · rename_i xs j e1
      obtain ⟨p, rfl, hp, oa⟩ := ta.obj rh e1
      obtain ⟨ys, ha, ty⟩ := oa.lst_of
      obtain rfl := tb.of_int
      rw [Option.map_eq_some_iff] at st
      obtain ⟨jj, hj, rfl⟩ := st
      refine set_list pins s σ H _ _ v ov iv u Q I ro ri rv ⟨p, ys, j, jj, rfl, rfl, ha, by rw [← ty.length, ← place_eq]; exact hj, q _ ?_⟩
      have k : Keep H (upd H p (.lst (ys.set jj v))) := .write ha (fun _ z => by cases z) (fun _ _ z => by cases z)
      exact .write (List.mem_of_getElem? hp) k (rh.put hp k (.lst upd_same ((ty.set tw jj).up (List.prefix_refl φ) k)))
    · rename_i e1
      obtain ⟨p, rfl, hp, oa⟩ := ta.obj rh e1
      obtain ⟨o, ha, dr⟩ := oa.dict_of
      split at st
      · rename_i hc
        simp only [Bool.and_eq_true, decide_eq_true_eq] at hc
        cases st
        obtain rfl : ov = Value.ref p := ro
        refine di_set hu I ha dr hc.1 hc.2 tb ri tw rv fun o' s' I' d' => ⟨_, I', q _ ?_⟩
        have k : Keep H (upd H p o') := DR.keep ha dr
        exact .write (List.mem_of_getElem? hp) k (rh.put hp k (.dict upd_same d'))
      · cases st
    · cases st
  | _ => simp [store] at st
end
end Y

set_option Elab.async false
set_option linter.all false
set_option maxRecDepth 100000
set_option maxHeartbeats 1000000
/-! Expressions: each piece of the text is what the mini level says. -/
namespace Y
open PySem PySem.Spec PyProof.Rows L2

section
variable {X : Cx}
theorem PE.imp {e : Expr} {t t' : TE} (h : PE X e t) (i : ∀ σ H Q, t' σ H Q → t σ H Q) : PE X e t' := ⟨fun pins s σ H Q I q => h.run pins s σ H Q I (i _ _ _ q)⟩
theorem PT.imp {e : Expr} {t t' : TT} (h : PT X e t) (i : ∀ σ H Q, t' σ H Q → t σ H Q) : PT X e t' := ⟨fun pins s σ H Q I q => h.run pins s σ H Q I (i _ _ _ q)⟩
theorem PW.imp {e : Expr} {t t' : TT} (h : PW X e t) (i : ∀ σ H Q, t' σ H Q → t σ H Q) : PW X e t' := ⟨fun wh pins s σ H Q I q => h.run wh pins s σ H Q I (i _ _ _ q)⟩
theorem PA.imp {es : List Expr} {t t' : TA} (h : PA X es t) (i : ∀ σ H Q, t' σ H Q → t σ H Q) : PA X es t' := ⟨fun pos pins s σ H Q I q => h.run pos pins s σ H Q I (i _ _ _ q)⟩
theorem PS.imp {e : Stmt} {t t' : TS} (h : PS X e t) (i : ∀ D σ H, t' D σ H → t D σ H) : PS X e t' := ⟨fun pins s σ H D I q => h.run pins s σ H D I (i _ _ _ q)⟩
theorem PSs.imp {e : List Stmt} {t t' : TS} (h : PSs X e t) (i : ∀ D σ H, t' D σ H → t D σ H) : PSs X e t' := ⟨fun pins s σ H D I q => h.run pins s σ H D I (i _ _ _ q)⟩
theorem PO.imp {e : Option Expr} {t t' : TO} (h : PO X e t) (i : ∀ σ H Q, t' σ H Q → t σ H Q) : PO X e t' := ⟨fun pins s σ H Q I q => h.run pins s σ H Q I (i _ _ _ q)⟩
end
abbrev ME := Y.Env → Y.Hp → Res D
abbrev MT := Y.Env → Y.Hp → Res Bool
abbrev MA := Y.Env → Y.Hp → Res (List D)
abbrev RE (X : Cx) (W : WX) (m : ME) : TE := RdE X.K (nm X) W m
abbrev RT (X : Cx) (W : WX) (m : MT) : TT := RdT X.K (nm X) W m
abbrev RA (X : Cx) (W : WX) (m : MA) : TA := RdA X.K (nm X) W m
section
variable {X : Cx} {W : WX} {a b c : Expr} {ma mb mc : ME} {pos : Pos}
theorem re_const {d : D} {v : V} (t : ∀ φ H, Tr X.K φ H d v) {σ : L2.St} {H : L2.Hp} {Q : VK} (q : RE X W (fun _ h => .ok d h) σ H Q) : tC v σ H Q := by
  obtain ⟨φ, ρ, h, rh, ts, p⟩ := q
  exact p.here rh (t φ H)
theorem c_int {i : Int} {j : Nat} : PE X (.Constant (.int i) j pos) (RE X W fun _ h => .ok (.int i) h) := PE.imp pe_int fun _ _ _ => re_const fun _ _ => .int i
theorem c_bl {i : Bool} {j : Nat} : PE X (.Constant (.bool i) j pos) (RE X W fun _ h => .ok (.bl i) h) := PE.imp pe_bl fun _ _ _ => re_const fun _ _ => .bl i
theorem c_non {j : Nat} : PE X (.Constant .none j pos) (RE X W fun _ h => .ok .non h) := PE.imp pe_non fun _ _ _ => re_const fun _ _ => .non
theorem c_str {i : Str} {j : Nat} : PE X (.Constant (.str i) j pos) (RE X W fun _ h => .ok (.str i) h) := PE.imp pe_str fun _ _ _ => re_const fun _ _ => .str i
theorem c_var {i : Nat} {x : Str} (hN : X.N[i]? = some x) (hv : Vis X.env.scope x) (hd : (x == ("__debug__" : Str)) = false) (hcd : (x == ("__classdict__" : Str)) = false) :
    PE X (.Name x pos) (RE X W fun ρ h => match ρ[i]? with
      | some (some d) => .ok d h
      | _ => .bad) := PE.imp (pe_var hN hv hd hcd) fun σ H Q q => by
  obtain ⟨φ, ρ, h, rh, ts, p⟩ := q
  dsimp only at p
  split at p
  · rename_i d e
    obtain ⟨v, h1, h2⟩ := ts.at_ i d e
    exact ⟨v, h1, p.here rh h2⟩
  · exact (show False from p).elim
theorem c_bin {o : Op} {op : Operator} (ho : OpR X (binaryOp op) (ROp X.K (nm X) (binop o))) (ha : PE X a (RE X W ma)) (hb : PE X b (RE X W mb)) :
    PE X (.BinOp a op b pos) (RE X W fun ρ h => (ma ρ h).bind fun x h => (mb ρ h).bind fun y h => binop o x y h) := PE.imp (pe_op ho ha hb) fun σ H Q q => by
  obtain ⟨φ, ρ, h, rh, ts, p⟩ := q
  exact ⟨φ, ρ, h, rh, ts, PostE.bindE p fun d h' φ' H' v b t p' => ⟨φ', ρ, h', b.rh, b.trS ts, PostE.bindE p' fun e h2 φ2 H2 u b2 t2 p2 => ⟨φ2, h2, d, e, b2.rh, b2.tr t, t2, p2.noexc noexc_binop⟩⟩⟩
theorem c_neg (ha : PE X a (RE X W ma)) : PE X (.UnaryOp .USub a pos) (RE X W fun ρ h => (ma ρ h).bind fun x h => match x with
    | .int i => .ok (.int (-i)) h
    | _ => .bad) := PE.imp (pe_un un_neg ha) fun σ H Q q => by
  obtain ⟨φ, ρ, h, rh, ts, p⟩ := q
  refine ⟨φ, ρ, h, rh, ts, PostE.bindE p fun d h' φ' H' v b t p' => ?_⟩
  cases d with
  | int i =>
    obtain rfl := t.of_int
    exact ⟨i, rfl, p'.here b.rh (.int _)⟩
  | _ => exact (show False from p').elim
/-! ### comparisons -/
theorem PostE.cmp {K : Fg} {mg : Nm} {φ : List Addr} {H : L2.Hp} {h : Y.Hp} {W : Value → Option Addr → L2.Hp → Prop} {o : Cm} {x y : D} {Q : VK} (p : PostE K mg φ H (compareR o x y h) W Q) (r : RH K mg φ h H) : ∃ b, Y.compare o x y h = some b ∧ Q (.bl b) H := by
  unfold compareR at p
  split at p
  · rename_i b e
    exact ⟨b, e, p.here r (.bl b)⟩
  · exact (show False from p).elim
theorem c_cmp {o : Cm} {op : CmpOp} (ho : OpR X (compareOp op) (RCm X.K (nm X) o)) (ha : PE X a (RE X W ma)) (hb : PE X b (RE X W mb)) (hm : behindInMarks op b = false) :
    PE X (.Compare a [op] [b] pos) (RE X W fun ρ h => (ma ρ h).bind fun x h => (mb ρ h).bind fun y h => compareR o x y h) := PE.imp (pe_cmpR ho ha hb hm) fun σ H Q q => by
  obtain ⟨φ, ρ, h, rh, ts, p⟩ := q
  refine ⟨φ, ρ, h, rh, ts, PostE.bindE p fun d h' φ' H' v b t p' => ⟨φ', ρ, h', b.rh, b.trS ts, PostE.bindE p' fun e h2 φ2 H2 u b2 t2 p2 => ?_⟩⟩
  obtain ⟨k, e1, e2⟩ := p2.cmp b2.rh
  exact ⟨φ2, h2, d, e, k, b2.rh, b2.tr t, t2, e1, e2⟩
theorem ct_cmp {o : Cm} {op : CmpOp} (ho : OpR X (compareOp op) (RCm X.K (nm X) o)) (ha : PE X a (RE X W ma)) (hb : PE X b (RE X W mb)) (hm : behindInMarks op b = false) :
    PT X (.Compare a [op] [b] pos) (RT X W fun ρ h => ((ma ρ h).bind fun x h => (mb ρ h).bind fun y h => compareR o x y h).bind truthR) := PT.imp (pt_cmpR ho ha hb hm) fun σ H Q q => by
  obtain ⟨φ, ρ, h, rh, ts, p⟩ := q
  have e0 : ((ma ρ h).bind fun x h => (mb ρ h).bind fun y h => compareR o x y h).bind truthR = (ma ρ h).bind fun x h => (mb ρ h).bind fun y h => (compareR o x y h).bind truthR := by
    cases ma ρ h with
    | ok x h1 => simp only [Res.bind_ok]; cases mb ρ h1 <;> rfl
    | exc _ _ _ => rfl
    | bad => rfl
  dsimp only at p
  rw [e0] at p
  refine ⟨φ, ρ, h, rh, ts, PostE.bindT p fun d h' φ' H' v b t p' => ⟨φ', ρ, h', b.rh, b.trS ts, PostE.bindT p' fun e h2 φ2 H2 u b2 t2 p2 => ?_⟩⟩
  unfold compareR at p2
  split at p2
  · rename_i k e1
    exact ⟨φ2, h2, d, e, k, b2.rh, b2.tr t, t2, e1, k, rfl, p2 φ2 H2 (Bh.refl b2.rh)⟩
  · exact (show False from p2).elim
theorem c_cmp2 {o o' : Cm} {op op' : CmpOp} (ho : OpR X (compareOp op) (RCm X.K (nm X) o)) (ho' : OpR X (compareOp op') (RCm X.K (nm X) o')) (ha : PE X a (RE X W ma)) (hb : PE X b (RE X W mb)) (hc : PE X c (RE X W mc))
    (hm : lastMarks [op, op'] [b, c] = false) :
    PE X (.Compare a [op, op'] [b, c] pos) (RE X W fun ρ h => (ma ρ h).bind fun x h => (mb ρ h).bind fun y h => match Y.compare o x y h with
      | some true => (mc ρ h).bind fun z h => compareR o' y z h
      | some false => .ok (.bl false) h
      | none => .bad) := PE.imp (pe_chain ho ho' ha hb hc hm) fun σ H Q q => by
  obtain ⟨φ, ρ, h, rh, ts, p⟩ := q
  refine ⟨φ, ρ, h, rh, ts, PostE.bindE p fun d h' φ' H' v b t p' => ⟨φ', ρ, h', b.rh, b.trS ts, PostE.bindE p' fun e h2 φ2 H2 u b2 t2 p2 => ?_⟩⟩
  split at p2
  · rename_i e1
    refine ⟨φ2, h2, d, e, true, b2.rh, b2.tr t, t2, e1, true, rfl, ?_⟩
    rw [if_pos rfl]
    refine ⟨φ2, ρ, h2, b2.rh, b2.trS (b.trS ts), PostE.bindE p2 fun f h3 φ3 H3 w b3 t3 p3 => ?_⟩
    obtain ⟨k, e1, e2⟩ := p3.cmp b3.rh
    exact ⟨φ3, h3, e, f, k, b3.rh, b3.tr t2, t3, e1, e2⟩
  · rename_i e1
    refine ⟨φ2, h2, d, e, false, b2.rh, b2.tr t, t2, e1, false, rfl, ?_⟩
    rw [if_neg (by decide)]
    exact p2.here b2.rh (.bl false)
  · exact (show False from p2).elim
/-! ### and, or, not -/
theorem c_one {op : BoolOp} (ha : PE X a (RE X W ma)) : PE X (.BoolOp op [a] pos) (RE X W ma) := pe_one ha
theorem c_and {rest : List Expr} (ha : PE X a (RE X W ma)) (hb : PE X (.BoolOp .And (b :: rest) pos) (RE X W mb)) :
    PE X (.BoolOp .And (a :: b :: rest) pos) (RE X W fun ρ h => (ma ρ h).bind fun x h => match x with
      | .bl true => mb ρ h
      | .bl false => .ok (.bl false) h
      | _ => .bad) := PE.imp (pe_and ha hb) fun σ H Q q => by
  obtain ⟨φ, ρ, h, rh, ts, p⟩ := q
  refine ⟨φ, ρ, h, rh, ts, PostE.bindE p fun d h' φ' H' v b t p' => ?_⟩
  cases d with
  | bl k =>
    obtain rfl := t.of_bl
    refine ⟨k, rfl, ?_⟩
    cases k with
    | true => exact ⟨φ', ρ, h', b.rh, b.trS ts, p'⟩
    | false => exact p'.here b.rh (.bl false)
  | _ => exact (show False from p').elim
theorem c_or {rest : List Expr} (ha : PE X a (RE X W ma)) (hb : PE X (.BoolOp .Or (b :: rest) pos) (RE X W mb)) :
    PE X (.BoolOp .Or (a :: b :: rest) pos) (RE X W fun ρ h => (ma ρ h).bind fun x h => match x with
      | .bl true => .ok (.bl true) h
      | .bl false => mb ρ h
      | _ => .bad) := PE.imp (pe_or ha hb) fun σ H Q q => by
  obtain ⟨φ, ρ, h, rh, ts, p⟩ := q
  refine ⟨φ, ρ, h, rh, ts, PostE.bindE p fun d h' φ' H' v b t p' => ?_⟩
  cases d with
  | bl k =>
    obtain rfl := t.of_bl
    refine ⟨k, rfl, ?_⟩
    cases k with
    | true => exact p'.here b.rh (.bl true)
    | false => exact ⟨φ', ρ, h', b.rh, b.trS ts, p'⟩
  | _ => exact (show False from p').elim
variable {ta tb : MT}
theorem ct_and {rest : List Expr} (ha : PT X a (RT X W ta)) (hb : PW X (.BoolOp .And (b :: rest) pos) (RT X W tb)) :
    PW X (.BoolOp .And (a :: b :: rest) pos) (RT X W fun ρ h => (ta ρ h).bind fun x h => if x then tb ρ h else .ok false h) := PW.imp (pw_and ha hb) fun σ H Q q => by
  obtain ⟨φ, ρ, h, rh, ts, p⟩ := q
  refine ⟨φ, ρ, h, rh, ts, PostT.bindT p fun d h' φ' H' b p' => ?_⟩
  cases d with
  | true => rw [if_pos rfl] at p' ⊢; exact ⟨φ', ρ, h', b.rh, b.trS ts, p'⟩
  | false => rw [if_neg (by decide)] at p' ⊢; exact p' φ' H' (Bh.refl b.rh)
theorem ct_or {rest : List Expr} (ha : PT X a (RT X W ta)) (hb : PW X (.BoolOp .Or (b :: rest) pos) (RT X W tb)) :
    PW X (.BoolOp .Or (a :: b :: rest) pos) (RT X W fun ρ h => (ta ρ h).bind fun x h => if x then .ok true h else tb ρ h) := PW.imp (pw_or ha hb) fun σ H Q q => by
  obtain ⟨φ, ρ, h, rh, ts, p⟩ := q
  refine ⟨φ, ρ, h, rh, ts, PostT.bindT p fun d h' φ' H' b p' => ?_⟩
  cases d with
  | true => rw [if_pos rfl] at p' ⊢; exact p' φ' H' (Bh.refl b.rh)
  | false => rw [if_neg (by decide)] at p' ⊢; exact ⟨φ', ρ, h', b.rh, b.trS ts, p'⟩
theorem ct_not (ha : PT X a (RT X W ta)) : PT X (.UnaryOp .Not a pos) (RT X W fun ρ h => (ta ρ h).bind fun x h => .ok (!x) h) := PT.imp (pt_not ha) fun σ H Q q => by
  obtain ⟨φ, ρ, h, rh, ts, p⟩ := q
  exact ⟨φ, ρ, h, rh, ts, PostT.bindT p fun d h' φ' H' b p' => p' φ' H' (Bh.refl b.rh)⟩
/-- not a, as a value -/
theorem c_not (ha : PE X a (RE X W ma)) : PE X (.UnaryOp .Not a pos) (RE X W fun ρ h => ((ma ρ h).bind truthR).bind fun x h => .ok (.bl (!x)) h) := by
  refine ⟨fun pins s σ H Q I q => ?_⟩
  obtain ⟨φ, ρ, h, rh, ts, p⟩ := q
  dsimp only at p
  have e0 : ((ma ρ h).bind truthR).bind (fun x h => Res.ok (D.bl (!x)) h) = (ma ρ h).bind fun x h => (truthR x h).bind fun x h => .ok (.bl (!x)) h := by cases ma ρ h <;> rfl
  rw [e0] at p
  refine UnaryOp_ (thn (ha.run pins s σ H (fun v H1 => ∃ k, TruV X.K v H1 k ∧ Q (.bl (!k)) H1) I ⟨φ, ρ, h, rh, ts, PostE.bindE p fun d h' φ' H' v b t p' => ?_⟩) fun v s1 hh => ?_)
  · unfold truthR at p'
    split at p'
    · rename_i k e
      exact ⟨k, tru_m b.rh t e, p'.here b.rh (.bl _)⟩
    · exact (show False from p').elim
  · obtain ⟨x, H1, I1, r1, k, tk, q1⟩ := hh
    exact not_of (thn (tru_ok pins s1 σ H1 x v (fun k H' => Q (.bl (!k)) H') I1 r1 ⟨k, tk, q1⟩) fun b s2 ⟨H2, I2, q2⟩ => ⟨.bl (!b), H2, I2, rfl, q2⟩)
theorem c_ite {t : Expr} {mt : MT} (ht : PT X t (RT X W mt)) (ha : PE X a (RE X W ma)) (hb : PE X b (RE X W mb)) :
    PE X (.IfExp t a b pos) (RE X W fun ρ h => (mt ρ h).bind fun c h => if c then ma ρ h else mb ρ h) := PE.imp (pe_ifExp ht ha hb) fun σ H Q q => by
  obtain ⟨φ, ρ, h, rh, ts, p⟩ := q
  refine ⟨φ, ρ, h, rh, ts, PostT.bindE p fun d h' φ' H' b p' => ?_⟩
  cases d with
  | true => rw [if_pos rfl] at p' ⊢; exact ⟨φ', ρ, h', b.rh, b.trS ts, p'⟩
  | false => rw [if_neg (by decide)] at p' ⊢; exact ⟨φ', ρ, h', b.rh, b.trS ts, p'⟩
/-- a value's truth -/
theorem ct_tru (ha : PE X a (RE X W ma)) (he : ∀ whole, isTrue a X.env whole = (do let v ← whole; standAt a.pos; holding [v] (truthy v))) :
    PT X a (RT X W fun ρ h => (ma ρ h).bind truthR) := PT.imp (pt_truth ha he) fun σ H Q q => by
  obtain ⟨φ, ρ, h, rh, ts, p⟩ := q
  refine ⟨φ, ρ, h, rh, ts, PostE.bindT p fun d h' φ' H' v b t p' => ?_⟩
  unfold truthR at p'
  split at p'
  · rename_i k e
    exact ⟨k, tru_m b.rh t e, p' φ' H' (Bh.refl b.rh)⟩
  · exact (show False from p').elim
end
end Y

set_option Elab.async false
set_option linter.all false
set_option maxRecDepth 100000
set_option maxHeartbeats 1000000
/-! Displays, places, calls of builtins, methods. -/
namespace Y
open PySem PySem.Spec PyProof.Rows L2

section
variable {X : Cx} {W : WX} {a b c : Expr} {ma mb mc : ME} {pos : Pos} {es : List Expr} {m : MA}
/-! ### arguments, displays -/
theorem ca_nil : PA X [] (RA X W fun _ h => .ok [] h) := PA.imp pa_nil fun σ H Q q => by
  obtain ⟨φ, ρ, h, rh, ts, p⟩ := q
  exact p φ H [] (Bh.refl rh) .nil
theorem ca_cons (ha : PE X a (RE X W ma)) (hr : PA X es (RA X W m)) (hs : starEach (a :: es) X.env = (false, eval a X.env) :: starEach es X.env) :
    PA X (a :: es) (RA X W fun ρ h => (ma ρ h).bind fun x h => (m ρ h).bind fun xs h => .ok (x :: xs) h) := PA.imp (pa_cons ha hr hs) fun σ H Q q => by
  obtain ⟨φ, ρ, h, rh, ts, p⟩ := q
  exact ⟨φ, ρ, h, rh, ts, PostE.bindA p fun d h' φ' H' v b t p' => ⟨φ', ρ, h', b.rh, b.trS ts, PostA.bindA p' fun ds h2 φ2 H2 vs b2 t2 p2 => p2 φ2 H2 (v :: vs) (Bh.refl b2.rh) (.cons (b2.tr t) t2)⟩⟩
/-- few enough -/
def Few (m : MA) : Prop := ∀ ρ h ds h', m ρ h = .ok ds h' → ds.length ≤ sizeLine
theorem PostA.few {K : Fg} {mg : Nm} {φ : List Addr} {H : L2.Hp} {r : Res (List D)} {W : Value → Option Addr → L2.Hp → Prop} {f : List D → Y.Hp → Res D} {Q : VK} {Q' : List V → L2.Hp → Prop} (p : PostE K mg φ H (r.bind f) W Q)
    (hq : ∀ d h' φ' H' v, r = .ok d h' → Bh K mg φ H h' φ' H' → TrL K φ' H' d v → PostE K mg φ' H' (f d h') W Q → Q' v H') : PostA K mg φ H r W Q' := by
  cases r with
  | ok d h' => exact fun φ' H' v b t => hq d h' φ' H' v rfl b t (PostE.on b p)
  | exc c fs h' => exact p
  | bad => exact p
theorem c_tup {k : Nat} (h : PA X es (RA X W m)) (few : Few m) : PE X (.Tuple es k pos) (RE X W fun ρ h => (m ρ h).bind fun ds h => .ok (.tup ds) h) := PE.imp (pe_tup h) fun σ H Q q => by
  obtain ⟨φ, ρ, h, rh, ts, p⟩ := q
  refine ⟨φ, ρ, h, rh, ts, PostA.few p fun d h' φ' H' v e b t p' => ⟨by rw [← t.length]; exact few _ _ _ _ e, fun q hq => ?_⟩⟩
  exact p'.beside b.rh hq (.tup (.of upd_same) (t.up (List.prefix_refl _) (.new hq)))
theorem c_lst (h : PA X es (RA X W m)) (few : Few m) : PE X (.List es pos) (RE X W fun ρ h => (m ρ h).bind fun ds h => new (.lst ds) h) := PE.imp (pe_lst h) fun σ H Q q => by
  obtain ⟨φ, ρ, h, rh, ts, p⟩ := q
  refine ⟨φ, ρ, h, rh, ts, PostA.few p fun d h' φ' H' v e b t p' => ⟨by rw [← t.length]; exact few _ _ _ _ e, fun q hq => ?_⟩⟩
  exact p'.made b.rh hq (new_lst b.rh hq t)
/-- {} -/
theorem c_dict0 : PE X (.Dict [] [] pos) (RE X W fun _ h => new (.dict []) h) := PE.imp pe_dnewK fun σ H Q q => by
  obtain ⟨φ, ρ, h, rh, ts, p⟩ := q
  exact fun d hd => p.made rh hd (.dict upd_same (.k .nil))

/-! ### places -/
theorem dict_sub {prog : Program} {w : World} {A : Around} {E : Value → Shared → Prop} {s : Shared} {value slice : Expr} {o i : Value} {T id : String} {Q : Value → Shared → Prop}
    (hl : typeLookup (.type T) "__getitem__" = pure (some (.builtin id))) (hs : subscripted slice false o i = operate [o, i] (getItem o i)) (hT : s.TypeIs o T)
    (h : wpAny (model prog w) A (getItem o i) Q E s) : wpAny (model prog w) A (subscriptTail value slice o i) Q E s := by
  have fin : wpAny (model prog w) A (subscripted slice false o i) (fun r s₃ => wpAny (model prog w) A (letTemporaryGo value o r >>= fun _ => pure r) Q E s₃) E s := by
    rw [hs]
    exact wpAny_operating (thn h fun r s₃ h₃ => wpAny_bind (wpAny_letTemporaryGo (wpAny_pure h₃)))
  unfold subscriptTail
  refine wpAny_bind ?_
  rw [getitemInPython_of_ne hT.not_modules]
  refine wpAny_bind (wpAny_specialOf hT hl ?_)
  first
    | exact wpAny_pure (wpAny_bind fin)
    | exact wpAny_bind (wpAny_pure (wpAny_bind fin))
    | exact wpAny_bind fin
theorem ix_m (hu : X.A.units + 64 < cLine) : IxR X (ROp X.K (nm X) Y.index) := by
  intro value slice pins s σ H x y v u Q I rx ry q hs
  obtain ⟨φ, h, d, e, rh, td, te, p⟩ := q
  cases d with
  | tup ds =>
    cases e with
    | int i =>
      obtain ⟨pa, xs, rfl, sa, ta⟩ := td.of_tup
      obtain rfl := te.of_int
      simp only [Y.index] at p
      cases hi : item ds i with
      | none => rw [hi] at p; exact (show False from p).elim
      | some d =>
        rw [hi] at p
        obtain ⟨w, h1, h2⟩ := item_tr ta hi
        exact ix_tup value slice pins s σ H _ _ v u Q I rx ry ⟨pa, xs, i, w, rfl, rfl, sa, h1, p.here rh h2⟩ hs
    | _ => exact (show False from p).elim
  | str z =>
    cases e with
    | int i =>
      obtain rfl := td.of_str
      obtain rfl := te.of_int
      simp only [Y.index] at p
      by_cases hl : z.length ≤ line
      · rw [if_pos hl] at p
        cases hi : item z.cps.toList i with
        | none => rw [hi] at p; exact (show False from p).elim
        | some c =>
          rw [hi] at p
          exact ix_str value slice pins s σ H _ _ v u Q I rx ry ⟨z, i, c, rfl, rfl, by rw [← line_eq]; exact hl, hi, p.here rh (.str _)⟩ hs
      · rw [if_neg hl] at p; exact (show False from p).elim
    | _ => exact (show False from p).elim
  | ref n =>
    simp only [Y.index] at p
    split at p
    · rename_i ds i e1
      obtain ⟨pa, rfl, _, oa⟩ := td.obj rh e1
      obtain ⟨xs, ha, ta⟩ := oa.lst_of
      obtain rfl := te.of_int
      cases hi : item ds i with
      | none => rw [hi] at p; exact (show False from p).elim
      | some d =>
        rw [hi] at p
        obtain ⟨w, h1, h2⟩ := item_tr ta hi
        exact ix_list value slice pins s σ H _ _ v u Q I rx ry ⟨pa, xs, i, w, rfl, rfl, .of ha, h1, p.here rh h2⟩ hs
    · rename_i ds i e1
      obtain ⟨pa, rfl, _, oa⟩ := td.obj rh e1
      obtain ⟨ob, xs, ha, ta⟩ := oa.ro_of
      obtain rfl := te.of_int
      cases hi : item ds i with
      | none => rw [hi] at p; exact (show False from p).elim
      | some d =>
        rw [hi] at p
        obtain ⟨w, h1, h2⟩ := item_tr ta hi
        exact ix_list value slice pins s σ H _ _ v u Q I rx ry ⟨pa, xs, i, w, rfl, rfl, .inl (.inr ⟨_, ha⟩), h1, p.here rh h2⟩ hs
    all_goals first
      | exact (show False from p).elim
      | skip
    · rename_i kk _ _ kvs e1
      obtain ⟨pa, rfl, _, oa⟩ := td.obj rh e1
      obtain ⟨o, ha, dr⟩ := oa.dict_of
      have Rd' : Rd H pa o := .inl ha
      split at p
      · rename_i hk
        cases hl : look kvs kk with
        | none => rw [hl] at p; exact (show False from p).elim
        | some w =>
          rw [hl] at p
          obtain rfl : v = Value.ref pa := rx
          refine dict_sub PySem.F.slot_dict_getitem.lookup hs (dict_is I Rd' dr).1 (di_get hu I Rd' dr hk te ry hl fun v u s' I' t r => ⟨v, H, I', r, p.here rh t⟩)
      · exact (show False from p).elim
    · rename_i kk _ _ kvs e1
      obtain ⟨pa, rfl, _, oa⟩ := td.obj rh e1
      obtain ⟨ob, o, ha, dr⟩ := oa.ldict_of
      have Rd' : Rd H pa o := .inr ⟨_, ha⟩
      split at p
      · rename_i hk
        cases hl : look kvs kk with
        | none => rw [hl] at p; exact (show False from p).elim
        | some w =>
          rw [hl] at p
          obtain rfl : v = Value.ref pa := rx
          refine dict_sub PySem.F.slot_dict_getitem.lookup hs (dict_is I Rd' dr).1 (di_get hu I Rd' dr hk te ry hl fun v u s' I' t r => ⟨v, H, I', r, p.here rh t⟩)
      · exact (show False from p).elim
  | _ => exact (show False from by cases e <;> exact p).elim
end
end Y

set_option Elab.async false
set_option linter.all false
set_option maxRecDepth 100000
set_option maxHeartbeats 1000000
/-! Slices; calls of builtins. -/
namespace Y
open PySem PySem.Spec PyProof.Rows L2

section
variable {X : Cx}
/-- a slice, by values -/
def RSl (K : Fg) (mg : Nm) : V → Option Int → Option Int → L2.Hp → VK → Prop := fun x lo hi H Q => ∃ φ h d, RH K mg φ h H ∧ Tr K φ H d x ∧ PostE K mg φ H (Y.slice d lo hi h) NoX Q
theorem sl_m : SlR X (RSl X.K (nm X)) := by
  intro pins s σ H x v vl vu lo hi sl Q I rx hs pl pu q
  obtain ⟨φ, h, d, rh, td, p⟩ := q
  cases d with
  | tup ds =>
    obtain ⟨pa, xs, rfl, sa, ta⟩ := td.of_tup
    refine sl_tupA pins s σ H _ v vl vu lo hi sl Q I rx hs pl pu ⟨pa, xs, rfl, sa, fun e => ?_, fun _ q hq => ?_⟩
    · have e2 : cut ds lo hi = ds := by
        unfold cut
        rw [bound_eq, bound_eq, ta.length, e.1, e.2, ← ta.length]
        simp
      simp only [Y.slice, e2] at p
      exact p.here rh (.tup sa ta)
    · exact p.beside rh hq (.tup (.of upd_same) ((cut_tr ta).up (List.prefix_refl _) (.new hq)))
  | str z =>
    obtain rfl := td.of_str
    simp only [Y.slice] at p
    by_cases hl : z.length ≤ line
    · rw [if_pos hl] at p
      refine sl_str pins s σ H _ v vl vu lo hi sl Q I rx hs pl pu ⟨z, rfl, by rw [← line_eq]; exact hl, ?_⟩
      have e : (⟨(cut z.cps.toList lo hi).toArray⟩ : Str) = cutS z lo hi := by
        unfold cut cutS
        rw [bound_eq, bound_eq, Array.length_toList]
        rfl
      rw [e] at p
      exact p.here rh (.str _)
    · rw [if_neg hl] at p; exact (show False from p).elim
  | ref n =>
    simp only [Y.slice] at p
    split at p
    · rename_i ds e1
      obtain ⟨pa, rfl, _, oa⟩ := td.obj rh e1
      obtain ⟨xs, ha, ta⟩ := oa.lst_of
      exact sl_list pins s σ H _ v vl vu lo hi sl Q I rx hs pl pu ⟨pa, xs, rfl, .of ha, fun q hq => p.made rh hq (new_lst rh hq (cut_tr ta))⟩
    · rename_i ds e1
      obtain ⟨pa, rfl, _, oa⟩ := td.obj rh e1
      obtain ⟨ob, xs, ha, ta⟩ := oa.ro_of
      exact sl_list pins s σ H _ v vl vu lo hi sl Q I rx hs pl pu ⟨pa, xs, rfl, .inl (.inr ⟨_, ha⟩), fun q hq => p.made rh hq (new_lst rh hq (cut_tr ta))⟩
    · exact (show False from p).elim
  | _ => exact (show False from p).elim
theorem noexc_slice {d : D} {lo hi : Option Int} {h : Y.Hp} : ∀ c fs h', Y.slice d lo hi h ≠ .exc c fs h' := by
  intro c fs h' e
  unfold Y.slice at e
  split at e <;> (try split at e) <;> simp [new] at e
theorem noexc_index {d k : D} {h : Y.Hp} : ∀ c fs h', Y.index d k h ≠ .exc c fs h' := by
  intro c fs h' e
  unfold Y.index at e
  split at e
  · rename_i a i; cases hi : item a i <;> rw [hi] at e <;> simp at e
  · split at e
    · split at e <;> simp at e
    · simp at e
  · split at e
    · rename_i a i _; cases hi : item a i <;> rw [hi] at e <;> simp at e
    · rename_i a i _; cases hi : item a i <;> rw [hi] at e <;> simp at e
    · rename_i kk _ _ kvs _; split at e
      · cases hi : look kvs kk <;> rw [hi] at e <;> simp at e
      · simp at e
    · rename_i kk _ _ kvs _; split at e
      · cases hi : look kvs kk <;> rw [hi] at e <;> simp at e
      · simp at e
    · simp at e
  · simp at e
variable {W : WX} {a b c : Expr} {ma mb mc : ME} {pos p2 : Pos} {es : List Expr} {m : MA}
theorem c_idx (hu : X.A.units + 64 < cLine) (ha : PE X a (RE X W ma)) (hb : PE X b (RE X W mb)) (hs : PlainIx b) :
    PE X (.Subscript a b pos) (RE X W fun ρ h => (ma ρ h).bind fun x h => (mb ρ h).bind fun y h => Y.index x y h) := PE.imp (pe_ix (ix_m hu) ha hb hs) fun σ H Q q => by
  obtain ⟨φ, ρ, h, rh, ts, p⟩ := q
  exact ⟨φ, ρ, h, rh, ts, PostE.bindE p fun d h' φ' H' v b t p' => ⟨φ', ρ, h', b.rh, b.trS ts, PostE.bindE p' fun e h2 φ2 H2 u b2 t2 p2 => ⟨φ2, h2, d, e, b2.rh, b2.tr t, t2, p2.noexc noexc_index⟩⟩⟩
abbrev MO := Y.Env → Y.Hp → Res (Option Int)
def PostO (K : Fg) (mg : Nm) (φ : List Addr) (H : L2.Hp) (r : Res (Option Int)) (W : Value → Option Addr → L2.Hp → Prop) (Q : Option Int → L2.Hp → Prop) : Prop :=
  match r with
  | .ok o h' => ∀ φ' H', Bh K mg φ H h' φ' H' → Q o H'
  | .exc c fs h' => ∀ φ' H' cls dx, Bh K mg φ H h' φ' H' → ER K mg φ' H' c fs cls dx → W cls dx H'
  | .bad => False
def RO (X : Cx) (W : WX) (m : MO) : TO := fun σ H Q => ∃ φ ρ h, RH X.K (nm X) φ h H ∧ TrS X.K φ H ρ σ ∧ PostO X.K (nm X) φ H (m ρ h) (fun c d H' => W c d σ H') Q
theorem co_none : PO X none (RO X W fun _ h => .ok none h) := PO.imp po_none fun σ H Q q => by
  obtain ⟨φ, ρ, h, rh, ts, p⟩ := q
  exact p φ H (Bh.refl rh)
theorem co_some (ha : PE X a (RE X W ma)) : PO X (some a) (RO X W fun ρ h => (ma ρ h).bind fun x h => match intO x with
    | some i => .ok (some i) h
    | none => .bad) := PO.imp (po_some ha) fun σ H Q q => by
  obtain ⟨φ, ρ, h, rh, ts, p⟩ := q
  dsimp only at p
  refine ⟨φ, ρ, h, rh, ts, ?_⟩
  cases hm : ma ρ h with
  | ok d h1 =>
    rw [hm] at p
    intro φ' H' v b t
    cases d with
    | int i =>
      obtain rfl := t.of_int
      exact ⟨i, rfl, p φ' H' b⟩
    | _ => exact (show False from p).elim
  | exc c fs h1 => rw [hm] at p; exact p
  | bad => rw [hm] at p; exact p
theorem PostO.bindE {K : Fg} {mg : Nm} {φ : List Addr} {H : L2.Hp} {W : Value → Option Addr → L2.Hp → Prop} {r : Res (Option Int)} {f : Option Int → Y.Hp → Res D} {Q : VK} {Q' : Option Int → L2.Hp → Prop} (p : PostE K mg φ H (r.bind f) W Q)
    (hq : ∀ d h' φ' H', Bh K mg φ H h' φ' H' → PostE K mg φ' H' (f d h') W Q → Q' d H') : PostO K mg φ H r W Q' := by
  cases r with
  | ok d h' => exact fun φ' H' b => hq d h' φ' H' b (PostE.on b p)
  | exc c fs h' => exact p
  | bad => exact p
theorem c_slc {lo hi : Option Expr} {ml mh : MO} (ha : PE X a (RE X W ma)) (hl : PO X lo (RO X W ml)) (hh : PO X hi (RO X W mh)) :
    PE X (.Subscript a (.Slice lo hi none p2) pos) (RE X W fun ρ h => (ma ρ h).bind fun x h => (ml ρ h).bind fun l h => (mh ρ h).bind fun u h => Y.slice x l u h) := PE.imp (pe_slice sl_m ha hl hh) fun σ H Q q => by
  obtain ⟨φ, ρ, h, rh, ts, p⟩ := q
  exact ⟨φ, ρ, h, rh, ts, PostE.bindE p fun d h' φ' H' v b t p' => ⟨φ', ρ, h', b.rh, b.trS ts, PostO.bindE p' fun l h2 φ2 H2 b2 p2 => ⟨φ2, ρ, h2, b2.rh, b2.trS (b.trS ts), PostO.bindE p2 fun u h3 φ3 H3 b3 p3 =>
    ⟨φ3, h3, d, b3.rh, b3.tr (b2.tr t), p3.noexc noexc_slice⟩⟩⟩⟩

/-! ### builtins -/
theorem tr1 {K : Fg} {φ : List Addr} {H : L2.Hp} {d : D} {xs : List V} (t : TrL K φ H [d] xs) : ∃ v, xs = [v] ∧ Tr K φ H d v := by
  cases t with
  | cons h r => cases r; exact ⟨_, rfl, h⟩
theorem tr2 {K : Fg} {φ : List Addr} {H : L2.Hp} {d e : D} {xs : List V} (t : TrL K φ H [d, e] xs) : ∃ v u, xs = [v, u] ∧ Tr K φ H d v ∧ Tr K φ H e u := by
  cases t with
  | cons h r =>
    obtain ⟨u, rfl, q⟩ := tr1 r
    exact ⟨_, u, rfl, h, q⟩
theorem line62 : sizeLine < 2 ^ 62 := by rw [sizeLine_eq]; decide
theorem cb_len : CallR X (.builtin "len") (RCall X.K (nm X) (builtin .len)) := by
  intro pins s σ H xs us Q I r q
  obtain ⟨φ, h, ds, rh, tl, p⟩ := q
  match ds, tl, p with
  | [], _, p => exact (show False from p).elim
  | [d], tl, p =>
    obtain ⟨v, rfl, t⟩ := tr1 tl
    simp only [builtin] at p
    split at p
    · rename_i n e
      have q : Q (.int n) H := p.here rh (.int _)
      cases d with
      | tup ds =>
        obtain ⟨pa, ys, rfl, sa, ta⟩ := t.of_tup
        cases e
        exact call_len pins s σ H _ us Q I r ⟨_, ds.length, rfl, .inr ⟨ys, sa, ta.length⟩, q⟩
      | str z =>
        obtain rfl := t.of_str
        simp only [lenOf] at e
        split at e
        · rename_i hl
          cases e
          exact call_len pins s σ H _ us Q I r ⟨_, z.length, rfl, ⟨by rw [← line_eq]; exact hl, rfl⟩, q⟩
        · cases e
      | ref m =>
        simp only [lenOf] at e
        have dct : ∀ {a : Addr} {o : HO} {kvs : List (D × D)}, v = .ref a → Rd H a o → DR X.K (nm X) φ H a kvs o → n = kvs.length → wpAny (model X.prog X.w) X.A (call (.builtin "len") us) (EP X pins σ Q) X.xe s := by
          intro a o kvs ev rd dr en
          subst ev en
          obtain ⟨u, rfl, ru⟩ := vals1 r
          obtain rfl : u = Value.ref a := ru
          have ok := rd.ok I.hok
          cases dr with
          | k pr =>
            rw [Paired.length pr] at q
            rename_i kv
            exact d_len I (kvs := kv) rd fun t s' I' => ⟨.int _, H, I', ⟨t, rfl⟩, q⟩
          | t n l pr =>
            rename_i xs'
            obtain ⟨⟨o, es, ep, h1, h2, h3, h4, h5⟩, _, _⟩ := ok
            have hm : s.heap.DictKeyed (nestedKind X.prog X.w) a (pairsH xs') := ⟨xs', ⟨o, es, ep, h1, h2, h3, h4, is_all I pr, h5⟩, rfl⟩
            have hlen : (pairsH xs').length = kvs.length := by rw [pairsH_length, Paired.length pr]
            have hz := line62
            refine PyProof.Rows.call_len_slot (n := (pairsH xs').length) hm.typeIs PySem.F.slot_dict_len (fun Q' hq => len_keyed n hm hq) (by omega) (by omega) ?_
            rw [hlen]
            first
              | exact ⟨.int _, H, I.tok _, ⟨_, rfl⟩, q⟩
              | exact fun t => ⟨.int _, H, I.tok _, ⟨_, rfl⟩, q⟩
        split at e
        · rename_i a e1
          obtain ⟨pa, rfl, _, oa⟩ := t.obj rh e1
          obtain ⟨ys, ha, ta⟩ := oa.lst_of
          cases e
          exact call_len pins s σ H _ us Q I r ⟨_, a.length, rfl, .inl ⟨ys, .of ha, ta.length⟩, q⟩
        · rename_i a e1
          obtain ⟨pa, rfl, _, oa⟩ := t.obj rh e1
          obtain ⟨ob, ys, ha, ta⟩ := oa.ro_of
          cases e
          exact call_len pins s σ H _ us Q I r ⟨_, a.length, rfl, .inl ⟨ys, .inl (.inr ⟨_, ha⟩), ta.length⟩, q⟩
        · rename_i a e1
          obtain ⟨pa, ev, _, oa⟩ := t.obj rh e1
          obtain ⟨o, ha, dr⟩ := oa.dict_of
          cases e
          exact dct ev (.inl ha) dr rfl
        · rename_i a e1
          obtain ⟨pa, ev, _, oa⟩ := t.obj rh e1
          obtain ⟨ob, o, ha, dr⟩ := oa.ldict_of
          cases e
          exact dct ev (.inr ⟨_, ha⟩) dr rfl
        · cases e
      | _ => cases e
    · exact (show False from p).elim
  | _ :: _ :: _, _, p => exact (show False from p).elim
theorem cb_abs : CallR X (.builtin "abs") (RCall X.K (nm X) (builtin .abs)) := by
  intro pins s σ H xs us Q I r q
  obtain ⟨φ, h, ds, rh, tl, p⟩ := q
  match ds, tl, p with
  | [.int i], tl, p =>
    obtain ⟨v, rfl, t⟩ := tr1 tl
    obtain rfl := t.of_int
    exact call_abs pins s σ H _ us Q I r ⟨i, rfl, p.here rh (.int _)⟩
  | [], _, p => exact (show False from p).elim
  | [.non], _, p => exact (show False from p).elim
  | [.bl _], _, p => exact (show False from p).elim
  | [.str _], _, p => exact (show False from p).elim
  | [.tup _], _, p => exact (show False from p).elim
  | [.ref _], _, p => exact (show False from p).elim
  | [.gl _], _, p => exact (show False from p).elim
  | [.ty _], _, p => exact (show False from p).elim
  | x :: _ :: _, _, p => exact (show False from by cases x <;> exact p).elim
theorem cb_int : CallR X (.type "int") (RCall X.K (nm X) (builtin .int)) := by
  intro pins s σ H xs us Q I r q
  obtain ⟨φ, h, ds, rh, tl, p⟩ := q
  match ds, tl, p with
  | [.int i], tl, p =>
    obtain ⟨v, rfl, t⟩ := tr1 tl
    obtain rfl := t.of_int
    exact call_int1 pins s σ H _ us Q I r (.inl ⟨i, rfl, p.here rh (.int _)⟩)
  | [], _, p => exact (show False from p).elim
  | [.non], _, p => exact (show False from p).elim
  | [.bl _], _, p => exact (show False from p).elim
  | [.str _], _, p => exact (show False from p).elim
  | [.tup _], _, p => exact (show False from p).elim
  | [.ref _], _, p => exact (show False from p).elim
  | [.gl _], _, p => exact (show False from p).elim
  | [.ty _], _, p => exact (show False from p).elim
  | x :: _ :: _, _, p => exact (show False from by cases x <;> exact p).elim
/-! lists of ints, of flags -/
theorem ints_tr {K : Fg} {φ : List Addr} {H : L2.Hp} : ∀ {ds : List D} {xs : List V} {ns : List Int}, TrL K φ H ds xs → intsOf ds = some ns → xs = ns.map V.int
  | [], _, _, .nil, e => by cases e; rfl
  | .int i :: r, _, _, .cons t q, e => by
    simp only [intsOf, Option.map_eq_some_iff] at e
    obtain ⟨ns, e1, rfl⟩ := e
    obtain rfl := t.of_int
    rw [ints_tr q e1]; rfl
  | .non :: _, _, _, _, e => by simp [intsOf] at e
  | .bl _ :: _, _, _, _, e => by simp [intsOf] at e
  | .str _ :: _, _, _, _, e => by simp [intsOf] at e
  | .tup _ :: _, _, _, _, e => by simp [intsOf] at e
  | .ref _ :: _, _, _, _, e => by simp [intsOf] at e
  | .gl _ :: _, _, _, _, e => by simp [intsOf] at e
  | .ty _ :: _, _, _, _, e => by simp [intsOf] at e
theorem bls_tr {K : Fg} {φ : List Addr} {H : L2.Hp} : ∀ {ds : List D} {xs : List V} {ns : List Bool}, TrL K φ H ds xs → blsOf ds = some ns → xs = ns.map V.bl
  | [], _, _, .nil, e => by cases e; rfl
  | .bl i :: r, _, _, .cons t q, e => by
    simp only [blsOf, Option.map_eq_some_iff] at e
    obtain ⟨ns, e1, rfl⟩ := e
    obtain rfl := t.of_bl
    rw [bls_tr q e1]; rfl
  | .non :: _, _, _, _, e => by simp [blsOf] at e
  | .int _ :: _, _, _, _, e => by simp [blsOf] at e
  | .str _ :: _, _, _, _, e => by simp [blsOf] at e
  | .tup _ :: _, _, _, _, e => by simp [blsOf] at e
  | .ref _ :: _, _, _, _, e => by simp [blsOf] at e
  | .gl _ :: _, _, _, _, e => by simp [blsOf] at e
  | .ty _ :: _, _, _, _, e => by simp [blsOf] at e
theorem list_tr {K : Fg} {mg : Nm} {φ : List Addr} {H : L2.Hp} {h : Y.Hp} {d : D} {v : V} {ds : List D} (r : RH K mg φ h H) (t : Tr K φ H d v) (e : list? d h = some ds) : ∃ a xs, v = .ref a ∧ SqL K H a xs ∧ TrL K φ H ds xs := by
  cases d with
  | ref n =>
    simp only [list?] at e
    split at e
    · rename_i ds e1
      obtain ⟨pa, rfl, _, oa⟩ := t.obj r e1
      obtain ⟨xs, ha, ta⟩ := oa.lst_of
      cases e
      exact ⟨pa, xs, rfl, .of ha, ta⟩
    · rename_i ds e1
      obtain ⟨pa, rfl, _, oa⟩ := t.obj r e1
      obtain ⟨ob, xs, ha, ta⟩ := oa.ro_of
      cases e
      exact ⟨pa, xs, rfl, .inl (.inr ⟨_, ha⟩), ta⟩
    · cases e
  | _ => cases e
theorem cb_all (hc : X.calm = true) : CallR X (.builtin "all") (RCall X.K (nm X) (builtin .all)) := by
  intro pins s σ H xs us Q I r q
  obtain ⟨φ, h, ds, rh, tl, p⟩ := q
  match ds, tl, p with
  | [], _, p => exact (show False from p).elim
  | [d], tl, p =>
    obtain ⟨v, rfl, t⟩ := tr1 tl
    simp only [builtin] at p
    split at p
    · rename_i bs e
      rw [Option.bind_eq_some_iff] at e
      obtain ⟨ds, e1, e2⟩ := e
      obtain ⟨a, ys, rfl, sq, ty⟩ := list_tr rh t e1
      rw [bls_tr ty e2] at sq
      exact cr_all hc pins s σ H _ us Q I r ⟨a, bs, rfl, sq, p.here rh (.bl _)⟩
    · exact (show False from p).elim
  | _ :: _ :: _, _, p => exact (show False from p).elim
theorem cb_any (hc : X.calm = true) : CallR X (.builtin "any") (RCall X.K (nm X) (builtin .any)) := by
  intro pins s σ H xs us Q I r q
  obtain ⟨φ, h, ds, rh, tl, p⟩ := q
  match ds, tl, p with
  | [], _, p => exact (show False from p).elim
  | [d], tl, p =>
    obtain ⟨v, rfl, t⟩ := tr1 tl
    simp only [builtin] at p
    split at p
    · rename_i bs e
      rw [Option.bind_eq_some_iff] at e
      obtain ⟨ds, e1, e2⟩ := e
      obtain ⟨a, ys, rfl, sq, ty⟩ := list_tr rh t e1
      rw [bls_tr ty e2] at sq
      exact cr_any hc pins s σ H _ us Q I r ⟨a, bs, rfl, sq, p.here rh (.bl _)⟩
    · exact (show False from p).elim
  | _ :: _ :: _, _, p => exact (show False from p).elim
theorem cb_sum (hc : X.calm = true) : CallR X (.builtin "sum") (RCall X.K (nm X) (builtin .sum)) := by
  intro pins s σ H xs us Q I r q
  obtain ⟨φ, h, ds, rh, tl, p⟩ := q
  match ds, tl, p with
  | [], _, p => exact (show False from p).elim
  | [d], tl, p =>
    obtain ⟨v, rfl, t⟩ := tr1 tl
    simp only [builtin] at p
    split at p
    · rename_i bs e
      rw [Option.bind_eq_some_iff] at e
      obtain ⟨ds, e1, e2⟩ := e
      obtain ⟨a, ys, rfl, sq, ty⟩ := list_tr rh t e1
      rw [ints_tr ty e2] at sq
      exact cr_sum hc pins s σ H _ us Q I r ⟨a, bs, rfl, sq, p.here rh (.int _)⟩
    · exact (show False from p).elim
  | _ :: _ :: _, _, p => exact (show False from p).elim
theorem maxL_in : ∀ (i : Int) (r : List Int), maxL (i :: r) ∈ i :: r ∧ ∀ y ∈ i :: r, y ≤ maxL (i :: r)
  | i, [] => by simp [maxL]
  | i, j :: r => by
    obtain ⟨h1, h2⟩ := maxL_in j r
    rw [show maxL (i :: j :: r) = max i (maxL (j :: r)) from rfl]
    refine ⟨?_, fun y hy => ?_⟩
    · rcases Int.le_total i (maxL (j :: r)) with e | e
      · rw [Int.max_eq_right e]; exact List.mem_cons_of_mem _ h1
      · rw [Int.max_eq_left e]; exact List.mem_cons_self
    · rcases List.mem_cons.mp hy with e | hy
      · subst e; exact Int.le_max_left _ _
      · exact Int.le_trans (h2 y hy) (Int.le_max_right _ _)
theorem minL_in : ∀ (i : Int) (r : List Int), minL (i :: r) ∈ i :: r ∧ ∀ y ∈ i :: r, minL (i :: r) ≤ y
  | i, [] => by simp [minL]
  | i, j :: r => by
    obtain ⟨h1, h2⟩ := minL_in j r
    rw [show minL (i :: j :: r) = min i (minL (j :: r)) from rfl]
    refine ⟨?_, fun y hy => ?_⟩
    · rcases Int.le_total i (minL (j :: r)) with e | e
      · rw [Int.min_eq_left e]; exact List.mem_cons_self
      · rw [Int.min_eq_right e]; exact List.mem_cons_of_mem _ h1
    · rcases List.mem_cons.mp hy with e | hy
      · subst e; exact Int.min_le_left _ _
      · exact Int.le_trans (Int.min_le_right _ _) (h2 y hy)
theorem cb_max (hc : X.calm = true) : CallR X (.builtin "max") (RCall X.K (nm X) (builtin .max)) := by
  intro pins s σ H xs us Q I r q
  obtain ⟨φ, h, ds, rh, tl, p⟩ := q
  simp only [builtin] at p
  split at p
  · rename_i i j
    obtain ⟨v, u, rfl, t1, t2⟩ := tr2 tl
    obtain rfl := t1.of_int
    obtain rfl := t2.of_int
    exact call_max2 hc pins s σ H _ us Q I r ⟨i, j, rfl, p.here rh (.int _)⟩
  · rename_i d
    obtain ⟨v, rfl, t⟩ := tr1 tl
    split at p
    · rename_i i rr e
      rw [Option.bind_eq_some_iff] at e
      obtain ⟨ds, e1, e2⟩ := e
      obtain ⟨a, ys, rfl, sq, ty⟩ := list_tr rh t e1
      rw [ints_tr ty e2] at sq
      obtain ⟨m1, m2⟩ := maxL_in i rr
      refine cr_max hc pins s σ H _ us Q I r ⟨a, _, rfl, sq, by simp, fun m hm hy => ?_⟩
      have e : m = maxL (i :: rr) := Int.le_antisymm (m2 m hm) (hy _ m1)
      rw [e]
      exact p.here rh (.int _)
    · exact (show False from p).elim
  · exact (show False from p).elim
theorem cb_min (hc : X.calm = true) : CallR X (.builtin "min") (RCall X.K (nm X) (builtin .min)) := by
  intro pins s σ H xs us Q I r q
  obtain ⟨φ, h, ds, rh, tl, p⟩ := q
  simp only [builtin] at p
  split at p
  · rename_i i j
    obtain ⟨v, u, rfl, t1, t2⟩ := tr2 tl
    obtain rfl := t1.of_int
    obtain rfl := t2.of_int
    exact call_min2 hc pins s σ H _ us Q I r ⟨i, j, rfl, p.here rh (.int _)⟩
  · rename_i d
    obtain ⟨v, rfl, t⟩ := tr1 tl
    split at p
    · rename_i i rr e
      rw [Option.bind_eq_some_iff] at e
      obtain ⟨ds, e1, e2⟩ := e
      obtain ⟨a, ys, rfl, sq, ty⟩ := list_tr rh t e1
      rw [ints_tr ty e2] at sq
      obtain ⟨m1, m2⟩ := minL_in i rr
      refine cr_min hc pins s σ H _ us Q I r ⟨a, _, rfl, sq, by simp, fun m hm hy => ?_⟩
      have e : m = minL (i :: rr) := Int.le_antisymm (hy _ m1) (m2 m hm)
      rw [e]
      exact p.here rh (.int _)
    · exact (show False from p).elim
  · exact (show False from p).elim
/-- the builtin's value -/
theorem items_tr {K : Fg} {mg : Nm} {φ : List Addr} {H : L2.Hp} {h : Y.Hp} {d : D} {v : V} {ds : List D} (r : RH K mg φ h H) (t : Tr K φ H d v) (e : items? d h = some ds) : ∃ a xs, v = .ref a ∧ (SqL K H a xs ∨ SqT K H a xs) ∧ TrL K φ H ds xs := by
  cases d with
  | tup as =>
    cases e
    obtain ⟨a, xs, rfl, s, tl⟩ := t.of_tup
    exact ⟨a, xs, rfl, .inr s, tl⟩
  | ref n =>
    obtain ⟨a, xs, e1, s, tl⟩ := list_tr r t (show list? (.ref n) h = some ds from e)
    exact ⟨a, xs, e1, .inl s, tl⟩
  | _ => cases e
theorem cb_list : CallR X (.type "list") (RCall X.K (nm X) (builtin .list)) := by
  intro pins s σ H xs us Q I r q
  obtain ⟨φ, h, ds, rh, tl, p⟩ := q
  match ds, tl, p with
  | [], _, p => exact (show False from p).elim
  | [d], tl, p =>
    obtain ⟨v, rfl, t⟩ := tr1 tl
    simp only [builtin] at p
    split at p
    · rename_i bs e
      obtain ⟨a, ys, rfl, sq, ty⟩ := items_tr rh t e
      exact call_list_of pins s σ H _ us Q I r ⟨a, ys, rfl, sq, fun l hl => p.made rh hl (new_lst rh hl ty)⟩
    · exact (show False from p).elim
  | _ :: _ :: _, _, p => exact (show False from p).elim
theorem cb_tup : CallR X (.type "tuple") (RCall X.K (nm X) (builtin .tup)) := by
  intro pins s σ H xs us Q I r q
  obtain ⟨φ, h, ds, rh, tl, p⟩ := q
  match ds, tl, p with
  | [], _, p => exact (show False from p).elim
  | [d], tl, p =>
    obtain ⟨v, rfl, t⟩ := tr1 tl
    simp only [builtin] at p
    split at p
    · rename_i bs e
      obtain ⟨a, ys, rfl, sq, ty⟩ := items_tr rh t e
      refine call_tuple_of pins s σ H _ us Q I r ⟨a, ys, rfl, ?_⟩
      rcases sq with sq | sq
      · exact .inl ⟨sq, fun l hl => p.beside rh hl (.tup (.of upd_same) (ty.up (List.prefix_refl _) (.new hl)))⟩
      · exact .inr ⟨sq, p.here rh (.tup sq ty)⟩
    · exact (show False from p).elim
  | _ :: _ :: _, _, p => exact (show False from p).elim
def biV : Bi → Value
  | .len => .builtin "len" | .abs => .builtin "abs" | .int => .type "int" | .min => .builtin "min" | .max => .builtin "max" | .all => .builtin "all" | .any => .builtin "any" | .sum => .builtin "sum" | .list => .type "list" | .tup => .type "tuple"
theorem cb (hc : X.calm = true) (b : Bi) : CallR X (biV b) (RCall X.K (nm X) (builtin b)) := by
  cases b
  · exact cb_len
  · exact cb_abs
  · exact cb_int
  · exact cb_min hc
  · exact cb_max hc
  · exact cb_all hc
  · exact cb_any hc
  · exact cb_sum hc
  · exact cb_list
  · exact cb_tup
end
end Y

set_option Elab.async false
set_option linter.all false
set_option maxRecDepth 100000
set_option maxHeartbeats 1000000
/-! Calls of builtins by name, methods, isinstance, fields. -/
namespace Y
open PySem PySem.Spec PyProof.Rows L2

theorem noexc_builtin {b : Bi} {ds : List D} {h : Y.Hp} : ∀ c fs h', builtin b ds h ≠ .exc c fs h' := by
  intro c fs h' e
  cases b <;> simp only [builtin] at e <;> (split at e) <;> (try split at e) <;> simp [new] at e
theorem noexc_method {k : Kd} {x : D} {m : Me} {ds : List D} {h : Y.Hp} : ∀ c fs h', method k x m ds h ≠ .exc c fs h' := by
  intro c fs h' e
  unfold method at e
  split at e
  · split at e
    · unfold lstM at e
      split at e <;> (try split at e) <;> (try split at e) <;> (try split at e) <;> (try split at e) <;> simp at e
    · simp at e
  · split at e
    · unfold dctM at e
      split at e <;> (try split at e) <;> (try split at e) <;> simp at e
    · unfold dctM at e
      split at e <;> (try split at e) <;> (try split at e) <;> simp at e
    · simp at e
  · simp at e

section
variable {X : Cx} {W : WX} {a b c : Expr} {ma mb mc : ME} {pos p2 apos : Pos} {es : List Expr} {m : MA} {x : Str} {p : Pos}
/-- f(..), f a builtin -/
theorem c_bi {f : Bi} (hc : X.calm = true) (hg : Gl X x) (hm : X.mg x = none) (hv : bootBuiltins x = some (biV f)) (ha : PA X (a :: es) (RA X W m)) (hn : x ≠ "__name__") (hdb : (x == ("__debug__" : Str)) = false)
    (he : starEach (a :: es) X.env = (false, eval a X.env) :: starEach es X.env) (hpl : (backTo pos (starEach es X.env)).any (·.1) = false) :
    PE X (.Call (.Name x p) (a :: es) [] pos) (RE X W fun ρ h => (m ρ h).bind fun ds h => builtin f ds h) := by
  have imp : ∀ σ H Q, RE X W (fun ρ h => (m ρ h).bind fun ds h => builtin f ds h) σ H Q → tCB (RCall X.K (nm X) (builtin f)) (RA X W m) σ H Q := by
    intro σ H Q q
    obtain ⟨φ, ρ, h, rh, ts, p⟩ := q
    exact ⟨φ, ρ, h, rh, ts, PostA.bindE p fun ds h' φ' H' vs b t p' => ⟨φ', h', ds, b.rh, t, p'.noexc noexc_builtin⟩⟩
  cases f with
  | len => exact PE.imp (pe_callB (id := "len") cb_len hg hm hv ha hn hdb he hpl) imp
  | abs => exact PE.imp (pe_callB (id := "abs") cb_abs hg hm hv ha hn hdb he hpl) imp
  | int => exact PE.imp (pe_callTy (T := "int") cb_int hg hm hv ha hn hdb he hpl) imp
  | min => exact PE.imp (pe_callB (id := "min") (cb_min hc) hg hm hv ha hn hdb he hpl) imp
  | max => exact PE.imp (pe_callB (id := "max") (cb_max hc) hg hm hv ha hn hdb he hpl) imp
  | all => exact PE.imp (pe_callB (id := "all") (cb_all hc) hg hm hv ha hn hdb he hpl) imp
  | any => exact PE.imp (pe_callB (id := "any") (cb_any hc) hg hm hv ha hn hdb he hpl) imp
  | sum => exact PE.imp (pe_callB (id := "sum") (cb_sum hc) hg hm hv ha hn hdb he hpl) imp
  | list => exact PE.imp (pe_callTy (T := "list") cb_list hg hm hv ha hn hdb he hpl) imp
  | tup => exact PE.imp (pe_callTy (T := "tuple") cb_tup hg hm hv ha hn hdb he hpl) imp

/-! ### methods -/
def kdT : Kd → String
  | .lst => "list" | .dct => "dict" | .str => "str"
theorem kind_is {pins : List (Addr × Obj)} {σ : L2.St} {H : L2.Hp} {s : Shared} {φ : List Addr} {h : Y.Hp} {d : D} {k : Kd} {v : V} {u : Value} (I : Inv X pins σ H s) (rh : RH X.K (nm X) φ h H) (t : Tr X.K φ H d v) (r : RelV v u) (e : kindOf d h = some k) :
    s.TypeIs u (kdT k) ∧ ∀ a, u = .ref a → ∃ ob, s.heap.get? a = some ob ∧ ob.dict = none := by
  cases d with
  | str z =>
    cases e
    obtain rfl := t.of_str
    exact tyV_is I r (T := "str") rfl
  | ref n =>
    simp only [kindOf] at e
    have dct : ∀ {a : Addr} {o : HO} {kvs : List (D × D)}, v = .ref a → Rd H a o → DR X.K (nm X) φ H a kvs o → k = .dct → s.TypeIs u (kdT k) ∧ ∀ a, u = .ref a → ∃ ob, s.heap.get? a = some ob ∧ ob.dict = none := by
      intro a o kvs ev rd dr ek
      subst ev ek
      obtain rfl : u = Value.ref a := r
      obtain ⟨h1, h2⟩ := dict_is I rd dr
      exact ⟨h1, fun a' e' => by cases e'; exact h2⟩
    split at e
    · rename_i a e1
      obtain ⟨pa, rfl, _, oa⟩ := t.obj rh e1
      obtain ⟨ys, ha, ta⟩ := oa.lst_of
      cases e
      exact tyV_is I r (T := "list") (.inl ⟨rfl, ys, .of ha⟩)
    · rename_i a e1
      obtain ⟨pa, rfl, _, oa⟩ := t.obj rh e1
      obtain ⟨ob, ys, ha, ta⟩ := oa.ro_of
      cases e
      exact tyV_is I r (T := "list") (.inl ⟨rfl, ys, .inl (.inr ⟨_, ha⟩)⟩)
    · rename_i a e1
      obtain ⟨pa, ev, _, oa⟩ := t.obj rh e1
      obtain ⟨o, ha, dr⟩ := oa.dict_of
      cases e
      exact dct ev (.inl ha) dr rfl
    · rename_i a e1
      obtain ⟨pa, ev, _, oa⟩ := t.obj rh e1
      obtain ⟨ob, o, ha, dr⟩ := oa.ldict_of
      cases e
      exact dct ev (.inr ⟨_, ha⟩) dr rfl
    · cases e
  | _ => cases e
/-- a method of a kind -/
structure MK (X : Cx) (name : Str) (k : Kd) (id : String) (f : D → List D → Y.Hp → Res D) : Prop where
  pa : PlainAttrs (kdT k)
  slot : Slot (kdT k) name id
  ty : typeOf (.builtin id) = pure (.type "method_descriptor")
  run : ∀ (pins : List (Addr × Obj)) (s : Shared) (σ : L2.St) (H : L2.Hp) (φ : List Addr) (h : Y.Hp) (d : D) (ds : List D) (x : V) (xs : List V) (v : Value) (us : List Value) (Q : VK), Inv X pins σ H s → RH X.K (nm X) φ h H → Tr X.K φ H d x → RelV x v → TrL X.K φ H ds xs → Vals xs us →
    PostE X.K (nm X) φ H (f d ds h) NoX Q → wpAny (model X.prog X.w) X.A (call (.builtin id) (v :: us)) (EP X pins σ Q) X.xe s
def MKs (X : Cx) (name : Str) (me : Me) : Prop := ∀ k : Kd, has k me = true → ∃ id, MK X name k id fun x ds h => method k x me ds h
abbrev mMt (ma : ME) (me : Me) (m : MA) : ME := fun ρ h => (ma ρ h).bind fun x h => match kindOf x h with
  | some k => if has k me then (m ρ h).bind fun ds h => method k x me ds h else .bad
  | none => .bad
theorem c_mt0 {name : Str} {me : Me} (M : MKs X name me) (ha : PE X a (RE X W ma)) (hbase : attributeBase a name X.env (eval a X.env) = eval a X.env) (hline : (apos.endLine == pos.line) = true) :
    PE X (.Call (.Attribute a name apos) [] [] pos) (RE X W (mMt ma me fun _ h => .ok [] h)) := by
  refine ⟨fun pins s σ H Q I q => ?_⟩
  obtain ⟨φ, ρ, h, rh, ts, p⟩ := q
  refine wpAny_Call_method0_late hbase hline (thn (ha.run pins s σ H (fun x H1 => ∃ φ h d k, RH X.K (nm X) φ h H1 ∧ Tr X.K φ H1 d x ∧ kindOf d h = some k ∧ has k me = true ∧ PostE X.K (nm X) φ H1 (method k d me [] h) NoX Q) I
    ⟨φ, ρ, h, rh, ts, PostE.bindE p fun d h' φ' H' v b t p' => ?_⟩) fun v s1 hh => ?_)
  · cases hk : kindOf d h' with
    | none => rw [hk] at p'; exact (show False from p').elim
    | some k =>
      rw [hk] at p'
      simp only at p'
      by_cases hh : has k me = true
      · rw [if_pos hh] at p'
        exact ⟨φ', h', d, k, b.rh, t, hk, hh, p'.noexc noexc_method⟩
      · rw [if_neg hh] at p'; exact (show False from p').elim
  · obtain ⟨x, H1, I1, r1, φ1, h1, d, k, rh1, t1, hk, hh, p1⟩ := hh
    obtain ⟨id, M⟩ := M k hh
    · obtain ⟨k1, k2⟩ := kind_is I1 rh1 t1 r1 hk
      exact ⟨kdT k, id, M.pa, M.slot, M.ty, k1, k2, Calls.callWith_builtin rfl (PySem.evalArgs_none (M.run pins s1 σ H1 φ1 h1 d [] x [] v [] Q I1 rh1 t1 r1 .nil .nil p1))⟩
theorem c_mt {name : Str} {me : Me} (M : MKs X name me) (ha : PE X a (RE X W ma)) (hm : PA X (b :: es) (RA X W m)) (hbase : attributeBase a name X.env (eval a X.env) = eval a X.env)
    (hfew : ((backTo pos (starEach (b :: es) X.env)).all (fun x => !x.1) && (backToKw pos (keywordEach [] X.env)).all (fun x => x.1.isSome)
      && decide ((b :: es).length + ([] : List Keyword).length + (if ([] : List Keyword).isEmpty then 0 else 1) < 30)) = true)
    (hline : (apos.endLine == pos.line) = true) (hs : starEach (b :: es) X.env = (false, eval b X.env) :: starEach es X.env) (hplain : (backTo pos (starEach es X.env)).any (·.1) = false) :
    PE X (.Call (.Attribute a name apos) (b :: es) [] pos) (RE X W (mMt ma me m)) := by
  refine ⟨fun pins s σ H Q I q => ?_⟩
  obtain ⟨φ, ρ, h, rh, ts, p⟩ := q
  refine wpAny_Call_method_late hbase hfew hline rfl (thn (ha.run pins s σ H (fun x H1 => ∃ φ h d k, RH X.K (nm X) φ h H1 ∧ Tr X.K φ H1 d x ∧ TrS X.K φ H1 ρ σ ∧ kindOf d h = some k ∧ has k me = true ∧
    PostE X.K (nm X) φ H1 ((m ρ h).bind fun ds h => method k d me ds h) (fun c d H' => W c d σ H') Q) I ⟨φ, ρ, h, rh, ts, PostE.bindE p fun d h' φ' H' v b t p' => ?_⟩) fun v s1 hh => ?_)
  · cases hk : kindOf d h' with
    | none => rw [hk] at p'; exact (show False from p').elim
    | some k =>
      rw [hk] at p'
      simp only at p'
      by_cases hh : has k me = true
      · rw [if_pos hh] at p'
        exact ⟨φ', h', d, k, b.rh, t, b.trS ts, hk, hh, p'⟩
      · rw [if_neg hh] at p'; exact (show False from p').elim
  · obtain ⟨x, H1, I1, r1, φ1, h1, d, k, rh1, t1, ts1, hk, hh, p1⟩ := hh
    obtain ⟨id, M⟩ := M k hh
    · obtain ⟨k1, k2⟩ := kind_is I1 rh1 t1 r1 hk
      refine ⟨kdT k, id, M.pa, M.slot, M.ty, k1, k2, ?_⟩
      have hA := hm.run pos pins s1 σ H1 (fun xs H2 => ∃ φ h ds, RH X.K (nm X) φ h H2 ∧ Tr X.K φ H2 d x ∧ TrL X.K φ H2 ds xs ∧ PostE X.K (nm X) φ H2 (method k d me ds h) NoX Q) I1
        ⟨φ1, ρ, h1, rh1, ts1, PostA.bindE p1 fun ds h2 φ2 H2 vs b2 t2 p2 => ⟨φ2, h2, ds, b2.rh, b2.tr t1, t2, p2.noexc noexc_method⟩⟩
      rw [hs] at hA ⊢
      refine Calls.callWith_builtin (by show (false || (backTo pos (starEach es X.env)).any (·.1)) = false; rw [hplain] <;> rfl) (Calls.evalArgs_plain ?_)
      exact thn hA fun us s2 ⟨vs, H2, I2, r2, φ2, h2, ds, rh2, t2, tl2, p2⟩ => M.run pins s2 σ H2 φ2 h2 d ds x vs v us Q I2 rh2 t2 r1 tl2 r2 p2
/-! the methods themselves -/
theorem lst_run {id : String} {me : Me} (hm : ∀ (pins : List (Addr × Obj)) (s : Shared) (σ : L2.St) (H : L2.Hp) (φ : List Addr) (h : Y.Hp) (n : Nat) (pa : Addr) (as ds : List D) (ys xs : List V) (v : Value) (us : List Value) (Q : VK), Inv X pins σ H s → RH X.K (nm X) φ h H →
      φ[n]? = some pa → h[n]? = some (.lst as) → H pa = some (.lst ys) → TrL X.K φ H as ys → RelV (.ref pa) v → TrL X.K φ H ds xs → Vals xs us → PostE X.K (nm X) φ H (lstM n as me ds h) NoX Q → wpAny (model X.prog X.w) X.A (call (.builtin id) (v :: us)) (EP X pins σ Q) X.xe s) :
    ∀ (pins : List (Addr × Obj)) (s : Shared) (σ : L2.St) (H : L2.Hp) (φ : List Addr) (h : Y.Hp) (d : D) (ds : List D) (x : V) (xs : List V) (v : Value) (us : List Value) (Q : VK), Inv X pins σ H s → RH X.K (nm X) φ h H → Tr X.K φ H d x → RelV x v → TrL X.K φ H ds xs → Vals xs us →
    PostE X.K (nm X) φ H (method .lst d me ds h) NoX Q → wpAny (model X.prog X.w) X.A (call (.builtin id) (v :: us)) (EP X pins σ Q) X.xe s := by
  intro pins s σ H φ h d ds x xs v us Q I rh t r tl rl p
  cases d with
  | ref n =>
    simp only [method] at p
    split at p
    · rename_i as e1
      obtain ⟨pa, rfl, hp, oa⟩ := t.obj rh e1
      obtain ⟨ys, ha, ty⟩ := oa.lst_of
      exact hm pins s σ H φ h n pa as ds ys xs v us Q I rh hp e1 ha ty r tl rl p
    · exact (show False from p).elim
  | _ => exact (show False from p).elim
theorem PostE.wrote {K : Fg} {mg : Nm} {φ : List Addr} {H : L2.Hp} {h : Y.Hp} {W : Value → Option Addr → L2.Hp → Prop} {Q : VK} {n : Nat} {pa : Addr} {ds : List D} {ys xs : List V} {d : D} {v : V} (p : PostE K mg φ H (.ok d (h.set n (.lst ds))) W Q) (rh : RH K mg φ h H)
    (hp : φ[n]? = some pa) (ha : H pa = some (.lst ys)) (tl : TrL K φ H ds xs) (t : Tr K φ H d v) : Q v (upd H pa (.lst xs)) := by
  have k : Keep H (upd H pa (.lst xs)) := .write ha (fun _ z => by cases z) (fun _ _ z => by cases z)
  exact p φ _ v (.write (List.mem_of_getElem? hp) k (rh.put hp k (.lst upd_same (tl.up (List.prefix_refl φ) k)))) (t.up (List.prefix_refl φ) k)
theorem m_append : MKs X "append" .append := by
  intro k hk
  cases k <;> simp [has] at hk
  refine ⟨"list.append", PySem.F.plainAttrs_list, PySem.F.slot_list_append, PySem.F.type_list_append, lst_run fun pins s σ H φ h n pa as ds ys xs v us Q I rh hp e1 ha ty r tl rl p => ?_⟩
  simp only [lstM] at p
  split at p
  · rename_i d
    obtain ⟨w, rfl, tw⟩ := tr1 tl
    split at p
    · rename_i hl
      exact mt_append pins s σ H _ _ v us Q I r rl ⟨pa, ys, w, rfl, rfl, ha, by rw [← line_eq, ← ty.length]; exact hl, p.wrote rh hp ha (ty.snoc tw) .non⟩
    · exact (show False from p).elim
  · exact (show False from p).elim
theorem m_extend : MKs X "extend" .extend := by
  intro k hk
  cases k <;> simp [has] at hk
  refine ⟨"list.extend", PySem.F.plainAttrs_list, PySem.F.slot_list_extend, PySem.F.type_list_extend, lst_run fun pins s σ H φ h n pa as ds ys xs v us Q I rh hp e1 ha ty r tl rl p => ?_⟩
  simp only [lstM] at p
  split at p
  · rename_i n'
    obtain ⟨w, rfl, tw⟩ := tr1 tl
    split at p
    · exact (show False from p).elim
    · split at p
      · rename_i bs e2
        obtain ⟨pb, rfl, _, ob⟩ := tw.obj rh e2
        obtain ⟨zs, hb, tz⟩ := ob.lst_of
        split at p
        · rename_i hl
          exact mt_extend pins s σ H _ _ v us Q I r rl ⟨pa, pb, ys, zs, rfl, rfl, ha, hb, by rw [← line_eq, ← ty.length, ← tz.length]; exact hl, p.wrote rh hp ha (ty.append tz) .non⟩
        · exact (show False from p).elim
      · exact (show False from p).elim
  · exact (show False from p).elim
theorem m_pop : MKs X "pop" .pop := by
  intro k hk
  cases k <;> simp [has] at hk
  refine ⟨"list.pop", PySem.F.plainAttrs_list, PySem.F.slot_list_pop, PySem.F.type_list_pop, lst_run fun pins s σ H φ h n pa as ds ys xs v us Q I rh hp e1 ha ty r tl rl p => ?_⟩
  simp only [lstM] at p
  split at p
  · cases tl
    split at p
    · rename_i d hd
      obtain ⟨w, h1, tw⟩ := ty.get hd
      exact mt_pop pins s σ H _ _ v us Q I r rl ⟨pa, ys, w, rfl, rfl, ha, by rw [← ty.length]; exact h1, p.wrote rh hp ha ty.dropLast tw⟩
    · exact (show False from p).elim
  · exact (show False from p).elim
theorem m_insert : MKs X "insert" .insert := by
  intro k hk
  cases k <;> simp [has] at hk
  refine ⟨"list.insert", PySem.F.plainAttrs_list, PySem.F.slot_list_insert, PySem.F.type_list_insert, lst_run fun pins s σ H φ h n pa as ds ys xs v us Q I rh hp e1 ha ty r tl rl p => ?_⟩
  simp only [lstM] at p
  split at p
  · rename_i i d
    obtain ⟨w1, w2, rfl, t1, t2⟩ := tr2 tl
    obtain rfl := t1.of_int
    split at p
    · rename_i hc
      simp only [Bool.and_eq_true, decide_eq_true_eq] at hc
      obtain ⟨⟨h0, h1⟩, h2⟩ := hc
      have hz := line62
      have hl : as.length < sizeLine := by rw [← line_eq]; exact h2
      refine mt_insert pins s σ H _ _ v us Q I r rl ⟨pa, ys, i, w2, rfl, rfl, ha, by rw [← ty.length]; exact hl, h0, by omega, ?_⟩
      rw [List.append_assoc]
      exact p.wrote rh hp ha ((ty.take _).append (.cons t2 (ty.drop _))) .non
    · exact (show False from p).elim
  · exact (show False from p).elim
theorem indexOf_py : ∀ {k : D} {as : List D} {j : Nat}, k.pure = true → D.pureL as = true → indexOf k as = some j → ∃ z, (pyL as)[j]? = some z ∧ PyData.eqv z (py k) = true ∧ ∀ (m : Nat) (z' : PyData), m < j → (pyL as)[m]? = some z' → PyData.eqv z' (py k) = false
  | k, [], j, _, _, e => by simp [indexOf] at e
  | k, a :: as, j, hk, ha, e => by
    rw [D.pureL, Bool.and_eq_true] at ha
    rw [indexOf] at e
    split at e
    · rename_i h
      cases e
      exact ⟨py a, by rw [pyL]; rfl, by rw [py_eqv a k ha.1 hk]; exact h, fun m z' hm => absurd hm (Nat.not_lt_zero m)⟩
    · rename_i h
      rw [Option.map_eq_some_iff] at e
      obtain ⟨i, e1, rfl⟩ := e
      obtain ⟨z, h1, h2, h3⟩ := indexOf_py hk ha.2 e1
      refine ⟨z, by rw [pyL]; exact h1, h2, fun m z' hm hz => ?_⟩
      cases m with
      | zero =>
        rw [pyL] at hz
        cases hz
        rw [py_eqv a k ha.1 hk]
        simpa using h
      | succ m =>
        rw [pyL] at hz
        exact h3 m z' (by omega) hz
theorem m_index (hu : X.A.units + 65 < cLine) : MKs X "index" .index := by
  intro k hk
  cases k <;> simp [has] at hk
  refine ⟨"list.index", PySem.F.plainAttrs_list, PySem.F.slot_list_index, PySem.F.type_list_index, lst_run fun pins s σ H φ h n pa as ds ys xs v us Q I rh hp e1 ha ty r tl rl p => ?_⟩
  simp only [lstM] at p
  split at p
  · rename_i d
    obtain ⟨w, rfl, tw⟩ := tr1 tl
    split at p
    · rename_i hc
      simp only [Bool.and_eq_true, decide_eq_true_eq] at hc
      obtain ⟨⟨⟨c1, c2⟩, c3⟩, c4⟩ := hc
      split at p
      · rename_i j hj
        obtain ⟨z, z1, z2, z3⟩ := indexOf_py c1 c2 hj
        exact mt_indexD hu pins s σ H _ _ v us Q I r rl ⟨pa, w, py d, pyL as, j, z, rfl, rfl, .lst (.of ha) (dp_ofL _ _ c2 ty), dp_of _ _ c1 tw, shaped_ofL c2 c4, shaped_of c1 c3, z1, z2, z3, p.here rh (.int _)⟩
      · exact (show False from p).elim
    · exact (show False from p).elim
  · exact (show False from p).elim
theorem m_get (hu : X.A.units + 64 < cLine) : MKs X "get" .get := by
  intro k hk
  cases k <;> simp [has] at hk
  refine ⟨"dict.get", PySem.F.plainAttrs_dict, PySem.F.slot_dict_get, PySem.F.type_dict_get, fun pins s σ H φ h d ds x xs v us Q I rh t r tl rl p => ?_⟩
  have go : ∀ {a : Addr} {o : HO} {kvs : List (D × D)}, x = .ref a → Rd H a o → DR X.K (nm X) φ H a kvs o → PostE X.K (nm X) φ H (dctM kvs .get ds h) NoX Q → wpAny (model X.prog X.w) X.A (call (.builtin "dict.get") (v :: us)) (EP X pins σ Q) X.xe s := by
    intro a o kvs ev rd dr p
    subst ev
    obtain rfl : v = Value.ref a := r
    simp only [dctM] at p
    split at p
    · obtain ⟨w, rfl, tw⟩ := tr1 tl
      obtain ⟨u, rfl, ru⟩ := vals1 rl
      split at p
      · rename_i hk
        exact di_get1 hu I rd dr hk tw ru fun v' u' s' I' t' r' => ⟨v', H, I', r', p.here rh t'⟩
      · exact (show False from p).elim
    · obtain ⟨w1, w2, rfl, t1, t2⟩ := tr2 tl
      obtain ⟨u1, u2, rfl, r1, r2⟩ := vals2 rl
      split at p
      · rename_i hk
        exact di_get2 hu I rd dr hk t1 r1 t2 r2 fun v' u' s' I' t' r' => ⟨v', H, I', r', p.here rh t'⟩
      · exact (show False from p).elim
    · exact (show False from p).elim
  cases d with
  | ref n =>
    simp only [method] at p
    split at p
    · rename_i kvs e1
      obtain ⟨pa, ev, hp, oa⟩ := t.obj rh e1
      obtain ⟨o, ha, dr⟩ := oa.dict_of
      exact go ev (.inl ha) dr p
    · rename_i kvs e1
      obtain ⟨pa, ev, hp, oa⟩ := t.obj rh e1
      obtain ⟨ob, o, ha, dr⟩ := oa.ldict_of
      exact go ev (.inr ⟨_, ha⟩) dr p
    · exact (show False from p).elim
  | _ => exact (show False from p).elim
def Me.str : Me → Str
  | .append => "append" | .extend => "extend" | .pop => "pop" | .insert => "insert" | .index => "index" | .get => "get"
theorem mks (hu : X.A.units + 65 < cLine) : ∀ m : Me, MKs X m.str m
  | .append => m_append
  | .extend => m_extend
  | .pop => m_pop
  | .insert => m_insert
  | .index => m_index hu
  | .get => m_get (by omega)
end
end Y

set_option Elab.async false
set_option linter.all false
set_option maxRecDepth 100000
set_option maxHeartbeats 1000000
/-! Targets, what is walked, for, comprehensions. -/
namespace Y
open PySem PySem.Spec PyProof.Rows L2 RT RZ

/-! ### targets -/
theorem PG.imp {X : Cx} {e : Expr} {t t' : TG} (h : PG X e t) (i : ∀ v σ H Q, t' v σ H Q → t v σ H Q) : PG X e t' := ⟨fun pins s σ H v u Q I r q => h.run pins s σ H v u Q I r (i _ _ _ _ q)⟩
theorem PGs.imp {X : Cx} {e : List Expr} {t t' : TGs} (h : PGs X e t) (i : ∀ v σ H Q, t' v σ H Q → t v σ H Q) : PGs X e t' := ⟨fun pins s σ H v u Q I r q => h.run pins s σ H v u Q I r (i _ _ _ _ q)⟩
theorem PG.or {X : Cx} {e : Expr} {t t' : TG} (h : PG X e t) (h' : PG X e t') : PG X e fun v σ H Q => t v σ H Q ∨ t' v σ H Q :=
  ⟨fun pins s σ H v u Q I r q => q.elim (h.run pins s σ H v u Q I r) (h'.run pins s σ H v u Q I r)⟩
theorem PS.or {X : Cx} {e : Stmt} {t t' : TS} (h : PS X e t) (h' : PS X e t') : PS X e fun D σ H => t D σ H ∨ t' D σ H :=
  ⟨fun pins s σ H D I q => q.elim (h.run pins s σ H D I) (h'.run pins s σ H D I)⟩
theorem PE.or {X : Cx} {e : Expr} {t t' : TE} (h : PE X e t) (h' : PE X e t') : PE X e fun σ H Q => t σ H Q ∨ t' σ H Q :=
  ⟨fun pins s σ H Q I q => q.elim (h.run pins s σ H Q I) (h'.run pins s σ H Q I)⟩
theorem PI.or {X : Cx} {tg e : Expr} {t t' : TI} (h : PI X tg e t) (h' : PI X tg e t') : PI X tg e fun σ H Q => t σ H Q ∨ t' σ H Q :=
  ⟨fun pins s σ H R I q => q.elim (h.run pins s σ H R I) (h'.run pins s σ H R I)⟩
theorem PI.imp {X : Cx} {tg e : Expr} {t t' : TI} (h : PI X tg e t) (i : ∀ σ H R, t' σ H R → t σ H R) : PI X tg e t' := ⟨fun pins s σ H R I q => h.run pins s σ H R I (i _ _ _ q)⟩
theorem wipe_in {σ : L2.St} {j : Nat} : ∀ {vs : List Nat}, j ∈ vs → (wipe σ vs)[j]? = if j < σ.length then some none else none
  | [], h => by simp at h
  | v :: vs, h => by
    rw [wipe, List.getElem?_set]
    by_cases e : v = j
    · subst e; rw [if_pos rfl, wipe_length]
    · rw [if_neg e]
      exact wipe_in (vs := vs) ((List.mem_cons.mp h).resolve_left fun z => e z.symm)
theorem wipe_ext {σ σ' : L2.St} {vs : List Nat} (l : σ'.length = σ.length) (h : ∀ j, j ∉ vs → σ'[j]? = σ[j]?) : wipe σ' vs = wipe σ vs := List.ext_getElem? fun j => by
  by_cases e : j ∈ vs
  · rw [wipe_in e, wipe_in e, l]
  · rw [wipe_out e, wipe_out e]; exact h j e
theorem wipe_set {σ : L2.St} {i : Nat} {x : Option V} {vs : List Nat} (h : i ∈ vs) : wipe (σ.set i x) vs = wipe σ vs := wipe_ext (by simp) fun j e => List.getElem?_set_ne (show i ≠ j from fun z => e (z ▸ h))
theorem wipe_wipe {σ : L2.St} {vs : List Nat} : wipe (wipe σ vs) vs = wipe σ vs := wipe_ext (wipe_length σ vs) fun j e => wipe_out e
theorem TrS.clear {K : Fg} {φ : List Addr} {H : L2.Hp} {ρ : Y.Env} {σ : L2.St} (r : TrS K φ H ρ σ) (i : Nat) : TrS K φ H (ρ.set i none) (σ.set i none) := by
  refine ⟨by simp [r.len], fun j d hj => ?_⟩
  by_cases q : i = j
  · subst q
    rw [List.getElem?_set] at hj
    simp at hj
  · rw [List.getElem?_set_ne q] at hj ⊢
    exact r.at_ j d hj
theorem TrS.forget {K : Fg} {φ : List Addr} {H : L2.Hp} {ρ : Y.Env} {σ : L2.St} (r : TrS K φ H ρ σ) : ∀ vs : List Nat, TrS K φ H (Y.forget ρ vs) (wipe σ vs)
  | [] => r
  | v :: vs => (r.forget vs).clear v
section
variable (X : Cx)
def RG (t : T) : TG := fun v σ H Q => ∃ φ ρ h d ρ', RH X.K (nm X) φ h H ∧ TrS X.K φ H ρ σ ∧ Tr X.K φ H d v ∧ bindT t d ρ h = some ρ' ∧ ∀ σ', TrS X.K φ H ρ' σ' → σ'.length = σ.length → (∀ vs, (∀ i ∈ t.slots, i ∈ vs) → wipe σ' vs = wipe σ vs) → Q σ' H
def RGs (ts : List T) : TGs := fun vs σ H Q => ∃ φ ρ h ds ρ', RH X.K (nm X) φ h H ∧ TrS X.K φ H ρ σ ∧ TrL X.K φ H ds vs ∧ bindTs ts ds ρ h = some ρ' ∧ ∀ σ', TrS X.K φ H ρ' σ' → σ'.length = σ.length → (∀ vs, (∀ i ∈ T.slotsL ts, i ∈ vs) → wipe σ' vs = wipe σ vs) → Q σ' H
end
section
variable {X : Cx} {pos : Pos}
theorem g_nm {i : Nat} {x : Str} (hN : X.N.Nodup) (hi : X.N[i]? = some x) (hx : Loc X.env.scope x) (hf : X.fn x = true ∨ X.env.scope.names.lookup x = some .local) : PG X (.Name x pos) (RG X (.nm i)) := PG.imp (pg_name hN hi hx hf) fun v σ H Q q => by
  obtain ⟨φ, ρ, h, d, ρ', rh, ts, t, e, q⟩ := q
  rw [bindT] at e
  cases e
  exact q _ (ts.set t i) (by simp) fun vs hv => wipe_set (hv i (by simp [T.slots]))
theorem gs_nil : PGs X [] (RGs X []) := PGs.imp pgs_nil fun v σ H Q q => by
  obtain ⟨φ, ρ, h, d, ρ', rh, ts, t, e, q⟩ := q
  cases d with
  | nil =>
    cases t
    rw [bindTs] at e
    cases e
    exact ⟨rfl, q _ ts rfl fun _ _ => rfl⟩
  | cons _ _ => simp [bindTs] at e
theorem gs_cons {e : Expr} {es : List Expr} {t : T} {ts : List T} (h1 : PG X e (RG X t)) (h2 : PGs X es (RGs X ts)) (hs : (assignEach (e :: es) X.env).map (·.2) = assign e X.env :: (assignEach es X.env).map (·.2)) :
    PGs X (e :: es) (RGs X (t :: ts)) := PGs.imp (pgs_cons h1 h2 hs) fun v σ H Q q => by
  obtain ⟨φ, ρ, h, ds, ρ', rh, trs, tl, e, q⟩ := q
  cases ds with
  | nil => simp [bindTs] at e
  | cons d ds =>
    cases tl with
    | cons tr tl =>
      rw [bindTs] at e
      split at e
      · rename_i ρ1 e1
        exact ⟨_, _, rfl, φ, ρ, h, d, ρ1, rh, trs, tr, e1, fun σ1 trs1 l1 w1 => ⟨φ, ρ1, h, ds, ρ', rh, trs1, tl, e, fun σ2 trs2 l2 w2 => q σ2 trs2 (l2.trans l1) fun vs hv => (w2 vs fun i hi => hv i (by rw [T.slotsL]; exact List.mem_append_right _ hi)).trans (w1 vs fun i hi => hv i (by rw [T.slotsL]; exact List.mem_append_left _ hi))⟩⟩
      · cases e
theorem g_tp {es : List Expr} {k : Nat} {ts : List T} (hc : X.calm = true) (h : PGs X es (RGs X ts)) (hn : (assignEach es X.env).length = ts.length) (hst : (assignEach es X.env).findIdx? (·.1) = none) :
    PG X (.Tuple es k pos) (RG X (.tp ts)) := PG.imp (PG.or (pg_tup hc h hn hst) (pg_unl hc h hn hst)) fun v σ H Q q => by
  obtain ⟨φ, ρ, h, d, ρ', rh, trs, t, e, q⟩ := q
  have len : ∀ {ts : List T} {ds : List D} {ρ ρ' : Y.Env}, bindTs ts ds ρ h = some ρ' → ds.length = ts.length := by
    intro ts
    induction ts with
    | nil => intro ds ρ ρ' e; cases ds with
      | nil => rfl
      | cons _ _ => simp [bindTs] at e
    | cons t ts ih =>
      intro ds ρ ρ' e
      cases ds with
      | nil => simp [bindTs] at e
      | cons d ds =>
        rw [bindTs] at e
        split at e
        · rw [List.length_cons, List.length_cons, ih e]
        · cases e
  rw [bindT] at e
  split at e
  · rename_i ds ei
    cases d with
    | tup ds' =>
      cases ei
      obtain ⟨a, xs, rfl, sq, tl⟩ := t.of_tup
      exact .inl ⟨a, xs, rfl, sq, by rw [← tl.length]; exact len e, φ, ρ, h, _, ρ', rh, trs, tl, e, q⟩
    | ref n =>
      simp only [items?] at ei
      split at ei
      · rename_i as e1
        cases ei
        obtain ⟨a, rfl, _, oa⟩ := t.obj rh e1
        obtain ⟨xs, ha, tl⟩ := oa.lst_of
        exact .inr ⟨a, xs, rfl, .of ha, by rw [← tl.length]; exact len e, φ, ρ, h, _, ρ', rh, trs, tl, e, q⟩
      · rename_i as e1
        cases ei
        obtain ⟨a, rfl, _, oa⟩ := t.obj rh e1
        obtain ⟨ob, xs, ha, tl⟩ := oa.ro_of
        exact .inr ⟨a, xs, rfl, .inl (.inr ⟨_, ha⟩), by rw [← tl.length]; exact len e, φ, ρ, h, _, ρ', rh, trs, tl, e, q⟩
      · cases ei
    | _ => cases ei
  · cases e
end

/-! ### what is walked -/
structure Wk (K : Fg) (mg : Nm) (φ0 : List Addr) (H0 : L2.Hp) (s : Src) (J : It) : Prop where
  lk : s.lk = none
  goes : ∀ i φ h H, i < s.ds.length → Bh K mg φ0 H0 h φ H → okG s.g h = true → J.go i H
  stops : ∀ φ h H, Bh K mg φ0 H0 h φ H → okG s.g h = true → J.stop s.ds.length H
  yields : ∀ i φ h H x H', i < s.ds.length → Bh K mg φ0 H0 h φ H → okG s.g h = true → J.yld i H x H' → ∃ d, s.ds[i]? = some d ∧ Bh K mg φ H h φ H' ∧ Tr K φ H' d x
abbrev MI := Y.Env → Y.Hp → Res Src
def PostI (K : Fg) (mg : Nm) (φ : List Addr) (H : L2.Hp) (r : Res Src) (W : Value → Option Addr → L2.Hp → Prop) (R : It → L2.Hp → Prop) : Prop :=
  match r with
  | .ok s h' => ∀ φ' H' J, Bh K mg φ H h' φ' H' → Wk K mg φ' H' s J → R J H'
  | .exc c fs h' => ∀ φ' H' cls dx, Bh K mg φ H h' φ' H' → ER K mg φ' H' c fs cls dx → W cls dx H'
  | .bad => False
def RI (X : Cx) (W : WX) (m : MI) : TI := fun σ H R => ∃ φ ρ h, RH X.K (nm X) φ h H ∧ TrS X.K φ H ρ σ ∧ PostI X.K (nm X) φ H (m ρ h) (fun c d H' => W c d σ H') R
section
variable {K : Fg} {mg : Nm} {φ0 : List Addr} {H0 : L2.Hp}
theorem okG_one {m : Nat} {o : Ob} {h : Y.Hp} (e : okG [(m, o)] h = true) : h[m]? = some o := by simpa [okG] using e
theorem wk_tup {a : Addr} {xs : List V} {ds : List D} (s : SqT K H0 a xs) (t : TrL K φ0 H0 ds xs) : Wk K mg φ0 H0 ⟨ds, [], none⟩ (Itt K a) where
  lk := rfl
  goes := fun i φ h H hi b _ => ⟨xs, xs[i]'(by rw [← t.length]; exact hi), b.keep.sqT s, List.getElem?_eq_getElem _⟩
  stops := fun φ h H b _ => ⟨xs, b.keep.sqT s, by rw [← t.length]; exact Nat.le_refl _⟩
  yields := fun i φ h H x H' hi b _ y => by
    obtain ⟨rfl, y⟩ := y
    have e := y xs (b.keep.sqT s)
    obtain ⟨d, e1, e2⟩ := (b.trL t).get' e
    exact ⟨d, e1, Bh.refl b.rh, e2⟩
theorem wk_lst {a : Addr} {m : Nat} {ds : List D} (hp : φ0[m]? = some a) : Wk K mg φ0 H0 ⟨ds, [(m, .lst ds)], none⟩ (Itl K a) where
  lk := rfl
  goes := fun i φ h H hi b g => by
    obtain ⟨xs, ha, t⟩ := (b.rh.ob m _ a (okG_one g) (pre_get b.pre hp)).lst_of
    exact ⟨xs, xs[i]'(by rw [← t.length]; exact hi), .of ha, List.getElem?_eq_getElem _⟩
  stops := fun φ h H b g => by
    obtain ⟨xs, ha, t⟩ := (b.rh.ob m _ a (okG_one g) (pre_get b.pre hp)).lst_of
    exact ⟨xs, .of ha, by rw [← t.length]; exact Nat.le_refl _⟩
  yields := fun i φ h H x H' hi b g y => by
    obtain ⟨xs, ha, t⟩ := (b.rh.ob m _ a (okG_one g) (pre_get b.pre hp)).lst_of
    obtain ⟨rfl, y⟩ := y
    obtain ⟨d, e1, e2⟩ := t.get' (y xs (.of ha))
    exact ⟨d, e1, Bh.refl b.rh, e2⟩
theorem wk_ro {a : Addr} {m : Nat} {ds : List D} (hp : φ0[m]? = some a) : Wk K mg φ0 H0 ⟨ds, [(m, .ro ds)], none⟩ (Itl K a) where
  lk := rfl
  goes := fun i φ h H hi b g => by
    obtain ⟨ob, xs, ha, t⟩ := (b.rh.ob m _ a (okG_one g) (pre_get b.pre hp)).ro_of
    exact ⟨xs, xs[i]'(by rw [← t.length]; exact hi), .inl (.inr ⟨_, ha⟩), List.getElem?_eq_getElem _⟩
  stops := fun φ h H b g => by
    obtain ⟨ob, xs, ha, t⟩ := (b.rh.ob m _ a (okG_one g) (pre_get b.pre hp)).ro_of
    exact ⟨xs, .inl (.inr ⟨_, ha⟩), by rw [← t.length]; exact Nat.le_refl _⟩
  yields := fun i φ h H x H' hi b g y => by
    obtain ⟨ob, xs, ha, t⟩ := (b.rh.ob m _ a (okG_one g) (pre_get b.pre hp)).ro_of
    obtain ⟨rfl, y⟩ := y
    obtain ⟨d, e1, e2⟩ := t.get' (y xs (.inl (.inr ⟨_, ha⟩)))
    exact ⟨d, e1, Bh.refl b.rh, e2⟩
theorem ints_get : ∀ (n : Nat) (lo : Int) (i : Nat), i < n → (irange lo n)[i]? = some (.int (lo + i))
  | 0, _, _, h => absurd h (Nat.not_lt_zero _)
  | n + 1, lo, 0, _ => by simp [irange]
  | n + 1, lo, i + 1, h => by
    rw [irange, List.getElem?_cons_succ, ints_get n (lo + 1) i (by omega)]
    congr 2
    omega
theorem ints_len : ∀ (n : Nat) (lo : Int), (irange lo n).length = n
  | 0, _ => rfl
  | n + 1, lo => by rw [irange, List.length_cons, ints_len n]
theorem wk_rng {lo : Int} {n : Nat} : Wk K mg φ0 H0 ⟨irange lo n, [], none⟩ (Itr lo n) where
  lk := rfl
  goes := fun i φ h H hi b g => by rw [ints_len] at hi; exact hi
  stops := fun φ h H b g => by rw [ints_len]; exact Nat.le_refl n
  yields := fun i φ h H x H' hi b g y => by
    rw [ints_len] at hi
    obtain ⟨rfl, rfl⟩ := y
    exact ⟨_, ints_get n lo i hi, Bh.refl b.rh, .int _⟩
theorem wk_str {z : Str} : Wk K mg φ0 H0 ⟨z.cps.toList.map fun c => .str ⟨#[c]⟩, [], none⟩ (Its z) where
  lk := rfl
  goes := fun i φ h H hi b g => by
    rw [List.length_map, Array.length_toList] at hi
    exact hi
  stops := fun φ h H b g => by simp [Its]
  yields := fun i φ h H x H' hi b g y => by
    obtain ⟨rfl, c, hc, rfl⟩ := y
    refine ⟨.str ⟨#[c]⟩, ?_, Bh.refl b.rh, .str _⟩
    rw [List.getElem?_map, Array.getElem?_toList, hc]
    rfl
theorem rev_get {α : Type} {l : List α} {i : Nat} (hi : i < l.length) : l.reverse[i]? = l[l.length - 1 - i]? := List.getElem?_reverse hi
theorem wk_rev {a : Addr} {m : Nat} {ds : List D} (hp : φ0[m]? = some a) (n : Nat) (hn : n = ds.length) : Wk K mg φ0 H0 ⟨ds.reverse, [(m, .lst ds)], none⟩ (Itv K a n) where
  lk := rfl
  goes := fun i φ h H hi b g => by
    obtain ⟨xs, ha, t⟩ := (b.rh.ob m _ a (okG_one g) (pre_get b.pre hp)).lst_of
    rw [List.length_reverse] at hi
    refine ⟨by omega, xs, xs[n - 1 - i]'(by rw [← t.length]; omega), .of ha, List.getElem?_eq_getElem _⟩
  stops := fun φ h H b g => by rw [List.length_reverse, ← hn]; exact Nat.le_refl n
  yields := fun i φ h H x H' hi b g y => by
    obtain ⟨xs, ha, t⟩ := (b.rh.ob m _ a (okG_one g) (pre_get b.pre hp)).lst_of
    rw [List.length_reverse] at hi
    obtain ⟨rfl, y⟩ := y
    obtain ⟨d, e1, e2⟩ := t.get' (y xs (.of ha))
    exact ⟨d, by rw [rev_get hi, ← hn]; exact e1, Bh.refl b.rh, e2⟩
theorem wk_revT {a : Addr} {xs : List V} {ds : List D} (s : SqT K H0 a xs) (t : TrL K φ0 H0 ds xs) (n : Nat) (hn : n = ds.length) : Wk K mg φ0 H0 ⟨ds.reverse, [], none⟩ (ItvT K a n) where
  lk := rfl
  goes := fun i φ h H hi b g => by
    rw [List.length_reverse] at hi
    refine ⟨by omega, xs, xs[n - 1 - i]'(by rw [← t.length]; omega), b.keep.sqT s, List.getElem?_eq_getElem _⟩
  stops := fun φ h H b g => by rw [List.length_reverse, ← hn]; exact Nat.le_refl n
  yields := fun i φ h H x H' hi b g y => by
    rw [List.length_reverse] at hi
    obtain ⟨rfl, y⟩ := y
    obtain ⟨d, e1, e2⟩ := (b.trL t).get' (y xs (b.keep.sqT s))
    exact ⟨d, by rw [rev_get hi, ← hn]; exact e1, Bh.refl b.rh, e2⟩
/-- a new pair beside -/
theorem pair_new {φ : List Addr} {h : Y.Hp} {H : L2.Hp} {T : Addr} {d e : D} {x y : V} (r : RH K mg φ h H) (n : H T = none) (tx : Tr K φ H d x) (ty : Tr K φ H e y) :
    Bh K mg φ H h φ (upd H T (.tup [x, y])) ∧ Tr K φ (upd H T (.tup [x, y])) (.tup [d, e]) (.ref T) :=
  ⟨.side n (r.beside n), .tup (.of upd_same) (.cons (tx.up (List.prefix_refl φ) (.new n)) (.cons (ty.up (List.prefix_refl φ) (.new n)) .nil))⟩
theorem pairs_get : ∀ (ds : List D) (n i : Nat) (d : D), ds[i]? = some d → (pairs n ds)[i]? = some (.tup [.int ((n + i : Nat) : Int), d])
  | [], _, _, _, e => by simp at e
  | x :: r, n, 0, d, e => by simp at e; subst e; simp [pairs]
  | x :: r, n, i + 1, d, e => by
    rw [pairs, List.getElem?_cons_succ, pairs_get r (n + 1) i d (by simpa using e)]
    congr 4
    omega
theorem pairs_len : ∀ (ds : List D) (n : Nat), (pairs n ds).length = ds.length
  | [], _ => rfl
  | x :: r, n => by rw [pairs, List.length_cons, List.length_cons, pairs_len r]
theorem zip2_get : ∀ (as bs : List D) (i : Nat) (d e : D), as[i]? = some d → bs[i]? = some e → (zip2 as bs)[i]? = some (.tup [d, e])
  | [], _, _, _, _, e, _ => by simp at e
  | _ :: _, [], _, _, _, _, e => by simp at e
  | x :: r, y :: s, 0, d, e, h1, h2 => by simp at h1 h2; subst h1 h2; simp [zip2]
  | x :: r, y :: s, i + 1, d, e, h1, h2 => by rw [zip2, List.getElem?_cons_succ]; exact zip2_get r s i d e (by simpa using h1) (by simpa using h2)
theorem zip2_len : ∀ (as bs : List D), (zip2 as bs).length = min as.length bs.length
  | [], _ => by simp [zip2]
  | _ :: _, [] => by simp [zip2]
  | x :: r, y :: s => by rw [zip2, List.length_cons, zip2_len r s, List.length_cons, List.length_cons]; omega
theorem wk_enum {a : Addr} {m : Nat} {ds : List D} (hp : φ0[m]? = some a) : Wk K mg φ0 H0 ⟨pairs 0 ds, [(m, .lst ds)], none⟩ (Ite K a) where
  lk := rfl
  goes := fun i φ h H hi b g => by
    obtain ⟨xs, ha, t⟩ := (b.rh.ob m _ a (okG_one g) (pre_get b.pre hp)).lst_of
    rw [pairs_len] at hi
    exact ⟨xs, xs[i]'(by rw [← t.length]; exact hi), .of ha, List.getElem?_eq_getElem _⟩
  stops := fun φ h H b g => by
    obtain ⟨xs, ha, t⟩ := (b.rh.ob m _ a (okG_one g) (pre_get b.pre hp)).lst_of
    exact ⟨xs, .of ha, by rw [pairs_len, ← t.length]; exact Nat.le_refl _⟩
  yields := fun i φ h H x H' hi b g y => by
    obtain ⟨xs, ha, t⟩ := (b.rh.ob m _ a (okG_one g) (pre_get b.pre hp)).lst_of
    obtain ⟨T, w, rfl, nT, rfl, y⟩ := y
    obtain ⟨d, e1, e2⟩ := t.get' (y xs (.of ha))
    obtain ⟨p1, p2⟩ := pair_new b.rh nT (.int (i : Nat)) e2
    exact ⟨_, by rw [pairs_get ds 0 i d e1, Nat.zero_add], p1, p2⟩
theorem okG_two {m n : Nat} {o u : Ob} {h : Y.Hp} (e : okG ([(m, o)] ++ [(n, u)]) h = true) : h[m]? = some o ∧ h[n]? = some u := by simpa [okG] using e
theorem wk_zip {a c : Addr} {m n : Nat} {ds es : List D} (hp : φ0[m]? = some a) (hq : φ0[n]? = some c) : Wk K mg φ0 H0 ⟨zip2 ds es, [(m, .lst ds)] ++ [(n, .lst es)], none⟩ (Itz K a c) where
  lk := rfl
  goes := fun i φ h H hi b g => by
    obtain ⟨xs, ha, t⟩ := (b.rh.ob m _ a (okG_two g).1 (pre_get b.pre hp)).lst_of
    obtain ⟨ys, hb, u⟩ := (b.rh.ob n _ c (okG_two g).2 (pre_get b.pre hq)).lst_of
    rw [zip2_len] at hi
    exact ⟨xs, ys, xs[i]'(by rw [← t.length]; omega), ys[i]'(by rw [← u.length]; omega), .of ha, .of hb, List.getElem?_eq_getElem _, List.getElem?_eq_getElem _⟩
  stops := fun φ h H b g => by
    obtain ⟨xs, ha, t⟩ := (b.rh.ob m _ a (okG_two g).1 (pre_get b.pre hp)).lst_of
    obtain ⟨ys, hb, u⟩ := (b.rh.ob n _ c (okG_two g).2 (pre_get b.pre hq)).lst_of
    refine ⟨xs, ys, .of ha, .of hb, ?_⟩
    show xs.length ≤ (zip2 ds es).length ∨ ys.length ≤ (zip2 ds es).length
    rw [zip2_len, ← t.length, ← u.length]
    omega
  yields := fun i φ h H x H' hi b g y => by
    obtain ⟨xs, ha, t⟩ := (b.rh.ob m _ a (okG_two g).1 (pre_get b.pre hp)).lst_of
    obtain ⟨ys, hb, u⟩ := (b.rh.ob n _ c (okG_two g).2 (pre_get b.pre hq)).lst_of
    obtain ⟨T, w, z, rfl, nT, rfl, y1, y2⟩ := y
    obtain ⟨d, e1, e2⟩ := t.get' (y1 xs (.of ha))
    obtain ⟨d', e1', e2'⟩ := u.get' (y2 ys (.of hb))
    obtain ⟨p1, p2⟩ := pair_new b.rh nT e2 e2'
    exact ⟨_, zip2_get ds es i d d' e1 e1', p1, p2⟩
theorem wk_zipT {a c : Addr} {xs ys : List V} {ds es : List D} (s : SqT K H0 a xs) (t : TrL K φ0 H0 ds xs) (s' : SqT K H0 c ys) (t' : TrL K φ0 H0 es ys) : Wk K mg φ0 H0 ⟨zip2 ds es, [], none⟩ (ItzT K a c) where
  lk := rfl
  goes := fun i φ h H hi b g => by
    rw [zip2_len] at hi
    exact ⟨xs, ys, xs[i]'(by rw [← t.length]; omega), ys[i]'(by rw [← t'.length]; omega), b.keep.sqT s, b.keep.sqT s', List.getElem?_eq_getElem _, List.getElem?_eq_getElem _⟩
  stops := fun φ h H b g => by
    refine ⟨xs, ys, b.keep.sqT s, b.keep.sqT s', ?_⟩
    show xs.length ≤ (zip2 ds es).length ∨ ys.length ≤ (zip2 ds es).length
    rw [zip2_len, ← t.length, ← t'.length]
    omega
  yields := fun i φ h H x H' hi b g y => by
    obtain ⟨T, w, z, rfl, nT, rfl, y1, y2⟩ := y
    obtain ⟨d, e1, e2⟩ := (b.trL t).get' (y1 xs (b.keep.sqT s))
    obtain ⟨d', e1', e2'⟩ := (b.trL t').get' (y2 ys (b.keep.sqT s'))
    obtain ⟨p1, p2⟩ := pair_new b.rh nT e2 e2'
    exact ⟨_, zip2_get ds es i d d' e1 e1', p1, p2⟩
end

/-! ### the sources -/
section
variable {X : Cx} {W : WX} {e e2 tg : Expr} {es : List Expr} {me : ME} {m : MA} {pos p : Pos}
/-- a value: a list, a tuple, a text -/
theorem ci_val (he : PE X e (RE X W me)) : PI X tg e (RI X W fun ρ h => (me ρ h).bind fun x h => ofO (seqOf x h) h) := PI.imp (PI.or (pi_list he) (PI.or (pi_tup he) (pi_str he))) fun σ H R q => by
  obtain ⟨φ, ρ, h, rh, ts, p⟩ := q
  dsimp only at p
  cases hm : me ρ h with
  | ok d h' =>
    rw [hm] at p
    simp only [Res.bind_ok] at p
    cases d with
    | tup ds =>
      refine .inr (.inl ⟨φ, ρ, h, rh, ts, ?_⟩)
      rw [hm]
      intro φ' H' v b t
      obtain ⟨a, xs, rfl, sq, tl⟩ := t.of_tup
      exact ⟨a, rfl, ⟨xs, sq⟩, p φ' H' _ b (wk_tup sq tl)⟩
    | str z =>
      refine .inr (.inr ⟨φ, ρ, h, rh, ts, ?_⟩)
      rw [hm]
      intro φ' H' v b t
      obtain rfl := t.of_str
      exact ⟨z, rfl, p φ' H' _ b wk_str⟩
    | ref n =>
      refine .inl ⟨φ, ρ, h, rh, ts, ?_⟩
      rw [hm]
      intro φ' H' v b t
      simp only [seqOf] at p
      split at p
      · rename_i ds e1
        obtain ⟨a, rfl, hp, oa⟩ := t.obj b.rh e1
        obtain ⟨xs, ha, tl⟩ := oa.lst_of
        exact ⟨a, rfl, ⟨xs, .of ha⟩, p φ' H' _ b (wk_lst hp)⟩
      · rename_i ds e1
        obtain ⟨a, rfl, hp, oa⟩ := t.obj b.rh e1
        obtain ⟨ob, xs, ha, tl⟩ := oa.ro_of
        exact ⟨a, rfl, ⟨xs, .inl (.inr ⟨_, ha⟩)⟩, p φ' H' _ b (wk_ro hp)⟩
      · exact (show False from p).elim
    | _ => exact (show False from p).elim
  | exc c fs h' => rw [hm] at p; exact .inl ⟨φ, ρ, h, rh, ts, by rw [hm]; exact p⟩
  | bad => rw [hm] at p; exact (show False from p).elim
theorem PostE.intoI {K : Fg} {mg : Nm} {φ : List Addr} {H : L2.Hp} {W : Value → Option Addr → L2.Hp → Prop} {r : Res D} {f : D → Y.Hp → Option Src} {R : It → L2.Hp → Prop} {Q' : VK}
    (p : PostI K mg φ H (r.bind fun x h => ofO (f x h) h) W R)
    (hq : ∀ d h' φ' H' v s, Bh K mg φ H h' φ' H' → Tr K φ' H' d v → f d h' = some s → (∀ J, Wk K mg φ' H' s J → R J H') → Q' v H') : PostE K mg φ H r W Q' := by
  cases r with
  | ok d h' =>
    intro φ' H' v b t
    simp only [Res.bind_ok] at p
    cases e : f d h' with
    | none => rw [e] at p; exact (show False from p).elim
    | some s =>
      rw [e] at p
      exact hq d h' φ' H' v s b t e fun J w => p φ' H' J b w
  | exc c fs h' => exact p
  | bad => exact (show False from p).elim
theorem PostI.on {K : Fg} {mg : Nm} {φ φ' : List Addr} {H H' : L2.Hp} {h : Y.Hp} {W : Value → Option Addr → L2.Hp → Prop} {r : Res Src} {R : It → L2.Hp → Prop} (b : Bh K mg φ H h φ' H') (p : PostI K mg φ H r W R) : PostI K mg φ' H' r W R := by
  cases r with
  | ok d h' => exact fun φ2 H2 J b2 t => p φ2 H2 J (b.trans b2) t
  | exc c fs h' => exact fun φ2 H2 c' d b2 t => p φ2 H2 c' d (b.trans b2) t
  | bad => exact p
theorem PostE.thenI {K : Fg} {mg : Nm} {φ : List Addr} {H : L2.Hp} {W : Value → Option Addr → L2.Hp → Prop} {r : Res D} {f : D → Y.Hp → Res Src} {R : It → L2.Hp → Prop} {Q' : VK} (p : PostI K mg φ H (r.bind f) W R)
    (hq : ∀ d h' φ' H' v, Bh K mg φ H h' φ' H' → Tr K φ' H' d v → PostI K mg φ' H' (f d h') W R → Q' v H') : PostE K mg φ H r W Q' := by
  cases r with
  | ok d h' => exact fun φ' H' v b t => hq d h' φ' H' v b t (p.on b)
  | exc c fs h' => exact p
  | bad => exact (show False from p).elim
theorem line61 : line < 2 ^ 61 := by unfold line; decide
variable {m2 : ME}
theorem ci_rng1 {a : Expr} (hg : Gl X "range") (hm : X.mg "range" = none) (ha : PE X a (RE X W me)) (hs : starEach [a] X.env = (false, eval a X.env) :: starEach [] X.env) :
    PI X tg (.Call (.Name "range" p) [a] [] pos) (RI X W fun ρ h => (me ρ h).bind fun x h => ofO (range1 x) h) := PI.imp (pi_range1 hg hm (pa_cons ha pa_nil hs) hs) fun σ H R q => by
  obtain ⟨φ, ρ, h, rh, ts, p⟩ := q
  dsimp only at p
  refine ⟨φ, ρ, h, rh, ts, PostE.intoI (f := fun d _ => range1 d) p fun d h' φ' H' v s b t e k => ?_⟩
  have hz := line61
  cases d with
  | int n =>
    obtain rfl := t.of_int
    simp only [range1] at e
    split at e
    · rename_i hc
      simp only [Bool.and_eq_true, decide_eq_true_eq] at hc
      cases e
      exact ⟨n, rfl, by omega, by omega, k _ wk_rng⟩
    · cases e
  | _ => cases e
theorem ci_rng2 {a c : Expr} (hg : Gl X "range") (hm : X.mg "range" = none) (ha : PE X a (RE X W me)) (hb : PE X c (RE X W m2)) (hs : starEach [a, c] X.env = (false, eval a X.env) :: starEach [c] X.env) (hs2 : starEach [c] X.env = (false, eval c X.env) :: starEach [] X.env) :
    PI X tg (.Call (.Name "range" p) [a, c] [] pos) (RI X W fun ρ h => (me ρ h).bind fun x h => (m2 ρ h).bind fun y h => ofO (range2 x y) h) :=
  PI.imp (pi_range2 hg hm (pa_cons ha (pa_cons hb pa_nil hs2) hs) (by rw [hs, hs2]; rfl) hs2) fun σ H R q => by
  obtain ⟨φ, ρ, h, rh, ts, p⟩ := q
  dsimp only at p
  refine ⟨φ, ρ, h, rh, ts, PostE.thenI p fun d h' φ' H' v b t p' => ⟨φ', ρ, h', b.rh, b.trS ts, PostE.intoI (f := fun y _ => range2 d y) p' fun d2 h2 φ2 H2 v2 s b2 t2 e k => ?_⟩⟩
  have hz := line61
  unfold range2 at e
  split at e
  · obtain rfl := t.of_int
    obtain rfl := t2.of_int
    split at e
    · rename_i hc
      simp only [Bool.and_eq_true, decide_eq_true_eq] at hc
      cases e
      exact ⟨_, _, rfl, ⟨by omega, by omega, by omega, by omega⟩, k _ wk_rng⟩
    · cases e
  · cases e
theorem ci_enum {a : Expr} {elts : List Expr} {kk : Nat} {tpos : Pos} (hg : Gl X "enumerate") (hm : X.mg "enumerate" = none) (ha : PE X a (RE X W me)) (hs : starEach [a] X.env = (false, eval a X.env) :: starEach [] X.env) :
    PI X (.Tuple elts kk tpos) (.Call (.Name "enumerate" p) [a] [] pos) (RI X W fun ρ h => (me ρ h).bind fun d h => ofO (enumOf d h) h) := PI.imp (pi_enum hg hm (pa_cons ha pa_nil hs) hs) fun σ H R q => by
  obtain ⟨φ, ρ, h, rh, ts, p⟩ := q
  dsimp only at p
  refine ⟨φ, ρ, h, rh, ts, PostE.intoI p fun d h' φ' H' v s b t e k => ?_⟩
  unfold enumOf at e
  split at e
  · split at e
    · rename_i ds e1
      cases e
      obtain ⟨a, rfl, hp, oa⟩ := t.obj b.rh e1
      obtain ⟨xs, ha, tl⟩ := oa.lst_of
      exact ⟨a, xs, rfl, .of ha, k _ (wk_enum hp)⟩
    · cases e
  · cases e
theorem ci_zip {a c : Expr} {elts : List Expr} {kk : Nat} {tpos : Pos} (hg : Gl X "zip") (hm : X.mg "zip" = none) (ha : PE X a (RE X W me)) (hb : PE X c (RE X W m2)) (hs : starEach [a, c] X.env = (false, eval a X.env) :: starEach [c] X.env) (hs2 : starEach [c] X.env = (false, eval c X.env) :: starEach [] X.env)
    (hpl : (backTo pos (starEach [c] X.env)).any (·.1) = false) :
    PI X (.Tuple elts kk tpos) (.Call (.Name "zip" p) [a, c] [] pos) (RI X W fun ρ h => (me ρ h).bind fun x h => (m2 ρ h).bind fun y h => ofO (zipOf x y h) h) := PI.imp (pi_zipA hg hm (pa_cons ha (pa_cons hb pa_nil hs2) hs) hs hpl) fun σ H R q => by
  obtain ⟨φ, ρ, h, rh, ts, p⟩ := q
  dsimp only at p
  refine ⟨φ, ρ, h, rh, ts, PostE.thenI p fun d h' φ' H' v b t p' => ⟨φ', ρ, h', b.rh, b.trS ts, PostE.intoI (f := fun y h => zipOf d y h) p' fun d2 h2 φ2 H2 v2 s b2 t2' e k => ?_⟩⟩
  have t1 := b2.tr t
  unfold zipOf at e
  split at e
  · cases e
    obtain ⟨a, xs, rfl, sa, ta⟩ := t1.of_tup
    obtain ⟨c, ys, rfl, sc, tc⟩ := t2'.of_tup
    exact ⟨a, c, xs, ys, rfl, .inr ⟨sa, sc, k _ (wk_zipT sa ta sc tc)⟩⟩
  · split at e
    · rename_i e1 e2
      cases e
      obtain ⟨a, rfl, hp, oa⟩ := t1.obj b2.rh e1
      obtain ⟨c, rfl, hq, oc⟩ := t2'.obj b2.rh e2
      obtain ⟨xs, ha, ta⟩ := oa.lst_of
      obtain ⟨ys, hc, tc⟩ := oc.lst_of
      exact ⟨a, c, xs, ys, rfl, .inl ⟨.of ha, .of hc, k _ (wk_zip hp hq)⟩⟩
    · cases e
  · cases e
theorem ci_rev {a : Expr} (hg : Gl X "reversed") (hm : X.mg "reversed" = none) (ha : PE X a (RE X W me)) (hs : starEach [a] X.env = (false, eval a X.env) :: starEach [] X.env) :
    PI X tg (.Call (.Name "reversed" p) [a] [] pos) (RI X W fun ρ h => (me ρ h).bind fun d h => ofO (revdOf d h) h) := PI.imp (pi_revA hg hm ha hs) fun σ H R q => by
  obtain ⟨φ, ρ, h, rh, ts, p⟩ := q
  dsimp only at p
  refine ⟨φ, ρ, h, rh, ts, ?_⟩
  cases hm : me ρ h with
  | ok d h' =>
    rw [hm] at p
    simp only [Res.bind_ok] at p
    intro φ' H' v b t
    unfold revdOf at p
    split at p
    · obtain ⟨a, xs, rfl, sq, tl⟩ := t.of_tup
      exact ⟨a, xs, rfl, .inr ⟨sq, p φ' H' _ b (wk_revT sq tl _ tl.length.symm)⟩⟩
    · split at p
      · rename_i ds e1
        obtain ⟨a, rfl, hp, oa⟩ := t.obj b.rh e1
        obtain ⟨xs, ha, tl⟩ := oa.lst_of
        exact ⟨a, xs, rfl, .inl ⟨.of ha, p φ' H' _ b (wk_rev hp _ tl.length.symm)⟩⟩
      · exact (show False from p).elim
    · exact (show False from p).elim
  | exc c fs h' => rw [hm] at p; exact p
  | bad => rw [hm] at p; exact (show False from p).elim
end
end Y

set_option Elab.async false
set_option linter.all false
set_option maxRecDepth 100000
set_option maxHeartbeats 1000000
/-! for, while, comprehensions. -/
namespace Y
open PySem PySem.Spec PyProof.Rows L2 RT RZ

abbrev MS := Y.Env → Y.Hp → RS
abbrev RSt (X : Cx) (W : WX) (m : MS) : TS := RdS X.K (nm X) W m
/-- what a source's end is to a statement -/
def Res.intoS (r : Res Src) (ρ : Y.Env) (f : Src → Y.Hp → RS) : RS := r.into ρ f
section
variable {K : Fg} {mg : Nm} {φ φ0 : List Addr} {H H0 : L2.Hp} {h : Y.Hp}
/-- the turns of a for -/
theorem for_turns {X : Cx} {W : WX} {t : T} {s : Src} {mb : MS} {D : Ends} {J : It} {ρ : Y.Env} {σ : L2.St} (rh : RH X.K (nm X) φ h H) (ts : TrS X.K φ H ρ σ) (wk : Wk X.K (nm X) φ H s J) (p : PostS X.K (nm X) φ H (forL t s.g mb s.ds ρ h) W D) :
    ∃ V : Nat → Nat → L2.St → L2.Hp → Prop, (∃ m, V 0 m σ H) ∧ ∀ i m σ H, V i m σ H → (J.stop i H ∧ D.nx σ H) ∨ (J.go i H ∧ ∃ N : L2.St → L2.Hp → Prop, (∀ σ' H', N σ' H' → ∃ m', m' < m ∧ V (i + 1) m' σ' H') ∧
      ∀ x H', J.yld i H x H' → RG X t x σ H' fun σ2 H2 => RSt X W mb { D with nx := N, ct := N, bk := D.nx } σ2 H2) := by
  refine ⟨fun i m σ1 H1 => ∃ φ1 ρ1 h1, m = s.ds.length - i ∧ i ≤ s.ds.length ∧ Bh X.K (nm X) φ H h1 φ1 H1 ∧ TrS X.K φ1 H1 ρ1 σ1 ∧ PostS X.K (nm X) φ1 H1 (forL t s.g mb (s.ds.drop i) ρ1 h1) W D,
    ⟨s.ds.length, φ, ρ, h, by omega, Nat.zero_le _, Bh.refl rh, ts, by rw [List.drop_zero]; exact p⟩, ?_⟩
  rintro i m σ1 H1 ⟨φ1, ρ1, h1, rfl, hi, b1, ts1, p1⟩
  by_cases hlt : i < s.ds.length
  · rw [List.drop_eq_getElem_cons hlt, forL] at p1
    by_cases hg : okG s.g h1 = true
    · rw [if_pos hg] at p1
      refine .inr ⟨wk.goes i φ1 h1 H1 hlt b1 hg, fun σ' H' => ∃ φ2 ρ2 h2, Bh X.K (nm X) φ H h2 φ2 H' ∧ TrS X.K φ2 H' ρ2 σ' ∧ PostS X.K (nm X) φ2 H' (forL t s.g mb (s.ds.drop (i + 1)) ρ2 h2) W D, ?_, ?_⟩
      · rintro σ' H' ⟨φ2, ρ2, h2, b2, ts2, p2⟩
        exact ⟨s.ds.length - (i + 1), by omega, φ2, ρ2, h2, rfl, hlt, b2, ts2, p2⟩
      · intro x H' y
        obtain ⟨d, e1, b2, td⟩ := wk.yields i φ1 h1 H1 x H' hlt b1 hg y
        rw [List.getElem?_eq_getElem hlt] at e1
        have e1' : s.ds[i] = d := Option.some.inj e1
        rw [e1'] at p1
        cases hb : bindT t d ρ1 h1 with
        | none => rw [hb] at p1; exact (show False from p1).elim
        | some ρ2 =>
          rw [hb] at p1
          simp only at p1
          refine ⟨φ1, ρ1, h1, d, ρ2, b2.rh, b2.trS ts1, td, hb, fun σ2 ts2 _ _ => ⟨φ1, ρ2, h1, b2.rh, ts2, ?_⟩⟩
          have p2 := PostS.on b2 p1
          cases hr : mb ρ2 h1 with
          | nx ρ3 h3 =>
            rw [hr] at p2
            exact fun φ3 H3 σ3 b3 ts3 => ⟨φ3, ρ3, h3, (b1.trans b2).trans b3, ts3, PostS.on b3 p2⟩
          | ct ρ3 h3 =>
            rw [hr] at p2
            exact fun φ3 H3 σ3 b3 ts3 => ⟨φ3, ρ3, h3, (b1.trans b2).trans b3, ts3, PostS.on b3 p2⟩
          | bk ρ3 h3 => rw [hr] at p2; exact p2
          | rt d3 h3 => rw [hr] at p2; exact p2
          | ex c fs ρ3 h3 => rw [hr] at p2; exact p2
          | bad => rw [hr] at p2; exact p2
    · rw [if_neg hg] at p1; exact (show False from p1).elim
  · have e : i = s.ds.length := by omega
    subst e
    rw [List.drop_length, forL] at p1
    by_cases hg : okG s.g h1 = true
    · rw [if_pos hg] at p1
      exact .inl ⟨wk.stops φ1 h1 H1 b1 hg, p1 φ1 H1 σ1 (Bh.refl b1.rh) ts1⟩
    · rw [if_neg hg] at p1; exact (show False from p1).elim
end
section
variable {X : Cx} {W : WX} {tg iter : Expr} {body : List Stmt} {t : T} {mi : MI} {mb : MS} {pos : Pos}
/-- the meaning of a for -/
def mFor (t : T) (mi : MI) (mb : MS) : MS := fun ρ h => (mi ρ h).into ρ fun s h => (forL t s.g mb s.ds ρ (locked s h)).unlock s
theorem c_for (hp : PassesOwn (model X.prog X.w) X.A X.env X.xe) (hc : X.calm = true) (hi : PI X tg iter (RI X W mi)) (hg : PG X tg (RG X t)) (hb : PSs X body (RSt X W mb)) (hs : ∀ x, foldedSetIterable iter X.env x = pure x) :
    PS X (.For tg iter body [] pos) (RSt X W (mFor t mi mb)) := PS.imp (ps_for hp hc hi hg hb hs) fun D σ H q => by
  obtain ⟨φ, ρ, h, rh, ts, p⟩ := q
  unfold mFor at p
  refine ⟨φ, ρ, h, rh, ts, ?_⟩
  cases hm : mi ρ h with
  | ok s h' =>
    rw [hm] at p
    intro φ' H' J b wk
    have e1 : locked s h' = h' := by unfold locked; rw [wk.lk]
    have e2 : ∀ r : RS, r.unlock s = r := fun r => by unfold RS.unlock; rw [wk.lk]
    simp only [Res.into_ok] at p
    rw [e1, e2] at p
    exact for_turns b.rh (b.trS ts) wk (PostS.on b p)
  | exc c fs h' => rw [hm] at p; exact fun φ' H' cls dx b e => p φ' H' σ cls dx b (b.trS ts) e
  | bad => rw [hm] at p; exact (show False from p).elim

/-! ### while -/
variable {c : Expr} {mt : MT}
theorem c_whl (h : ∀ {tc : TT} {tb : TS}, PT X c tc → PSs X body tb → PS X (.While c body [] pos) (tWhile tc tb)) (hc : PT X c (RT X W mt)) (hb : PSs X body (RSt X W mb)) :
    PS X (.While c body [] pos) (RSt X W (whlC mt mb)) := PS.imp (h hc hb) fun D σ H q => by
  obtain ⟨φ, ρ, hh, rh, ts, p⟩ := q
  have nb : whlC mt mb ρ hh ≠ .bad := fun e => by rw [e] at p; exact p
  obtain ⟨n, hn⟩ := whlC_fuel nb
  refine ⟨fun m σ1 H1 => ∃ φ1 ρ1 h1 r, RH X.K (nm X) φ1 h1 H1 ∧ TrS X.K φ1 H1 ρ1 σ1 ∧ whlN mt mb m ρ1 h1 = some r ∧ PostS X.K (nm X) φ1 H1 r W D, ⟨n, φ, ρ, hh, _, rh, ts, hn, p⟩, ?_⟩
  rintro m σ1 H1 ⟨φ1, ρ1, h1, r, rh1, ts1, e1, p1⟩
  cases m with
  | zero => simp [whlN] at e1
  | succ m =>
    rw [whlN] at e1
    refine ⟨φ1, ρ1, h1, rh1, ts1, ?_⟩
    cases ht : mt ρ1 h1 with
    | ok b h2 =>
      rw [ht] at e1
      intro φ2 H2 b2
      cases b with
      | true =>
        simp only at e1
        rw [if_pos rfl]
        refine ⟨fun σ' H' => ∃ φ3 ρ3 h3, RH X.K (nm X) φ3 h3 H' ∧ TrS X.K φ3 H' ρ3 σ' ∧ whlN mt mb m ρ3 h3 = some r ∧ PostS X.K (nm X) φ3 H' r W D, ?_, φ2, ρ1, h2, b2.rh, b2.trS ts1, ?_⟩
        · rintro σ' H' ⟨φ3, ρ3, h3, q1, q2, q3, q4⟩
          exact ⟨m, Nat.lt_succ_self m, φ3, ρ3, h3, r, q1, q2, q3, q4⟩
        · have p2 := PostS.on b2 p1
          cases hr : mb ρ1 h2 with
          | nx ρ3 h3 =>
            rw [hr] at e1
            exact fun φ3 H3 σ3 b3 ts3 => ⟨φ3, ρ3, h3, b3.rh, ts3, e1, PostS.on b3 p2⟩
          | ct ρ3 h3 =>
            rw [hr] at e1
            exact fun φ3 H3 σ3 b3 ts3 => ⟨φ3, ρ3, h3, b3.rh, ts3, e1, PostS.on b3 p2⟩
          | bk ρ3 h3 => rw [hr] at e1; cases e1; exact p2
          | rt d3 h3 => rw [hr] at e1; cases e1; exact p2
          | ex c fs ρ3 h3 => rw [hr] at e1; cases e1; exact p2
          | bad => rw [hr] at e1; cases e1; exact p2
      | false =>
        simp only at e1
        cases e1
        rw [if_neg (by decide)]
        exact p1 φ2 H2 σ1 b2 (b2.trS ts1)
    | exc c fs h2 =>
      rw [ht] at e1
      cases e1
      exact fun φ2 H2 cls dx b2 er => p1 φ2 H2 σ1 cls dx b2 (b2.trS ts1) er
    | bad =>
      rw [ht] at e1
      cases e1
      exact p1
end
end Y

set_option Elab.async false
set_option linter.all false
set_option maxRecDepth 100000
set_option maxHeartbeats 1000000
/-! Comprehensions. -/
namespace Y
open PySem PySem.Spec PyProof.Rows L2 RT RZ

abbrev WF : WX := fun _ _ _ _ => False
theorem lineSize : line = sizeLine := rfl
section
variable {K : Fg} {mg : Nm} {φ φ' : List Addr} {H H' : L2.Hp} {h : Y.Hp}
/-- an object that lay beside joins -/
theorem RH.join (r : RH K mg φ h H) {p : Addr} {o : Ob} (n : p ∉ φ) (new : OR K mg (φ ++ [p]) H o p) : RH K mg (φ ++ [p]) (h ++ [o]) H := by
  refine ⟨by simp [r.len], ?_, fun m u a hn ha => ?_⟩
  · rw [List.nodup_append]
    exact ⟨r.nd, by simp, fun a ha b hb => by simp at hb; subst hb; intro z; exact n (z ▸ ha)⟩
  · by_cases hl : m < h.length
    · rw [List.getElem?_append_left hl] at hn
      rw [List.getElem?_append_left (by rw [r.len]; exact hl)] at ha
      exact (r.ob m u a hn ha).up (List.prefix_append φ [p]) (.refl H) rfl
    · have hn' : m = h.length := by
        have := (List.getElem?_eq_some_iff.mp hn).1
        simp at this
        omega
      subst hn'
      rw [List.getElem?_concat_length] at hn
      rw [← r.len, List.getElem?_concat_length] at ha
      cases hn; cases ha
      exact new
/-- what lies beside is written -/
theorem Bh.aside (b : Bh K mg φ H h φ' H') {p : Addr} {xs ys : List V} (n : H p = none) (m : p ∉ φ') (e : H' p = some (.lst xs)) : Bh K mg φ H h φ' (upd H' p (.lst ys)) := by
  have k : Keep H' (upd H' p (.lst ys)) := .write e (fun _ z => by cases z) (fun _ _ z => by cases z)
  exact ⟨b.pre, b.keep.trans k, fun a zs na ha => ⟨by rw [upd_ne (ne_of_none ha n)]; exact (b.oth a zs na ha).1, (b.oth a zs na ha).2⟩, b.rh.same k fun a ha => upd_ne (show a ≠ p from fun z => m (z ▸ ha))⟩
end
section
variable {X : Cx} {W : WX} {t : T} {mt : MT} {me : ME}
/-- the turns of a comprehension -/
theorem lc_turns {φ : List Addr} {H : L2.Hp} {h : Y.Hp} {s : Src} {J : It} {ρ : Y.Env} {σ : L2.St} {Q : VK} {WW : Value → Option Addr → L2.Hp → Prop} (rh : RH X.K (nm X) φ h H) (ts : TrS X.K φ H ρ σ) (wk : Wk X.K (nm X) φ H s J) (hl : s.ds.length ≤ line)
    (p : PostE X.K (nm X) φ H ((lcL t s.g mt me (forget ρ t.slots) s.ds h).bind fun ds h => new (.lst ds) h) WW Q) (D : Addr) (hD : H D = none) :
    ∃ V : Nat → Nat → L2.Hp → Prop, (∃ m, V 0 m (upd H D (.lst []))) ∧ ∀ i m H, V i m H →
      (J.stop i H ∧ Q (.ref D) H) ∨ (J.go i H ∧ ∃ Nx : L2.Hp → Prop, (∀ H', Nx H' → ∃ m', m' < m ∧ V (i + 1) m' H') ∧ ∀ x H', J.yld i H x H' → RG X t x (wipe σ t.slots) H' fun σ2 H2 => wipe σ2 t.slots = wipe σ t.slots ∧ RT X WF mt σ2 H2 fun b H3 =>
        if b = true then RE X WF me σ2 H3 fun y H4 => ∃ acc, H4 D = some (.lst acc) ∧ acc.length < sizeLine ∧ Nx (upd H4 D (.lst (acc ++ [y]))) else Nx H3) := by
  refine ⟨fun i m H1 => ∃ φ1 h1 accD acc, m = s.ds.length - i ∧ i ≤ s.ds.length ∧ Bh X.K (nm X) φ H h1 φ1 H1 ∧ D ∉ φ1 ∧ H1 D = some (.lst acc) ∧ TrL X.K φ1 H1 accD acc ∧ accD.length ≤ i ∧
      PostE X.K (nm X) φ H ((lcL t s.g mt me (forget ρ t.slots) (s.ds.drop i) h1).bind fun ds h => new (.lst (accD ++ ds)) h) WW Q,
    ⟨s.ds.length, φ, h, [], [], by omega, Nat.zero_le _, .side hD (rh.beside hD), rh.fresh hD, upd_same, .nil, Nat.le_refl _, by rw [List.drop_zero]; exact p⟩, ?_⟩
  rintro i m H1 ⟨φ1, h1, accD, acc, rfl, hi, b1, nD, eD, tA, lA, p1⟩
  by_cases hlt : i < s.ds.length
  · rw [List.drop_eq_getElem_cons hlt, lcL] at p1
    by_cases hg : okG s.g h1 = true
    · rw [if_pos hg] at p1
      refine .inr ⟨wk.goes i φ1 h1 H1 hlt b1 hg, fun H' => ∃ φ1 h1 accD acc, Bh X.K (nm X) φ H h1 φ1 H' ∧ D ∉ φ1 ∧ H' D = some (.lst acc) ∧ TrL X.K φ1 H' accD acc ∧ accD.length ≤ i + 1 ∧
        PostE X.K (nm X) φ H ((lcL t s.g mt me (forget ρ t.slots) (s.ds.drop (i + 1)) h1).bind fun ds h => new (.lst (accD ++ ds)) h) WW Q, ?_, ?_⟩
      · rintro H' ⟨φ2, h2, a2, c2, q1, q2, q3, q4, q5, q6⟩
        exact ⟨s.ds.length - (i + 1), by omega, φ2, h2, a2, c2, rfl, hlt, q1, q2, q3, q4, q5, q6⟩
      · intro x H2 y
        obtain ⟨d, e1, b2, td⟩ := wk.yields i φ1 h1 H1 x H2 hlt b1 hg y
        rw [List.getElem?_eq_getElem hlt] at e1
        have e1' : s.ds[i] = d := Option.some.inj e1
        rw [e1'] at p1
        have ts1 := (b1.trans b2).trS (ts.forget t.slots)
        cases hb : bindT t d (forget ρ t.slots) h1 with
        | none => rw [hb] at p1; exact (show False from p1).elim
        | some ρ2 =>
          rw [hb] at p1
          simp only at p1
          refine ⟨φ1, _, h1, d, ρ2, b2.rh, ts1, td, hb, fun σ2 ts2 l2 w2 => ⟨(w2 t.slots fun _ hi => hi).trans wipe_wipe, φ1, ρ2, h1, b2.rh, ts2, ?_⟩⟩
          have o2 := b2.oth D _ nD eD
          cases hr : mt ρ2 h1 with
          | ok b h3 =>
            rw [hr] at p1
            intro φ3 H3 b3
            have o3 := b3.oth D _ o2.2 o2.1
            cases b with
            | true =>
              simp only at p1
              rw [if_pos rfl]
              refine ⟨φ3, ρ2, h3, b3.rh, b3.trS ts2, ?_⟩
              cases hv : me ρ2 h3 with
              | ok z h4 =>
                rw [hv] at p1
                simp only at p1
                intro φ4 H4 v b4 tv
                have o4 := b4.oth D _ o3.2 o3.1
                have bb := ((b1.trans b2).trans b3).trans b4
                have k4 : Keep H4 (upd H4 D (.lst (acc ++ [v]))) := .write o4.1 (fun _ z => by cases z) (fun _ _ z => by cases z)
                have tl := b4.trL (b3.trL (b2.trL tA))
                refine ⟨acc, o4.1, ?_, φ4, h4, accD ++ [z], acc ++ [v], bb.aside hD o4.2 o4.1, o4.2, upd_same, (tl.snoc tv).up (List.prefix_refl _) k4, by simp; omega, ?_⟩
                · have := tA.length
                  have := lineSize
                  omega
                · cases hz : lcL t s.g mt me (forget ρ t.slots) (List.drop (i + 1) s.ds) h4 with
                  | ok xs h5 =>
                    rw [hz] at p1
                    simp only [Res.bind_ok] at p1 ⊢
                    rw [List.append_assoc]
                    exact p1
                  | exc c fs h5 => rw [hz] at p1; exact (show False from p1).elim
                  | bad => rw [hz] at p1; exact (show False from p1).elim
              | exc c fs h4 => rw [hv] at p1; exact (show False from p1).elim
              | bad => rw [hv] at p1; exact (show False from p1).elim
            | false =>
              simp only at p1
              rw [if_neg (by decide)]
              exact ⟨φ3, h3, accD, acc, (b1.trans b2).trans b3, o3.2, o3.1, b3.trL (b2.trL tA), by omega, p1⟩
          | exc c fs h3 => rw [hr] at p1; exact (show False from p1).elim
          | bad => rw [hr] at p1; exact (show False from p1).elim
    · rw [if_neg hg] at p1; exact (show False from p1).elim
  · have e : i = s.ds.length := by omega
    subst e
    rw [List.drop_length, lcL] at p1
    by_cases hg : okG s.g h1 = true
    · rw [if_pos hg] at p1
      simp only [Res.bind_ok, List.append_nil] at p1
      refine .inl ⟨wk.stops φ1 h1 H1 b1 hg, p1 (φ1 ++ [D]) H1 (.ref D) ⟨b1.pre.trans (List.prefix_append _ _), b1.keep, fun a xs na ha => ⟨(b1.oth a xs na ha).1, fun m => ?_⟩, b1.rh.join nD (.lst eD (tA.up (List.prefix_append _ _) (.refl _)))⟩ (.ref (by rw [← b1.rh.len, List.getElem?_concat_length]))⟩
      rcases List.mem_append.mp m with m | m
      · exact (b1.oth a xs na ha).2 m
      · exact ne_of_none ha hD (List.mem_singleton.mp m)
    · rw [if_neg hg] at p1; exact (show False from p1).elim
/-- the meaning of a comprehension -/
def mLc (t : T) (mi : MI) (mt : MT) (me : ME) : ME := fun ρ h => (mi ρ h).bind fun s h => if line < s.ds.length then .bad else
    ((lcL t s.g mt me (forget ρ t.slots) s.ds (locked s h)).bind fun ds h => new (.lst ds) h).unlock s
theorem lc_reads {mi : MI} {σ : L2.St} {H : L2.Hp} {Q : VK} (q : RE X W (mLc t mi mt me) σ H Q) : tLc (RI X W mi) (RG X t) (RT X WF mt) (RE X WF me) t.slots σ H Q := by
  obtain ⟨φ, ρ, h, rh, ts, p⟩ := q
  unfold mLc at p
  refine ⟨φ, ρ, h, rh, ts, ?_⟩
  cases hm : mi ρ h with
  | ok s h' =>
    rw [hm] at p
    intro φ' H' J b wk D hD
    simp only [Res.bind_ok] at p
    split at p
    · exact (show False from p).elim
    · rename_i hl
      have e1 : locked s h' = h' := by unfold locked; rw [wk.lk]
      have e2 : ∀ r : Res Y.D, r.unlock s = r := fun r => by unfold Res.unlock; rw [wk.lk]
      rw [e1, e2] at p
      exact lc_turns b.rh (b.trS ts) wk (by omega) (PostE.on b p) D hD
  | exc c fs h' => rw [hm] at p; exact p
  | bad => rw [hm] at p; exact (show False from p).elim
variable {elt tg iter : Expr} {ifs : List Expr} {scope : Scope} {own : List (Str × Nat)} {pos spos : Pos} {mi : MI}
theorem c_lc (hc : X.calm = true) (hN : X.N.Nodup) (hi : PI X tg iter (RI X W mi)) (ok : BlkOk X.N X.env.scope scope own) (ho : own.map (·.2) = t.slots)
    (hg : ∀ (s : Shared) (H : L2.Hp) (C : Addr) (cl : List (Str × Addr)) (fp : List Addr), PG (X.blk s H scope (compEnvC scope cl C X.env) fp) tg (RG X t)) (ht : ∀ (s : Shared) (H : L2.Hp) (C : Addr) (cl : List (Str × Addr)) (fp : List Addr), PTs (X.blk s H scope (compEnvC scope cl C X.env) fp) ifs (RT X WF mt))
    (he : ∀ (s : Shared) (H : L2.Hp) (C : Addr) (cl : List (Str × Addr)) (fp : List Addr), PE (X.blk s H scope (compEnvC scope cl C X.env) fp) elt (RE X WF me)) (hs : ∀ x, foldedSetIterable iter X.env x = pure x) :
    PE X (.ListComp elt [⟨tg, iter, ifs, 0⟩] scope pos) (RE X W (mLc t mi mt me)) := PE.imp (pe_lc hc hN hi ok hg ht he hs) fun σ H Q q => by
  rw [ho]; exact lc_reads q
theorem c_setLc {i : Nat} {y : Str} {py : Pos} (hc : X.calm = true) (hN : X.N.Nodup) (hy : X.N[i]? = some y) (hyl : X.env.scope.names.lookup y = some .local)
    (hsw : swapsWith (.ListComp elt [⟨tg, iter, ifs, 0⟩] scope pos) (some (.Name y py)) spos.line X.env = pure true) (hi : PI X tg iter (RI X W mi)) (ok : BlkOk X.N X.env.scope scope own) (ho : own.map (·.2) = t.slots)
    (hg : ∀ (s : Shared) (H : L2.Hp) (C : Addr) (cl : List (Str × Addr)) (fp : List Addr), PG (X.blk s H scope (compEnvC scope cl C X.env) fp) tg (RG X t)) (ht : ∀ (s : Shared) (H : L2.Hp) (C : Addr) (cl : List (Str × Addr)) (fp : List Addr), PTs (X.blk s H scope (compEnvC scope cl C X.env) fp) ifs (RT X WF mt))
    (he : ∀ (s : Shared) (H : L2.Hp) (C : Addr) (cl : List (Str × Addr)) (fp : List Addr), PE (X.blk s H scope (compEnvC scope cl C X.env) fp) elt (RE X WF me)) (hs : ∀ x, foldedSetIterable iter X.env x = pure x) :
    PS X (.Assign [.Name y py] (.ListComp elt [⟨tg, iter, ifs, 0⟩] scope pos) spos) (RSt X W fun ρ h => (mLc t mi mt me ρ h).into ρ fun d h => match bindT (.nm i) d ρ h with
      | some ρ' => .nx ρ' h
      | none => .bad) := PS.imp (ps_setLc hc hN hy hyl hsw hi ok hg ht he hs) fun D σ H q => by
  obtain ⟨φ, ρ, h, rh, ts, p⟩ := q
  rw [ho]
  refine lc_reads (W := W) ⟨φ, ρ, h, rh, ts, PostE.intoS ts p fun d h' φ' H' v b t p' => ?_⟩
  exact p' φ' H' _ (Bh.refl b.rh) ((b.trS ts).set t i)
end
end Y

set_option Elab.async false
set_option linter.all false
set_option maxRecDepth 100000
set_option maxHeartbeats 1000000
/-! Dicts walked. -/
namespace Y
open PySem PySem.Spec PyProof.Rows L2 RT RZ

abbrev XR (K : Fg) (φ : List Addr) (H : L2.Hp) : List (D × D) → List (V × V) → Prop := Paired fun a b => Tr K φ H a.1 b.1 ∧ Tr K φ H a.2 b.2
/-- the entries of the object are xs -/
def RawD (o : Obj) (xs : List (V × V)) : Prop := ∃ es ep, o.ExactDict ∧ o.data = .dict es ep ∧ es.size = xs.length ∧ ∀ i (hi : i < es.size) p, xs[i]? = some p → RelV p.1 es[i].key ∧ RelV p.2 es[i].val
section
variable {X : Cx} {pins : List (Addr × Obj)} {σ : L2.St} {H : L2.Hp} {s : Shared} {φ : List Addr} {d : Addr} {o : Obj} {u : HO}
theorem xr_t : ∀ {kvs : List (D × D)} {ys : List (NestedKey × Addr × Value)}, Paired (NR X.K φ H) kvs ys → ∃ xs, XR X.K φ H kvs xs ∧ Paired (fun (p : V × V) (y : NestedKey × Addr × Value) => p.1 = .ref y.2.1 ∧ RelV p.2 y.2.2) xs ys
  | _, _, .nil => ⟨[], .nil, .nil⟩
  | _, _, .cons r t => by
    obtain ⟨xs, h1, h2⟩ := xr_t t
    obtain ⟨_, _, _, q1, v, q2, q3⟩ := r
    exact ⟨(.ref _, v) :: xs, .cons ⟨q1, q3⟩ h1, .cons ⟨rfl, q2⟩ h2⟩
theorem xr_k : ∀ {kvs : List (D × D)} {ys : List (Key × V)}, Paired (fun (p : D × D) (q : Key × V) => p.1 = keyD q.1 ∧ Tr X.K φ H p.2 q.2) kvs ys → XR X.K φ H kvs (ys.map fun q => (kV q.1, q.2))
  | _, _, .nil => .nil
  | _, (k, _) :: _, .cons r t => .cons ⟨by rw [r.1]; cases k with
    | inl i => exact .int i
    | inr z => exact .str z, r.2⟩ (xr_k t)
theorem raw_of (I : Inv X pins σ H s) (e : H d = some (.frz o u)) {kvs : List (D × D)} (dr : DR X.K (nm X) φ H d kvs u) : (d == sysModules) = false ∧ s.heap.get? d = some o ∧ ∃ xs, RawD o xs ∧ XR X.K φ H kvs xs := by
  cases dr with
  | k pr =>
    obtain ⟨n, hg, hx, es, ep, vs, hdt, hsz, rel, hm⟩ := I.frzK e
    obtain ⟨es', ep', ⟨o', ho', hx', hdt'⟩, hs', he'⟩ := hm.dictOf.raw
    rw [hg] at ho'
    cases ho'
    obtain ⟨rfl, rfl⟩ := dict_ep hdt hdt'
    refine ⟨n, hg, _, ⟨es', ep', hx, hdt, by rw [List.length_map]; exact hsz, fun i hi p hp => ?_⟩, xr_k pr⟩
    rw [List.getElem?_map, Option.map_eq_some_iff] at hp
    obtain ⟨⟨k, v⟩, hk, rfl⟩ := hp
    obtain ⟨w, hw, rw'⟩ := kv_get rel hk
    obtain ⟨q1, q2⟩ := he' i hi k w hw
    exact ⟨relV_key (show keyIs k _ = true from q1), by rw [q2]; exact rw'⟩
  | t n l pr =>
    obtain ⟨hg, ⟨⟨o', es, ep, ho', hx, hdt, he, hn⟩, _⟩⟩ := I.hok d _ e
    rw [hg] at ho'
    cases ho'
    obtain ⟨xs, h1, h2⟩ := xr_t pr
    have hs := size_of_entries he
    refine ⟨n, hg, xs, ⟨es, ep, hx, hdt, by rw [hs, Paired.length h2], fun i hi p hp => ?_⟩, h1⟩
    obtain ⟨y, hy, r1, r2⟩ := paired_get h2 hp
    have q := entry_at he i
    rw [Array.getElem?_eq_getElem hi, hy, Option.map_some] at q
    have q' := Option.some.inj q
    rw [q']
    exact ⟨by rw [r1]; rfl, r2⟩
end

/-! ### the walks -/
def LkD (d : Addr) (o : Obj) (H : L2.Hp) : Prop := ∃ u, H d = some (.frz o u)
def Ixk (d : Addr) (o : Obj) (xs : List (V × V)) : It := ⟨fun i H => LkD d o H ∧ i < xs.length, fun i H x H' => H' = H ∧ ∃ p, xs[i]? = some p ∧ x = p.1, fun i H => LkD d o H ∧ xs.length ≤ i⟩
def Ixv (d : Addr) (o : Obj) (xs : List (V × V)) : It := ⟨fun i H => LkD d o H ∧ i < xs.length, fun i H x H' => H' = H ∧ ∃ p, xs[i]? = some p ∧ x = p.2, fun i H => LkD d o H ∧ xs.length ≤ i⟩
def Ixi (d : Addr) (o : Obj) (xs : List (V × V)) : It := ⟨fun i H => LkD d o H ∧ i < xs.length, fun i H x H' => ∃ T p, xs[i]? = some p ∧ x = .ref T ∧ H T = none ∧ H' = upd H T (.tup [p.1, p.2]), fun i H => LkD d o H ∧ xs.length ≤ i⟩
section
variable {P : Program} {w : World} {K : Fg} {tg : Expr} {d : Addr} {o : Obj} {xs : List (V × V)} {es : Array DictEntry} {ep : Nat}
theorem LkD.raw {X : Cx} {pins : List (Addr × Obj)} {σ : L2.St} {H : L2.Hp} {s : Shared} (l : LkD d o H) (I : Inv X pins σ H s) (hx : o.ExactDict) (hd : o.data = .dict es ep) : s.heap.DictRaw d es ep := by
  obtain ⟨u, e⟩ := l
  obtain ⟨hg, _⟩ := I.hok d _ e
  exact ⟨o, hg, hx, hd⟩
theorem turn_xk (it : Addr) (hx : o.ExactDict) (hd : o.data = .dict es ep) (hz : es.size = xs.length) (hr : ∀ i (hi : i < es.size) p, xs[i]? = some p → RelV p.1 es[i].key ∧ RelV p.2 es[i].val) :
    Turn P w K tg (Ixk d o xs) [it] it (fun i h => h.IsKeyIter it d i es.size ep) where
  mem := by simp
  obj := fun i h st b hb => by
    have e : b = it := by simpa using hb
    subst e
    obtain ⟨oi, e, c, dd⟩ := st
    exact ⟨oi, e, fun v z => by rw [dd] at z; cases z⟩
  keep := fun i h h' st k => st.at fun oi e => k it (by simp) oi e
  item := by
    intro X hP hw hK hc i pins s σ H E I hf st hg
    subst hP hw hK
    obtain ⟨hl, hi⟩ := hg
    obtain ⟨f0, f1, f2, f3, f4, f5⟩ := hf it (by simp)
    have hi' : i < es.size := by omega
    refine wpAny_pyNext_keys_item_raw st (hl.raw I hx hd) hi' fun h' st' sb => ?_
    have I1 : Inv X pins σ H { s with heap := h' } := I.turned (t' := s.toks) (fun b ob hb e => (sb.2 b hb).trans e) f0 f1 f3 f4 f5
    obtain ⟨oi, e, c, dd⟩ := id st'
    exact ⟨_, rfl, go_of (s := { s with heap := h' }) e c dd (by decide) ⟨xs[i].1, H, I1, (hr i hi' _ (List.getElem?_eq_getElem hi)).1, ⟨rfl, _, List.getElem?_eq_getElem hi, rfl⟩, st', fun b hb => (hf b hb).1⟩⟩
  done := by
    intro X hP hw hK hc i pins s σ H E I hf st hg
    subst hP hw hK
    obtain ⟨hl, hi⟩ := hg
    obtain ⟨f0, f1, f2, f3, f4, f5⟩ := hf it (by simp)
    exact wpAny_pyNext_keys_end_raw (I.ok.hd hc) st (hl.raw I hx hd) (by omega) fun h' eb => ⟨rfl, I.turned (t' := s.toks) (fun b ob hb e => eb b ob hb e) f0 f1 f3 f4 f5⟩
  self := fun A i s Q E st h => wpAny_pyIter_keyiter st h
theorem turn_xv (it : Addr) (hx : o.ExactDict) (hd : o.data = .dict es ep) (hz : es.size = xs.length) (hr : ∀ i (hi : i < es.size) p, xs[i]? = some p → RelV p.1 es[i].key ∧ RelV p.2 es[i].val) :
    Turn P w K tg (Ixv d o xs) [it] it (fun i h => h.IsValIter it d i es.size ep) where
  mem := by simp
  obj := fun i h st b hb => by
    have e : b = it := by simpa using hb
    subst e
    obtain ⟨oi, e, c, dd⟩ := st
    exact ⟨oi, e, fun v z => by rw [dd] at z; cases z⟩
  keep := fun i h h' st k => st.at fun oi e => k it (by simp) oi e
  item := by
    intro X hP hw hK hc i pins s σ H E I hf st hg
    subst hP hw hK
    obtain ⟨hl, hi⟩ := hg
    obtain ⟨f0, f1, f2, f3, f4, f5⟩ := hf it (by simp)
    have hi' : i < es.size := by omega
    refine wpAny_pyNext_values_item_raw st (hl.raw I hx hd) hi' fun h' st' sb => ?_
    have I1 : Inv X pins σ H { s with heap := h' } := I.turned (t' := s.toks) (fun b ob hb e => (sb.2 b hb).trans e) f0 f1 f3 f4 f5
    obtain ⟨oi, e, c, dd⟩ := id st'
    exact ⟨_, rfl, go_of (s := { s with heap := h' }) e c dd (by decide) ⟨xs[i].2, H, I1, (hr i hi' _ (List.getElem?_eq_getElem hi)).2, ⟨rfl, _, List.getElem?_eq_getElem hi, rfl⟩, st', fun b hb => (hf b hb).1⟩⟩
  done := by
    intro X hP hw hK hc i pins s σ H E I hf st hg
    subst hP hw hK
    obtain ⟨hl, hi⟩ := hg
    obtain ⟨f0, f1, f2, f3, f4, f5⟩ := hf it (by simp)
    exact wpAny_pyNext_values_end_raw (I.ok.hd hc) st (hl.raw I hx hd) (by omega) fun h' eb => ⟨rfl, I.turned (t' := s.toks) (fun b ob hb e => eb b ob hb e) f0 f1 f3 f4 f5⟩
  self := fun A i s Q E st h => wpAny_pyIter_valiter st h
theorem turn_xi {elts : List Expr} {kk : Nat} {tpos : Pos} (it : Addr) (hx : o.ExactDict) (hd : o.data = .dict es ep) (hz : es.size = xs.length) (hr : ∀ i (hi : i < es.size) p, xs[i]? = some p → RelV p.1 es[i].key ∧ RelV p.2 es[i].val) :
    Turn P w K (.Tuple elts kk tpos) (Ixi d o xs) [it] it (fun i h => ∃ ok ov, IsItemIter h it d i es.size ep ok ov) where
  mem := by simp
  obj := fun i h st b hb => by
    have e : b = it := by simpa using hb
    subst e
    obtain ⟨ok, ov, e⟩ := st
    exact ⟨_, e, fun v z => nomatch z⟩
  keep := fun i h h' st k => let ⟨ok, ov, e⟩ := st; ⟨ok, ov, k it (by simp) _ e⟩
  item := by
    intro X hP hw hK hc i pins s σ H E I hf st hg
    subst hP hw hK
    obtain ⟨hl, hi⟩ := hg
    have hi' : i < es.size := by omega
    obtain ⟨ok, ov, he⟩ := st
    have hlt : it < s.heap.objs.size := Heap.lt_size he
    obtain ⟨r1, r2⟩ := hr i hi' _ (List.getElem?_eq_getElem hi)
    refine wpAny_pyNext_items_item_raw he (hl.raw I hx hd) hi' fun h' ho hT hzz hk => ?_
    refine ⟨_, rfl, wpAny_letOwnedTupleGo_items (s := { s with heap := h' }) ho fun h'' he' sb => ?_⟩
    have hT2 : h''.get? s.heap.objs.size = some { cls := .type "tuple", data := .seq #[es[i].key, es[i].val] } := (sb.2 _ (Nat.ne_of_gt hlt)).trans hT
    have new : ObjOk X.prog X.w (upd H s.heap.objs.size (.tup [xs[i].1, xs[i].2])) h'' s.heap.objs.size (.tup [xs[i].1, xs[i].2]) :=
      ⟨by show 2 ≤ sizeLine; decide, [es[i].key, es[i].val], .cons r1 (.cons r2 .nil), ⟨_, hT2, rfl, _, rfl⟩⟩
    have I1 : Inv X pins σ (upd H s.heap.objs.size (.tup [xs[i].1, xs[i].2])) { s with heap := h'' } :=
      I.turnedNew (t' := s.toks) (ch := [it]) (fun b ob hb e => (sb.2 b (by simpa using hb)).trans (hk b ob (by simpa using hb) e)) hf (Nat.le_refl _) new
    refine ⟨.ref s.heap.objs.size, _, I1, rfl, ⟨_, _, List.getElem?_eq_getElem hi, rfl, I.hok.fresh (Nat.le_refl _), rfl⟩, ⟨_, _, he'⟩, fun b hb => ?_⟩
    have e : b = it := by simpa using hb
    rw [e, upd_ne (Nat.ne_of_lt hlt)]
    exact (hf it (by simp)).1
  done := by
    intro X hP hw hK hc i pins s σ H E I hf st hg
    subst hP hw hK
    obtain ⟨hl, hi⟩ := hg
    obtain ⟨f0, f1, f2, f3, f4, f5⟩ := hf it (by simp)
    obtain ⟨ok, ov, he⟩ := st
    exact wpAny_pyNext_items_end_raw (I.ok.hd hc) he (hl.raw I hx hd) (by omega) fun h' eb => ⟨rfl, I.turned (t' := s.toks) (fun b ob hb e => eb b ob hb e) f0 f1 f3 f4 f5⟩
  self := fun A i s Q E st h => let ⟨_, _, e⟩ := st; wpAny_pyIter_itemiter e h
end

/-! ### for k in d, d.values(), d.items(): the dict is locked -/
def iX (X : Cx) (J : Addr → Obj → List (V × V) → It) (td : TE) : TI := fun σ H R => td σ H fun x H1 => ∃ d o u φ kvs, x = .ref d ∧ H1 d = some (.frz o u) ∧ DR X.K (nm X) φ H1 d kvs u ∧ ∀ xs, RawD o xs → XR X.K φ H1 kvs xs → R (J d o xs) H1
section
variable {X : Cx} {tg e : Expr} {td : TE} {apos cpos : Pos}
theorem pi_keysX (he : PE X e td) : PI X tg e (iX X Ixk td) := by
  refine ⟨fun pins s σ H R I h => ?_⟩
  refine thn (he.run pins s σ H _ I h) fun u s1 ⟨x, H1, I1, rx, d, o, uu, φ, kvs, ex, hd, dr, q⟩ => ?_
  subst ex
  obtain rfl : u = Value.ref d := rx
  obtain ⟨n, hg, xs, rw', xr⟩ := raw_of I1 hd dr
  obtain ⟨es, ep, hx, hdt, hsz, hr⟩ := id rw'
  refine wpAny_pyIter_dict_raw n ⟨o, hg, hx, hdt⟩ (pi_one (tk := s1.toks) I1 _ (turn_xk _ hx hdt hsz hr) ⟨_, Heap.get?_push_size _ rfl, rfl, ?_⟩ (q xs rw' xr))
  rfl
theorem pi_valuesX (he : PE X e td) (hbase : attributeBase e "values" X.env (eval e X.env) = eval e X.env) (hline : (apos.endLine == cpos.line) = true) : PI X tg (.Call (.Attribute e "values" apos) [] [] cpos) (iX X Ixv td) := by
  refine ⟨fun pins s σ H R I h => ?_⟩
  refine wpAny_Call_method (T := "dict") (id := "dict.values") hbase rfl hline PySem.F.plainAttrs_dict PySem.F.slot_dict_values PySem.F.type_dict_values (thn (he.run pins s σ H _ I h) fun u s1 ⟨x, H1, I1, rx, d, o, uu, φ, kvs, ex, hd, dr, q⟩ => ?_)
  subst ex
  obtain rfl : u = Value.ref d := rx
  obtain ⟨n, hg, xs, rw', xr⟩ := raw_of I1 hd dr
  obtain ⟨es, ep, hx, hdt, hsz, hr⟩ := id rw'
  have hm : s1.heap.DictRaw d es ep := ⟨o, hg, hx, hdt⟩
  refine ⟨hm.typeIs, fun a ea => ⟨o, by cases ea; exact hg, hx.2.1⟩, ?_⟩
  have I2 : Inv X pins σ H1 { s1 with heap := s1.heap.push { cls := .type "dict_values", data := .fields #[.ref d] } } := I1.kept (t' := s1.toks) fun b ob q => Heap.get?_push_of_some _ q
  have fin : wpAny (model X.prog X.w) X.A (pyIter (.ref s1.heap.objs.size)) (PIE X pins σ tg R) X.xe { s1 with heap := s1.heap.push { cls := .type "dict_values", data := .fields #[.ref d] } } := by
    refine wpAny_pyIter_values_raw (d := d) ⟨_, Heap.get?_push_size _ rfl, rfl, rfl⟩ (hm.at fun _ e => Heap.get?_push_of_some _ e) (pi_one (tk := s1.toks) I2 _ (turn_xv _ hx hdt hsz hr) ⟨_, Heap.get?_push_size _ rfl, rfl, ?_⟩ (q xs rw' xr))
    rfl
  show wpAny _ _ (callWith cpos (.builtin "dict.values") [.ref d] [] []) _ X.xe s1
  exact method_meetsIn PySem.F.slot_dict_values PySem.F.entry_dict_values rfl (PySem.evalArgs_none ⟨rfl, hm.typeIs, PySem.F.args_dict_values_1 _, _, meets_dict_values_raw d n, ⟨es, ep, hm⟩, fin⟩)
theorem pi_itemsX {elts : List Expr} {kk : Nat} {tpos : Pos} (he : PE X e td) (hbase : attributeBase e "items" X.env (eval e X.env) = eval e X.env) (hline : (apos.endLine == cpos.line) = true) : PI X (.Tuple elts kk tpos) (.Call (.Attribute e "items" apos) [] [] cpos) (iX X Ixi td) := by
  refine ⟨fun pins s σ H R I h => ?_⟩
  refine wpAny_Call_method (T := "dict") (id := "dict.items") hbase rfl hline PySem.F.plainAttrs_dict PySem.F.slot_dict_items PySem.F.type_dict_items (thn (he.run pins s σ H _ I h) fun u s1 ⟨x, H1, I1, rx, d, o, uu, φ, kvs, ex, hd, dr, q⟩ => ?_)
  subst ex
  obtain rfl : u = Value.ref d := rx
  obtain ⟨n, hg, xs, rw', xr⟩ := raw_of I1 hd dr
  obtain ⟨es, ep, hx, hdt, hsz, hr⟩ := id rw'
  have hm : s1.heap.DictRaw d es ep := ⟨o, hg, hx, hdt⟩
  refine ⟨hm.typeIs, fun a ea => ⟨o, by cases ea; exact hg, hx.2.1⟩, ?_⟩
  have I2 : Inv X pins σ H1 { s1 with heap := s1.heap.push { cls := .type "dict_items", data := .fields #[.ref d] } } := I1.kept (t' := s1.toks) fun b ob q => Heap.get?_push_of_some _ q
  have fin : wpAny (model X.prog X.w) X.A (pyIter (.ref s1.heap.objs.size)) (PIE X pins σ (.Tuple elts kk tpos) R) X.xe { s1 with heap := s1.heap.push { cls := .type "dict_items", data := .fields #[.ref d] } } := by
    refine wpAny_pyIter_items_raw (d := d) ⟨_, Heap.get?_push_size _ rfl, rfl, rfl⟩ (hm.at fun _ e => Heap.get?_push_of_some _ e) (pi_one (tk := s1.toks) I2 _ (turn_xi _ hx hdt hsz hr) ⟨.none, .none, ?_⟩ (q xs rw' xr))
    exact Heap.get?_push_size _ rfl
  show wpAny _ _ (callWith cpos (.builtin "dict.items") [.ref d] [] []) _ X.xe s1
  exact method_meetsIn PySem.F.slot_dict_items PySem.F.entry_dict_items rfl (PySem.evalArgs_none ⟨rfl, hm.typeIs, PySem.F.args_dict_items_1 _, _, meets_dict_items_raw d n, ⟨es, ep, hm⟩, fin⟩)
end
end Y

set_option Elab.async false
set_option linter.all false
set_option maxRecDepth 100000
set_option maxHeartbeats 1000000
/-! Loops over dicts: the dict is locked. -/
namespace Y
open PySem PySem.Spec PyProof.Rows L2 RT RZ

structure KeepT (H H' : L2.Hp) : Prop where
  tups : ∀ b xs, H b = some (.tup xs) → H' b = some (.tup xs)
  ftups : ∀ b o xs, H b = some (.frz o (.tup xs)) → H' b = some (.frz o (.tup xs))
section
variable {K : Fg} {mg : Nm} {φ φ' : List Addr} {H H' : L2.Hp} {h : Y.Hp}
theorem KeepT.sqT (k : KeepT H H') {a : Addr} {xs : List V} (h : SqT K H a xs) : SqT K H' a xs := by
  rcases h with (h | ⟨o, h⟩) | h
  · exact .inl (.inl (k.tups _ _ h))
  · exact .inl (.inr ⟨o, k.ftups _ _ _ h⟩)
  · exact .inr h
mutual
theorem Tr.monoT (k : KeepT H H') : ∀ (d : D) (v : V), Tr K φ H d v → Tr K φ H' d v
  | _, _, .non => .non
  | _, _, .bl b => .bl b
  | _, _, .int i => .int i
  | _, _, .str x => .str x
  | .tup _, _, .tup s t => .tup (k.sqT s) (TrL.monoT k _ _ t)
  | _, _, .ref h => .ref h
theorem TrL.monoT (k : KeepT H H') : ∀ (ds : List D) (vs : List V), TrL K φ H ds vs → TrL K φ H' ds vs
  | _, _, .nil => .nil
  | _ :: _, _, .cons t r => .cons (Tr.monoT k _ _ t) (TrL.monoT k _ _ r)
end
theorem NR.upT {p : D × D} {x : NestedKey × Addr × Value} (r : NR K φ H p x) (k : KeepT H H') : NR K φ H' p x :=
  ⟨r.1, r.2.1, r.2.2.1, r.2.2.2.1.monoT k _ _, let ⟨v, a, b⟩ := r.2.2.2.2; ⟨v, a, b.monoT k _ _⟩⟩
theorem DR.upT {kvs : List (D × D)} {u : HO} {a : Addr} (r : DR K mg φ H a kvs u) (k : KeepT H H') : DR K mg φ H' a kvs u := by
  cases r with
  | k r => exact .k (L2.Paired.mapP r fun _ _ q => ⟨q.1, q.2.monoT k _ _⟩)
  | t s l r => exact .t s l (L2.Paired.mapP r fun _ _ q => q.upT k)
theorem OR.upT {o : Ob} {a : Addr} (r : OR K mg φ H o a) (k : KeepT H H') (e : H' a = H a) : OR K mg φ H' o a := by
  cases r with
  | lst h t => exact .lst (e.trans h) (t.monoT k _ _)
  | ro h t => exact .ro (e.trans h) (t.monoT k _ _)
  | dict h t => exact .dict (e.trans h) (t.upT k)
  | ldict h t => exact .ldict (e.trans h) (t.upT k)
  | ins h m ck t => exact .ins (e.trans h) m ck (L2.Paired.mapP t fun _ _ q => ⟨q.1, q.2.monoT k _ _⟩)
theorem TrS.upT {ρ : Y.Env} {σ : L2.St} (r : TrS K φ H ρ σ) (k : KeepT H H') : TrS K φ H' ρ σ := ⟨r.len, fun i d e => let ⟨v, a, b⟩ := r.at_ i d e; ⟨v, a, b.monoT k _ _⟩⟩
/-- another telling of what stands at one place -/
theorem RH.swap (r : RH K mg φ h H) {n : Nat} {p : Addr} {o : Ob} {u : HO} (ha : φ[n]? = some p) (k : KeepT H (upd H p u)) (new : OR K mg φ (upd H p u) o p) : RH K mg φ (h.set n o) (upd H p u) := by
  refine ⟨by simp [r.len], r.nd, fun m u' a hm hma => ?_⟩
  by_cases e : m = n
  · subst e
    rw [ha] at hma; cases hma
    have hl : m < h.length := by rw [← r.len]; exact (List.getElem?_eq_some_iff.mp ha).1
    rw [List.getElem?_set_self hl] at hm; cases hm
    exact new
  · rw [List.getElem?_set_ne (Ne.symm e)] at hm
    refine (r.ob m u' a hm hma).upT k (upd_ne ?_)
    rintro rfl
    exact e (nodup_get r.nd hma ha)
theorem DR.no {a : Addr} {kvs : List (D × D)} {u : HO} (r : DR K mg φ H a kvs u) : (∀ xs, u ≠ .tup xs) ∧ (∀ o w, u ≠ .frz o w) ∧ Mut (some u) := by
  cases r with
  | k _ => exact ⟨fun _ z => (nomatch z), fun _ _ z => (nomatch z), trivial⟩
  | t _ _ _ => exact ⟨fun _ z => (nomatch z), fun _ _ z => (nomatch z), trivial⟩
theorem keep_unlock {d : Addr} {o : Obj} {u : HO} (e : H d = some (.frz o u)) (hu : ∀ xs, u ≠ .tup xs) : KeepT H (upd H d u) :=
  ⟨fun b xs q => by rw [upd_ne (ne_of q (o := .tup xs) e fun z => by cases z)]; exact q, fun b ob xs q => by
    by_cases z : b = d
    · subst z; rw [e] at q; cases q; exact absurd rfl (hu xs)
    · rw [upd_ne z]; exact q⟩
/-- begin of a walk -/
theorem RH.lock (r : RH K mg φ h H) {m : Nat} {d : Addr} {kvs : List (D × D)} {u : HO} (hp : φ[m]? = some d) (e : H d = some u) (dr : DR K mg φ H d kvs u) (od : Obj) : Keep H (upd H d (.frz od u)) ∧ RH K mg φ (h.set m (.ldict kvs)) (upd H d (.frz od u)) := by
  have k : Keep H (upd H d (.frz od u)) := .write e dr.no.1 dr.no.2.1
  exact ⟨k, r.put hp k (.ldict upd_same (dr.up (List.prefix_refl _) k))⟩
/-- its end -/
theorem Bh.unlock {h' : Y.Hp} {m : Nat} {d : Addr} {kvs : List (D × D)} {u : HO} {od : Obj} (hp : φ[m]? = some d) (e : H d = some u) (dr : DR K mg φ H d kvs u) (b : Bh K mg φ (upd H d (.frz od u)) h' φ' H') :
    H' d = some (.frz od u) ∧ KeepT H' (upd H' d u) ∧ Bh K mg φ H (h'.set m (.dict kvs)) φ' (upd H' d u) := by
  have e1 := b.keep.frzs d od u upd_same
  have kt := keep_unlock e1 dr.no.1
  have k : Keep H (upd H' d u) := ⟨fun c xs q => by
      have n : c ≠ d := ne_of q e fun z => dr.no.1 xs z.symm
      rw [upd_ne n]
      exact b.keep.tups c xs (by rw [upd_ne n]; exact q), fun c ob w q => by
      have n : c ≠ d := ne_of q e fun z => dr.no.2.1 ob w z.symm
      rw [upd_ne n]
      exact b.keep.frzs c ob w (by rw [upd_ne n]; exact q)⟩
  refine ⟨e1, kt, b.pre, k, fun a xs n q => ?_, b.rh.swap (pre_get b.pre hp) kt (.dict upd_same (dr.up b.pre k))⟩
  have na : a ≠ d := fun z => n (z ▸ List.mem_of_getElem? hp)
  have := b.oth a xs n (by rw [upd_ne na]; exact q)
  exact ⟨by rw [upd_ne na]; exact this.1, this.2⟩
/-- a walk over a dict that is locked already -/
theorem Bh.still {h' : Y.Hp} {m : Nat} {d : Addr} {kvs : List (D × D)} {u : HO} {od : Obj} (hp : φ[m]? = some d) (e : H d = some (.frz od u)) (dr : DR K mg φ H d kvs u) (b : Bh K mg φ H h' φ' H') : Bh K mg φ H (h'.set m (.ldict kvs)) φ' H' := by
  refine ⟨b.pre, b.keep, b.oth, ⟨by simp [b.rh.len], b.rh.nd, fun j o a hj ha => ?_⟩⟩
  by_cases q : j = m
  · subst q
    have hl : j < h'.length := by rw [← b.rh.len]; exact (List.getElem?_eq_some_iff.mp ha).1
    rw [List.getElem?_set_self hl] at hj; cases hj
    rw [pre_get b.pre hp] at ha; cases ha
    exact .ldict (b.keep.frzs _ _ _ e) (dr.up b.pre b.keep)
  · rw [List.getElem?_set_ne (Ne.symm q)] at hj
    exact b.rh.ob j o a hj ha
/-- the ends of a locked run -/
def LkE (d : Addr) (od : Obj) (u : HO) (D : Ends) : Ends := ⟨fun σ' H' => H' d = some (.frz od u) ∧ D.nx σ' (upd H' d u), fun v H' => H' d = some (.frz od u) ∧ D.rt v (upd H' d u), fun σ' H' => H' d = some (.frz od u) ∧ D.bk σ' (upd H' d u), fun σ' H' => H' d = some (.frz od u) ∧ D.ct σ' (upd H' d u)⟩
theorem PostS.locked {r : RS} {W : WX} {D : Ends} {ds : List Y.D} {g : List (Nat × Ob)} {m : Nat} {d : Addr} {kvs : List (Y.D × Y.D)} {u : HO} (od : Obj) (hp : φ[m]? = some d) (e : H d = some u) (dr : DR K mg φ H d kvs u) (p : PostS K mg φ H (r.unlock ⟨ds, g, some (m, .dict kvs)⟩) W D) :
    PostS K mg φ (upd H d (.frz od u)) r W (LkE d od u D) := by
  cases r with
  | nx ρ h => exact fun φ' H' σ' b t => let ⟨q1, k, q2⟩ := b.unlock hp e dr; ⟨q1, p φ' _ σ' q2 (t.upT k)⟩
  | bk ρ h => exact fun φ' H' σ' b t => let ⟨q1, k, q2⟩ := b.unlock hp e dr; ⟨q1, p φ' _ σ' q2 (t.upT k)⟩
  | ct ρ h => exact fun φ' H' σ' b t => let ⟨q1, k, q2⟩ := b.unlock hp e dr; ⟨q1, p φ' _ σ' q2 (t.upT k)⟩
  | rt v h => exact fun φ' H' σ' b t => let ⟨q1, k, q2⟩ := b.unlock hp e dr; ⟨q1, p φ' _ σ' q2 (t.monoT k _ _)⟩
  | ex c fs ρ h => exact (show False from p).elim
  | bad => exact p
theorem PostS.still {r : RS} {W : WX} {D : Ends} {ds : List Y.D} {g : List (Nat × Ob)} {m : Nat} {d : Addr} {kvs : List (Y.D × Y.D)} {u : HO} {od : Obj} (hp : φ[m]? = some d) (e : H d = some (.frz od u)) (dr : DR K mg φ H d kvs u) (p : PostS K mg φ H (r.unlock ⟨ds, g, some (m, .ldict kvs)⟩) W D) :
    PostS K mg φ H r W D := by
  cases r with
  | nx ρ h => exact fun φ' H' σ' b t => p φ' _ σ' (b.still hp e dr) t
  | bk ρ h => exact fun φ' H' σ' b t => p φ' _ σ' (b.still hp e dr) t
  | ct ρ h => exact fun φ' H' σ' b t => p φ' _ σ' (b.still hp e dr) t
  | rt v h => exact fun φ' H' σ' b t => p φ' _ σ' (b.still hp e dr) t
  | ex c fs ρ h => exact (show False from p).elim
  | bad => exact p
theorem PostE.locked {r : Res D} {W : Value → Option Addr → L2.Hp → Prop} {Q : VK} {ds : List D} {g : List (Nat × Ob)} {m : Nat} {d : Addr} {kvs : List (D × D)} {u : HO} (od : Obj) (hp : φ[m]? = some d) (e : H d = some u) (dr : DR K mg φ H d kvs u) (p : PostE K mg φ H (r.unlock ⟨ds, g, some (m, .dict kvs)⟩) W Q) :
    PostE K mg φ (upd H d (.frz od u)) r W fun v H' => H' d = some (.frz od u) ∧ Q v (upd H' d u) := by
  cases r with
  | ok v h => exact fun φ' H' σ' b t => let ⟨q1, k, q2⟩ := b.unlock hp e dr; ⟨q1, p φ' _ σ' q2 (t.monoT k _ _)⟩
  | exc c fs h => exact (show False from p).elim
  | bad => exact p
theorem PostE.still {r : Res D} {W : Value → Option Addr → L2.Hp → Prop} {Q : VK} {ds : List D} {g : List (Nat × Ob)} {m : Nat} {d : Addr} {kvs : List (D × D)} {u : HO} {od : Obj} (hp : φ[m]? = some d) (e : H d = some (.frz od u)) (dr : DR K mg φ H d kvs u) (p : PostE K mg φ H (r.unlock ⟨ds, g, some (m, .ldict kvs)⟩) W Q) :
    PostE K mg φ H r W Q := by
  cases r with
  | ok v h => exact fun φ' H' σ' b t => p φ' _ σ' (b.still hp e dr) t
  | exc c fs h => exact (show False from p).elim
  | bad => exact p

/-! ### the sources -/
/-- the walk J tells f of each pair -/
structure JD (J : Addr → Obj → List (V × V) → It) (f : D × D → D) : Prop where
  wk : ∀ {K : Fg} {mg : Nm} {φ : List Addr} {H : L2.Hp} {d : Addr} {o : Obj} {u : HO} {kvs : List (D × D)} {xs : List (V × V)}, H d = some (.frz o u) → XR K φ H kvs xs → Wk K mg φ H ⟨kvs.map f, [], none⟩ (J d o xs)
theorem xr_get {kvs : List (D × D)} {xs : List (V × V)} (r : XR K φ H kvs xs) {i : Nat} {p : V × V} (e : xs[i]? = some p) : ∃ q, kvs[i]? = some q ∧ Tr K φ H q.1 p.1 ∧ Tr K φ H q.2 p.2 := by
  induction r generalizing i with
  | nil => simp at e
  | @cons a b l₁ l₂ r t ih =>
    cases i with
    | zero => simp at e; subst e; exact ⟨_, rfl, r⟩
    | succ i => obtain ⟨q, h1, h2⟩ := ih (i := i) (by simpa using e); exact ⟨q, by simpa using h1, h2⟩
theorem jd_k : JD Ixk (·.1) where
  wk := fun {K mg φ0 H0 d o u kvs xs} e r => {
    lk := rfl
    goes := fun i φ h H hi b _ => ⟨⟨u, b.keep.frzs _ _ _ e⟩, by simpa [← Paired.length r] using hi⟩
    stops := fun φ h H b _ => ⟨⟨u, b.keep.frzs _ _ _ e⟩, by simp [Paired.length r]⟩
    yields := fun i φ h H x H' hi b _ y => by
      obtain ⟨rfl, p, hp, rfl⟩ := y
      obtain ⟨q, h1, h2, h3⟩ := xr_get r hp
      exact ⟨q.1, by simp [h1], Bh.refl b.rh, b.tr h2⟩ }
theorem jd_v : JD Ixv (·.2) where
  wk := fun {K mg φ0 H0 d o u kvs xs} e r => {
    lk := rfl
    goes := fun i φ h H hi b _ => ⟨⟨u, b.keep.frzs _ _ _ e⟩, by simpa [← Paired.length r] using hi⟩
    stops := fun φ h H b _ => ⟨⟨u, b.keep.frzs _ _ _ e⟩, by simp [Paired.length r]⟩
    yields := fun i φ h H x H' hi b _ y => by
      obtain ⟨rfl, p, hp, rfl⟩ := y
      obtain ⟨q, h1, h2, h3⟩ := xr_get r hp
      exact ⟨q.2, by simp [h1], Bh.refl b.rh, b.tr h3⟩ }
theorem jd_i : JD Ixi (fun kv => .tup [kv.1, kv.2]) where
  wk := fun {K mg φ0 H0 d o u kvs xs} e r => {
    lk := rfl
    goes := fun i φ h H hi b _ => ⟨⟨u, b.keep.frzs _ _ _ e⟩, by simpa [← Paired.length r] using hi⟩
    stops := fun φ h H b _ => ⟨⟨u, b.keep.frzs _ _ _ e⟩, by simp [Paired.length r]⟩
    yields := fun i φ h H x H' hi b _ y => by
      obtain ⟨T, p, hp, rfl, n, rfl⟩ := y
      obtain ⟨q, h1, h2, h3⟩ := xr_get r hp
      obtain ⟨b2, t2⟩ := pair_new b.rh n (b.tr h2) (b.tr h3)
      exact ⟨_, by simp [h1], b2, t2⟩ }
end

section
variable {X : Cx} {W : WX} {tg iter : Expr} {body : List Stmt} {t : T} {mb : MS} {pos : Pos} {J : Addr → Obj → List (V × V) → It} {f : D × D → D} {i : Nat}
/-- a slot's value -/
def mV (i : Nat) : ME := fun ρ h => match ρ[i]? with
  | some (some d) => .ok d h
  | _ => .bad
/-- a dict's walk in a slot -/
def mD (f : D × D → D) (i : Nat) : MI := fun ρ h => match ρ[i]? with
  | some (some d) => ofO ((dict? d h).map fun x => ⟨x.2.1.map f, [], some (x.1, x.2.2)⟩) h
  | _ => .bad
theorem mD_of {ρ : Y.Env} {h : Y.Hp} {r : Res Src} (e : mD f i ρ h = r) (n : r ≠ .bad) : ∃ m kvs o, ρ[i]? = some (some (.ref m)) ∧ h[m]? = some o ∧ (o = .dict kvs ∨ o = .ldict kvs) ∧ r = .ok ⟨kvs.map f, [], some (m, o)⟩ h := by
  unfold mD at e
  split at e
  · rename_i d ed
    unfold dict? at e
    split at e
    · rename_i m
      split at e
      · rename_i kvs eh
        exact ⟨m, kvs, _, ed, eh, .inl rfl, e.symm⟩
      · rename_i kvs eh
        exact ⟨m, kvs, _, ed, eh, .inr rfl, e.symm⟩
      · exact absurd e.symm n
    · exact absurd e.symm n
  · exact absurd e.symm n
theorem set_same {α : Type} {l : List α} {m : Nat} {o : α} (e : l[m]? = some o) : l.set m o = l := List.ext_getElem? fun j => by
  by_cases q : m = j
  · subst q; rw [List.getElem?_set_self (List.getElem?_eq_some_iff.mp e).1, e]
  · rw [List.getElem?_set_ne q]
/-- the walk's own part, the dict locked -/
theorem forD_in {D : Ends} {φ : List Addr} {ρ : Y.Env} {h : Y.Hp} {σ : L2.St} {H : L2.Hp} {m : Nat} {d : Addr} {od : Obj} {u : HO} {kvs : List (Y.D × Y.D)} (jd : JD J f) (rh : RH X.K (nm X) φ h H) (ts : TrS X.K φ H ρ σ) (hv : ρ[i]? = some (some (.ref m))) (hp : φ[m]? = some d) (e : H d = some (.frz od u)) (dr : DR X.K (nm X) φ H d kvs u)
    (p : PostS X.K (nm X) φ H (forL t [] mb (kvs.map f) ρ h) W D) : tFor (iX X J (RE X W (mV i))) (RG X t) (RSt X W mb) D σ H := by
  refine ⟨φ, ρ, h, rh, ts, ?_⟩
  have em : mV i ρ h = .ok (.ref m) h := by unfold mV; rw [hv]
  rw [em]
  intro φ' H' v b tv
  obtain ⟨a, rfl, ha⟩ := tv.of_ref
  rw [pre_get b.pre hp] at ha
  cases ha
  have e' := b.keep.frzs _ _ _ e
  have dr' := dr.up b.pre b.keep
  refine ⟨d, od, u, φ', kvs, rfl, e', dr', fun xs _ xr => ?_⟩
  exact for_turns b.rh (b.trS ts) (jd.wk e' xr) (PostS.on b p)
theorem c_forD (jd : JD J f) (hp : PassesOwn (model X.prog X.w) X.A X.env X.xe) (hc : X.calm = true) (hi : PI X tg iter (iX X J (RE X W (mV i)))) (hg : PG X tg (RG X t)) (hb : PSs X body (RSt X W mb)) (hs : ∀ x, foldedSetIterable iter X.env x = pure x) :
    PS X (.For tg iter body [] pos) (RSt X W (mFor t (mD f i) mb)) := PS.imp (PS.or (ps_lock (ps_for hp hc hi hg hb hs)) (ps_for hp hc hi hg hb hs)) fun D σ H q => by
  obtain ⟨φ, ρ, h, rh, ts, p⟩ := q
  unfold mFor at p
  have nb : mD f i ρ h ≠ .bad := fun e => by rw [e] at p; exact p
  obtain ⟨m, kvs, o, hv, hm, ho, er⟩ := mD_of rfl nb
  rw [er] at p
  simp only [Res.into_ok] at p
  rcases ho with rfl | rfl
  · obtain ⟨d, hd, oa⟩ := rh.addr hm
    obtain ⟨u, e, dr⟩ := oa.dict_of
    refine .inl ⟨d, u, e, dr.no.2.2, fun od => ?_⟩
    obtain ⟨k, rh'⟩ := rh.lock hd e dr od
    exact forD_in (D := LkE d od u D) jd rh' (ts.up (List.prefix_refl _) k) hv hd upd_same (dr.up (List.prefix_refl _) k) (PostS.locked od hd e dr p)
  · obtain ⟨d, hd, oa⟩ := rh.addr hm
    obtain ⟨od, u, e, dr⟩ := oa.ldict_of
    have q := PostS.still hd e dr p
    rw [show locked ⟨kvs.map f, [], some (m, .ldict kvs)⟩ h = h from set_same hm] at q
    exact .inr (forD_in jd rh ts hv hd e dr q)
/-! ### comprehensions over dicts -/
variable {elt : Expr} {ifs : List Expr} {scope : Scope} {own : List (Str × Nat)} {spos : Pos} {mt : MT} {me : ME}
theorem lcD_in {Q : VK} {φ : List Addr} {ρ : Y.Env} {h : Y.Hp} {σ : L2.St} {H : L2.Hp} {m : Nat} {d : Addr} {od : Obj} {u : HO} {kvs : List (Y.D × Y.D)} {WW : Value → Option Addr → L2.Hp → Prop} (jd : JD J f) (rh : RH X.K (nm X) φ h H) (ts : TrS X.K φ H ρ σ) (hv : ρ[i]? = some (some (.ref m))) (hp : φ[m]? = some d) (e : H d = some (.frz od u)) (dr : DR X.K (nm X) φ H d kvs u) (hl : (kvs.map f).length ≤ line)
    (p : PostE X.K (nm X) φ H ((lcL t [] mt me (forget ρ t.slots) (kvs.map f) h).bind fun ds h => new (.lst ds) h) WW Q) : tLc (iX X J (RE X W (mV i))) (RG X t) (RT X WF mt) (RE X WF me) t.slots σ H Q := by
  refine ⟨φ, ρ, h, rh, ts, ?_⟩
  have em : mV i ρ h = .ok (.ref m) h := by unfold mV; rw [hv]
  rw [em]
  intro φ' H' v b tv
  obtain ⟨a, rfl, ha⟩ := tv.of_ref
  rw [pre_get b.pre hp] at ha
  cases ha
  have e' := b.keep.frzs _ _ _ e
  have dr' := dr.up b.pre b.keep
  refine ⟨d, od, u, φ', kvs, rfl, e', dr', fun xs _ xr D hD => ?_⟩
  exact lc_turns b.rh (b.trS ts) (jd.wk e' xr) hl (PostE.on b p) D hD
theorem c_lcD (jd : JD J f) (hc : X.calm = true) (hN : X.N.Nodup) (hi : PI X tg iter (iX X J (RE X W (mV i)))) (ok : BlkOk X.N X.env.scope scope own) (ho : own.map (·.2) = t.slots)
    (hg : ∀ (s : Shared) (H : L2.Hp) (C : Addr) (cl : List (Str × Addr)) (fp : List Addr), PG (X.blk s H scope (compEnvC scope cl C X.env) fp) tg (RG X t)) (ht : ∀ (s : Shared) (H : L2.Hp) (C : Addr) (cl : List (Str × Addr)) (fp : List Addr), PTs (X.blk s H scope (compEnvC scope cl C X.env) fp) ifs (RT X WF mt))
    (he : ∀ (s : Shared) (H : L2.Hp) (C : Addr) (cl : List (Str × Addr)) (fp : List Addr), PE (X.blk s H scope (compEnvC scope cl C X.env) fp) elt (RE X WF me)) (hs : ∀ x, foldedSetIterable iter X.env x = pure x) :
    PE X (.ListComp elt [⟨tg, iter, ifs, 0⟩] scope pos) (RE X W (mLc t (mD f i) mt me)) := PE.imp (PE.or (pe_lock (pe_lc hc hN hi ok hg ht he hs)) (pe_lc hc hN hi ok hg ht he hs)) fun σ H Q q => by
  obtain ⟨φ, ρ, h, rh, ts, p⟩ := q
  unfold mLc at p
  have nb : mD f i ρ h ≠ .bad := fun e => by rw [e] at p; exact p
  obtain ⟨m, kvs, o, hv, hm, ho', er⟩ := mD_of rfl nb
  rw [er] at p
  simp only [Res.bind_ok] at p
  rw [ho]
  split at p
  · exact (show False from p).elim
  · rename_i hl
    rcases ho' with rfl | rfl
    · obtain ⟨d, hd, oa⟩ := rh.addr hm
      obtain ⟨u, e, dr⟩ := oa.dict_of
      refine .inl ⟨d, u, e, dr.no.2.2, fun od => ?_⟩
      obtain ⟨k, rh'⟩ := rh.lock hd e dr od
      exact lcD_in jd rh' (ts.up (List.prefix_refl _) k) hv hd upd_same (dr.up (List.prefix_refl _) k) (by omega) (PostE.locked od hd e dr p)
    · obtain ⟨d, hd, oa⟩ := rh.addr hm
      obtain ⟨od, u, e, dr⟩ := oa.ldict_of
      have q := PostE.still hd e dr p
      rw [show locked ⟨kvs.map f, [], some (m, .ldict kvs)⟩ h = h from set_same hm] at q
      exact .inr (lcD_in jd rh ts hv hd e dr (by omega) q)
/-- y = [..] over a dict, on one line -/
theorem c_setLcD {j : Nat} {y : Str} {py : Pos} (jd : JD J f) (hc : X.calm = true) (hN : X.N.Nodup) (hy : X.N[j]? = some y) (hyl : X.env.scope.names.lookup y = some .local)
    (hsw : swapsWith (.ListComp elt [⟨tg, iter, ifs, 0⟩] scope pos) (some (.Name y py)) spos.line X.env = pure true) (hi : PI X tg iter (iX X J (RE X W (mV i)))) (ok : BlkOk X.N X.env.scope scope own) (ho : own.map (·.2) = t.slots)
    (hg : ∀ (s : Shared) (H : L2.Hp) (C : Addr) (cl : List (Str × Addr)) (fp : List Addr), PG (X.blk s H scope (compEnvC scope cl C X.env) fp) tg (RG X t)) (ht : ∀ (s : Shared) (H : L2.Hp) (C : Addr) (cl : List (Str × Addr)) (fp : List Addr), PTs (X.blk s H scope (compEnvC scope cl C X.env) fp) ifs (RT X WF mt))
    (he : ∀ (s : Shared) (H : L2.Hp) (C : Addr) (cl : List (Str × Addr)) (fp : List Addr), PE (X.blk s H scope (compEnvC scope cl C X.env) fp) elt (RE X WF me)) (hs : ∀ x, foldedSetIterable iter X.env x = pure x) :
    PS X (.Assign [.Name y py] (.ListComp elt [⟨tg, iter, ifs, 0⟩] scope pos) spos) (RSt X W fun ρ h => (mLc t (mD f i) mt me ρ h).into ρ fun d h => match bindT (.nm j) d ρ h with
      | some ρ' => .nx ρ' h
      | none => .bad) := PS.imp (PS.or (ps_lock (ps_setLc hc hN hy hyl hsw hi ok hg ht he hs)) (ps_setLc hc hN hy hyl hsw hi ok hg ht he hs)) fun D σ H q => by
  obtain ⟨φ, ρ, h, rh, ts, p⟩ := q
  have pE := PostE.intoS (Q' := fun v H' => D.nx (σ.set j (some v)) H') ts p fun d h' φ' H' v b t p' => p' φ' H' _ (Bh.refl b.rh) ((b.trS ts).set t j)
  unfold mLc at pE
  have nb : mD f i ρ h ≠ .bad := fun e => by rw [e] at pE; exact pE
  obtain ⟨m, kvs, o, hv, hm, ho', er⟩ := mD_of rfl nb
  rw [er] at pE
  simp only [Res.bind_ok] at pE
  rw [ho]
  split at pE
  · exact (show False from pE).elim
  · rename_i hl
    rcases ho' with rfl | rfl
    · obtain ⟨d, hd, oa⟩ := rh.addr hm
      obtain ⟨u, e, dr⟩ := oa.dict_of
      refine .inl ⟨d, u, e, dr.no.2.2, fun od => ?_⟩
      obtain ⟨k, rh'⟩ := rh.lock hd e dr od
      exact lcD_in jd rh' (ts.up (List.prefix_refl _) k) hv hd upd_same (dr.up (List.prefix_refl _) k) (by omega) (PostE.locked od hd e dr pE)
    · obtain ⟨d, hd, oa⟩ := rh.addr hm
      obtain ⟨od, u, e, dr⟩ := oa.ldict_of
      have q := PostE.still hd e dr pE
      rw [show locked ⟨kvs.map f, [], some (m, .ldict kvs)⟩ h = h from set_same hm] at q
      exact .inr (lcD_in jd rh ts hv hd e dr (by omega) q)
end
end Y

set_option Elab.async false
set_option linter.all false
set_option maxRecDepth 100000
set_option maxHeartbeats 1000000
/-! Statements. -/
namespace Y
open PySem PySem.Spec PyProof.Rows L2

section
variable {X : Cx} {W : WX} {e tg c o i : Expr} {me mo mi : ME} {ma : MA} {mt : MT} {t : T} {pos : Pos} {ms mr : MS} {st : Stmt} {a b : List Stmt}
theorem cs_nil : PSs X [] (RSt X W fun ρ h => .nx ρ h) := PSs.imp pss_nil fun D σ H q => by
  obtain ⟨φ, ρ, h, rh, ts, p⟩ := q
  exact p φ H σ (Bh.refl rh) ts
theorem cs_cons (h1 : PS X st (RSt X W ms)) (h2 : PSs X a (RSt X W mr)) : PSs X (st :: a) (RSt X W fun ρ h => (ms ρ h).seq mr) := PSs.imp (pss_cons h1 h2) fun D σ H q => by
  obtain ⟨φ, ρ, h, rh, ts, p⟩ := q
  dsimp only at p
  refine ⟨φ, ρ, h, rh, ts, ?_⟩
  cases hm : ms ρ h with
  | nx ρ' h' => rw [hm] at p; exact fun φ' H' σ' b t => ⟨φ', ρ', h', b.rh, t, PostS.on b p⟩
  | rt d h' => rw [hm] at p; exact p
  | bk ρ' h' => rw [hm] at p; exact p
  | ct ρ' h' => rw [hm] at p; exact p
  | ex c fs ρ' h' => rw [hm] at p; exact p
  | bad => rw [hm] at p; exact p
theorem cs_bad : PS X st (RSt X W fun _ _ => .bad) := ⟨fun _ _ _ _ _ _ ⟨_, _, _, _, _, p⟩ => (show False from p).elim⟩
theorem ce_bad : PE X e (RE X W fun _ _ => .bad) := ⟨fun _ _ _ _ _ _ ⟨_, _, _, _, _, p⟩ => (show False from p).elim⟩
theorem ct_bad : PT X e (RT X W fun _ _ => .bad) := ⟨fun _ _ _ _ _ _ ⟨_, _, _, _, _, p⟩ => (show False from p).elim⟩
theorem ci_bad : PI X tg e (RI X W fun _ _ => .bad) := ⟨fun _ _ _ _ _ _ ⟨_, _, _, _, _, p⟩ => (show False from p).elim⟩
theorem c_pss : PS X (.Pass pos) (RSt X W fun ρ h => .nx ρ h) := PS.imp ps_pass fun D σ H q => by
  obtain ⟨φ, ρ, h, rh, ts, p⟩ := q
  exact p φ H σ (Bh.refl rh) ts
theorem c_brk : PS X (.Break pos) (RSt X W fun ρ h => .bk ρ h) := PS.imp ps_break fun D σ H q => by
  obtain ⟨φ, ρ, h, rh, ts, p⟩ := q
  exact p φ H σ (Bh.refl rh) ts
theorem c_cnt : PS X (.Continue pos) (RSt X W fun ρ h => .ct ρ h) := PS.imp ps_continue fun D σ H q => by
  obtain ⟨φ, ρ, h, rh, ts, p⟩ := q
  exact p φ H σ (Bh.refl rh) ts
theorem c_ret (he : PE X e (RE X W me)) : PS X (.Return (some e) pos) (RSt X W fun ρ h => (me ρ h).into ρ fun d h => .rt d h) := PS.imp (ps_ret he) fun D σ H q => by
  obtain ⟨φ, ρ, h, rh, ts, p⟩ := q
  exact ⟨φ, ρ, h, rh, ts, PostE.intoS ts p fun d h' φ' H' v b t p' => p' φ' H' v (Bh.refl b.rh) t⟩
theorem c_retN : PS X (.Return none pos) (RSt X W fun _ h => .rt .non h) := PS.imp ps_retN fun D σ H q => by
  obtain ⟨φ, ρ, h, rh, ts, p⟩ := q
  exact p φ H .non (Bh.refl rh) .non
theorem c_ex (he : PE X e (RE X W me)) (hs : swapsWith e none pos.line X.env = pure false) : PS X (.Expr e pos) (RSt X W fun ρ h => (me ρ h).into ρ fun _ h => .nx ρ h) := PS.imp (ps_expr he hs) fun D σ H q => by
  obtain ⟨φ, ρ, h, rh, ts, p⟩ := q
  exact ⟨φ, ρ, h, rh, ts, PostE.intoS ts p fun d h' φ' H' v b t p' => p' φ' H' σ (Bh.refl b.rh) (b.trS ts)⟩
theorem c_iff (hc : PT X c (RT X W mt)) (ha : PSs X a (RSt X W ms)) (hb : PSs X b (RSt X W mr)) : PS X (.If c a b pos) (RSt X W fun ρ h => (mt ρ h).into ρ fun t h => if t then ms ρ h else mr ρ h) := PS.imp (ps_if hc ha hb) fun D σ H q => by
  obtain ⟨φ, ρ, h, rh, ts, p⟩ := q
  refine ⟨φ, ρ, h, rh, ts, PostT.intoS ts p fun d h' φ' H' b p' => ?_⟩
  cases d with
  | true => rw [if_pos rfl] at p' ⊢; exact ⟨φ', ρ, h', b.rh, b.trS ts, p'⟩
  | false => rw [if_neg (by decide)] at p' ⊢; exact ⟨φ', ρ, h', b.rh, b.trS ts, p'⟩
/-- a store -/
def mAsg (t : T) (me : ME) : MS := fun ρ h => (me ρ h).into ρ fun d h => match bindT t d ρ h with
  | some ρ' => .nx ρ' h
  | none => .bad
theorem c_asg (he : PE X e (RE X W me)) (hg : PG X tg (RG X t)) (hs : swapsWithSole [tg] e pos.line X.env = pure false) (hw : swappedStores [tg] e X.env = pure none) (h1 : (assignEach [tg] X.env).map (·.2) = [assign tg X.env]) :
    PS X (.Assign [tg] e pos) (RSt X W (mAsg t me)) := PS.imp (ps_asg he hg hs hw h1) fun D σ H q => by
  obtain ⟨φ, ρ, h, rh, ts, p⟩ := q
  refine ⟨φ, ρ, h, rh, ts, PostE.intoS ts p fun d h' φ' H' v b tv p' => ?_⟩
  split at p'
  · rename_i ρ' eb
    exact ⟨φ', ρ, h', d, ρ', b.rh, b.trS ts, tv, eb, fun σ' ts' _ _ => p' φ' H' σ' (Bh.refl b.rh) ts'⟩
  · exact (show False from p').elim
theorem PostA.intoS' {K : Fg} {mg : Nm} {φ : List Addr} {H : L2.Hp} {r : Res (List Y.D)} {ρ : Y.Env} {σ : L2.St} {f : Y.D → Y.Hp → RS} {W : WX} {D : Ends} {Q' : List V → L2.Hp → Prop} (s : TrS K φ H ρ σ) (p : PostS K mg φ H ((r.bind fun ds h => .ok (.tup ds) h).into ρ f) W D)
    (hq : ∀ d h' φ' H' v, Bh K mg φ H h' φ' H' → TrL K φ' H' d v → PostS K mg φ' H' (f (.tup d) h') W D → Q' v H') : PostA K mg φ H r (fun c d H' => W c d σ H') Q' := by
  cases r with
  | ok d h' => exact fun φ' H' v b t => hq d h' φ' H' v b t (PostS.on b p)
  | exc c fs h' => exact fun φ' H' cls dx b t => p φ' H' σ cls dx b (b.trS s) t
  | bad => exact p
theorem c_par {j k : Nat} {x y : Str} {a b : Expr} {px py pt : Pos} {kt k2 : Nat} {pt2 : Pos} (hc : X.calm = true) (hN : X.N.Nodup) (hi : X.N[j]? = some x) (hj : X.N[k]? = some y) (hij : j ≠ k)
    (hx : X.env.scope.names.lookup x = some .local) (hy : X.env.scope.names.lookup y = some .local) (ha : PA X [a, b] (RA X W ma))
    (hw : swappedStores [.Tuple [.Name x px, .Name y py] kt pt] (.Tuple [a, b] k2 pt2) X.env = pure (some [x, y]))
    (hs : swapsWithSole [.Tuple [.Name x px, .Name y py] kt pt] (.Tuple [a, b] k2 pt2) pos.line X.env = pure false) :
    PS X (.Assign [.Tuple [.Name x px, .Name y py] kt pt] (.Tuple [a, b] k2 pt2) pos) (RSt X W (mAsg (.tp [.nm j, .nm k]) fun ρ h => (ma ρ h).bind fun ds h => .ok (.tup ds) h)) := PS.imp (ps_par hc hN hi hj hij hx hy ha hw hs) fun D σ H q => by
  obtain ⟨φ, ρ, h, rh, ts, p⟩ := q
  refine ⟨φ, ρ, h, rh, ts, PostA.intoS' ts p fun ds h' φ' H' vs b tl p' => ?_⟩
  cases tl with
  | nil => exact (show False from p').elim
  | cons t1 r => cases r with
    | nil => exact (show False from p').elim
    | cons t2 r => cases r with
      | nil => exact ⟨_, _, rfl, p' φ' H' _ (Bh.refl b.rh) (((b.trS ts).set t1 j).set t2 k)⟩
      | cons t3 r => exact (show False from p').elim
theorem c_par3 {j k l : Nat} {x y z : Str} {a b c : Expr} {px py pz pt : Pos} {kt k2 : Nat} {pt2 : Pos} (hc : X.calm = true) (hN : X.N.Nodup) (hi : X.N[j]? = some x) (hj : X.N[k]? = some y) (hl : X.N[l]? = some z) (hij : j ≠ k) (hil : j ≠ l) (hjl : k ≠ l)
    (hx : X.env.scope.names.lookup x = some .local) (hy : X.env.scope.names.lookup y = some .local) (hz : X.env.scope.names.lookup z = some .local) (ha : PA X [a, b, c] (RA X W ma))
    (hw : swappedStores [.Tuple [.Name x px, .Name y py, .Name z pz] kt pt] (.Tuple [a, b, c] k2 pt2) X.env = pure (some [x, y, z]))
    (hs : swapsWithSole [.Tuple [.Name x px, .Name y py, .Name z pz] kt pt] (.Tuple [a, b, c] k2 pt2) pos.line X.env = pure false) :
    PS X (.Assign [.Tuple [.Name x px, .Name y py, .Name z pz] kt pt] (.Tuple [a, b, c] k2 pt2) pos) (RSt X W (mAsg (.tp [.nm j, .nm k, .nm l]) fun ρ h => (ma ρ h).bind fun ds h => .ok (.tup ds) h)) := PS.imp (ps_par3 hc hN hi hj hl hij hil hjl hx hy hz ha hw hs) fun D σ H q => by
  obtain ⟨φ, ρ, h, rh, ts, p⟩ := q
  refine ⟨φ, ρ, h, rh, ts, PostA.intoS' ts p fun ds h' φ' H' vs b tl p' => ?_⟩
  cases tl with
  | nil => exact (show False from p').elim
  | cons t1 r => cases r with
    | nil => exact (show False from p').elim
    | cons t2 r => cases r with
      | nil => exact (show False from p').elim
      | cons t3 r => cases r with
        | nil => exact ⟨_, _, _, rfl, p' φ' H' _ (Bh.refl b.rh) ((((b.trS ts).set t1 j).set t2 k).set t3 l)⟩
        | cons t4 r => exact (show False from p').elim
/-- a[b] = e -/
theorem c_sto {spos : Pos} (hu : X.A.units + 64 < cLine) (ho : PE X o (RE X W mo)) (hi : PE X i (RE X W mi)) (he : PE X e (RE X W me))
    (ha : ∀ v, assign (.Subscript o i spos) X.env v = (do
      let ov ← holding [v] (eval o X.env)
      let iv ← holding [v, ov] (eval i X.env)
      standAt spos
      holding [v, ov, iv] (setItem ov iv v)
      release [v, ov, iv] [])) (hs : swapsWithSole [.Subscript o i spos] e pos.line X.env = pure false) (hw : swappedStores [.Subscript o i spos] e X.env = pure none) (h1 : (assignEach [.Subscript o i spos] X.env).map (·.2) = [assign (.Subscript o i spos) X.env]) :
    PS X (.Assign [.Subscript o i spos] e pos) (RSt X W fun ρ h => ((me ρ h).bind fun d h => (mo ρ h).bind fun x h => (mi ρ h).bind fun y h => match store x y d h with
      | some h' => .ok () h'
      | none => .bad).into ρ fun _ h => .nx ρ h) := PS.imp (ps_asg he (pg_sub ho hi (set_m hu) ha) hs hw h1) fun D σ H q => by
  obtain ⟨φ, ρ, h, rh, ts, p⟩ := q
  dsimp only at p
  refine ⟨φ, ρ, h, rh, ts, ?_⟩
  cases h1 : me ρ h with
  | ok d h' =>
    rw [h1] at p
    intro φ' H' v b tv
    have p1 := PostS.on b p
    refine ⟨φ', ρ, h', b.rh, b.trS ts, ?_⟩
    simp only [Res.bind_ok] at p1
    cases h2 : mo ρ h' with
    | ok x h2' =>
      rw [h2] at p1
      intro φ2 H2 v2 b2 tv2
      have p2 := PostS.on b2 p1
      refine ⟨φ2, ρ, h2', b2.rh, b2.trS (b.trS ts), ?_⟩
      simp only [Res.bind_ok] at p2
      cases h3 : mi ρ h2' with
      | ok y h3' =>
        rw [h3] at p2
        intro φ3 H3 v3 b3 tv3
        have p3 := PostS.on b3 p2
        simp only [Res.bind_ok] at p3
        cases h4 : store x y d h3' with
        | some h4' =>
          rw [h4] at p3
          exact ⟨φ3, h3', x, y, d, h4', b3.rh, b3.tr tv2, tv3, b3.tr (b2.tr tv), h4, fun H4 b4 => p3 φ3 H4 σ b4 (b4.trS (b3.trS (b2.trS (b.trS ts))))⟩
        | none => rw [h4] at p3; exact (show False from p3).elim
      | exc c fs h3' => rw [h3] at p2; exact fun φ3 H3 cls dx b3 er => p2 φ3 H3 σ cls dx b3 (b3.trS (b2.trS (b.trS ts))) er
      | bad => rw [h3] at p2; exact p2
    | exc c fs h2' => rw [h2] at p1; exact fun φ3 H3 cls dx b3 er => p1 φ3 H3 σ cls dx b3 (b3.trS (b.trS ts)) er
    | bad => rw [h2] at p1; exact p1
  | exc c fs h' => rw [h1] at p; exact fun φ3 H3 cls dx b3 er => p φ3 H3 σ cls dx b3 (b3.trS ts) er
  | bad => rw [h1] at p; exact p
/-- i op= e, ints -/
def RIp (o : Op) : TIp := fun x y H Q => ∃ i j k, x = .int i ∧ y = .int j ∧ binop o (.int i) (.int j) [] = .ok (.int k) [] ∧ Q (.int k) H
theorem ip_add_m : PIp X .Add (RIp .add) := fun pins s σ H x y v u Q I r1 r2 h => by
  obtain ⟨i, j, k, e1, e2, e3, q⟩ := h
  refine ip_add pins s σ H x y v u Q I r1 r2 ⟨i, j, e1, e2, ?_⟩
  simp only [binop] at e3
  cases e3; exact q
theorem ip_sub_m : PIp X .Sub (RIp .sub) := fun pins s σ H x y v u Q I r1 r2 h => by
  obtain ⟨i, j, k, e1, e2, e3, q⟩ := h
  refine ip_sub pins s σ H x y v u Q I r1 r2 ⟨i, j, e1, e2, ?_⟩
  simp only [binop] at e3
  cases e3; exact q
theorem ip_mul_m : PIp X .Mult (RIp .mul) := fun pins s σ H x y v u Q I r1 r2 h => by
  obtain ⟨i, j, k, rfl, rfl, e3, q⟩ := h
  obtain ⟨t, rfl⟩ := r1
  obtain ⟨t', rfl⟩ := r2
  simp only [binop] at e3
  split at e3
  · rename_i hm
    cases e3
    exact imul_int ⟨.int _, H, I.tok _, ⟨_, rfl⟩, q⟩ (mulOk_wide hm)
  · cases e3
theorem binop_int {o : Op} {i j : Int} {h h' : Y.Hp} {d : Y.D} (e : binop o (.int i) (.int j) h = .ok d h') : ∃ k, d = .int k ∧ h' = h ∧ binop o (.int i) (.int j) [] = .ok (.int k) [] := by
  cases o <;> simp only [binop] at e ⊢
  case add => cases e; exact ⟨_, rfl, rfl, rfl⟩
  case sub => cases e; exact ⟨_, rfl, rfl, rfl⟩
  all_goals
    split at e
    · rename_i hc
      cases e
      exact ⟨_, rfl, rfl, by rw [if_pos hc]⟩
    · cases e
theorem c_aug {j : Nat} {x : Str} {op : Operator} {oo : Op} {pos' : Pos} (hN : X.N.Nodup) (hi : X.N[j]? = some x) (hx : Loc X.env.scope x) (he : PE X e (RE X W me)) (ho : PIp X op (RIp oo)) (hf : X.fn x = true ∨ X.env.scope.names.lookup x = some .local) :
    PS X (.AugAssign (.Name x pos') op e pos) (RSt X W fun ρ h => match ρ[j]? with
      | some (some (.int x)) => (me ρ h).into ρ fun y h => match y with
        | .int k => match binop oo (.int x) (.int k) h with
          | .ok d h => .nx (ρ.set j (some d)) h
          | _ => .bad
        | _ => .bad
      | _ => .bad) := PS.imp (ps_aug hN hi hx he ho hf) fun D σ H q => by
  obtain ⟨φ, ρ, h, rh, ts, p⟩ := q
  dsimp only at p
  split at p
  · rename_i n en
    obtain ⟨v, ev, tv⟩ := ts.at_ j _ en
    obtain rfl := tv.of_int
    refine ⟨_, ev, φ, ρ, h, rh, ts, PostE.intoS ts p fun d h' φ' H' v b t p' => ?_⟩
    cases d with
    | int k =>
      obtain rfl := t.of_int
      dsimp only at p'
      split at p'
      · rename_i d2 h2 e2
        obtain ⟨r, rfl, rfl, e3⟩ := binop_int e2
        exact ⟨_, _, _, rfl, rfl, e3, p' φ' H' _ (Bh.refl b.rh) ((b.trS ts).set (.int _) j)⟩
      · exact (show False from p').elim
    | _ => exact (show False from p').elim
  · exact (show False from p).elim
end
end Y

set_option Elab.async false
set_option linter.all false
set_option maxRecDepth 100000
set_option maxHeartbeats 1000000
/-! list, tuple of what is walked; a dict's values. -/
namespace Y
open PySem PySem.Spec PyProof.Rows L2 RT RZ

section
variable {X : Cx} {W : WX} {e e2 a c : Expr} {me m2 : ME} {pos pos2 p p2 apos cpos : Pos}
theorem rgV_tr {K : Fg} {φ : List Addr} {H : L2.Hp} : ∀ (n : Nat) (lo : Int), TrL K φ H (irange lo n) ((List.range n).map fun i => V.int (lo + (i : Nat)))
  | 0, _ => .nil
  | n + 1, lo => by
    rw [List.range_succ_eq_map, List.map_cons, List.map_map, irange]
    refine .cons (by simp; exact .int _) ?_
    have := rgV_tr (K := K) (φ := φ) (H := H) n (lo + 1)
    have e : ((fun i : Nat => V.int (lo + (i : Nat))) ∘ Nat.succ) = fun i : Nat => V.int (lo + 1 + (i : Nat)) := by
      funext i
      simp only [Function.comp, Nat.succ_eq_add_one]
      congr 1
      omega
    rw [e]; exact this
theorem c_lrg1 (hc : X.calm = true) (hg : Gl X "list") (hm : X.mg "list" = none) (hg2 : Gl X "range") (hm2 : X.mg "range" = none) (ha : PE X a (RE X W me)) (na : starEach [a] X.env = (false, eval a X.env) :: starEach [] X.env)
    (nb : starEach [.Call (.Name "range" p2) [a] [] pos2] X.env = (false, eval (.Call (.Name "range" p2) [a] [] pos2) X.env) :: starEach [] X.env) :
    PE X (.Call (.Name "list" p) [.Call (.Name "range" p2) [a] [] pos2] [] pos) (RE X W fun ρ h => ((me ρ h).bind fun x h => ofO (range1 x) h).bind fun s h => new (.lst s.ds) h) := PE.imp (pe_listRg hc hg hm (prg_1 hg2 hm2 ha na) nb) fun σ H Q q => by
  obtain ⟨φ, ρ, h, rh, ts, p⟩ := q
  dsimp only at p
  refine ⟨φ, ρ, h, rh, ts, ?_⟩
  cases hm : me ρ h with
  | ok d h' =>
    rw [hm] at p
    intro φ' H' v b t
    have p1 := PostE.on b p
    cases d with
    | int n =>
      obtain rfl := t.of_int
      simp only [Res.bind_ok, range1] at p1
      split at p1
      · rename_i hcc
        simp only [Bool.and_eq_true, decide_eq_true_eq] at hcc
        have hl : line = 16777216 := rfl
        refine ⟨n, rfl, ⟨by omega, by omega, by omega, by omega, by omega⟩, fun q hq => ?_⟩
        have e : rgV 0 n = (List.range n.toNat).map fun i => V.int (0 + (i : Nat)) := by unfold rgV; rw [Int.sub_zero]
        simp only [ofO_some, Res.bind_ok] at p1
        exact p1.made b.rh hq (new_lst b.rh hq (by rw [e]; exact rgV_tr _ _))
      · exact (show False from p1).elim
    | _ => exact (show False from p1).elim
  | exc cc fs h' => rw [hm] at p; exact p
  | bad => rw [hm] at p; exact p
theorem c_lrg2 (hc : X.calm = true) (hg : Gl X "list") (hm : X.mg "list" = none) (hg2 : Gl X "range") (hm2 : X.mg "range" = none) (ha : PE X a (RE X W me)) (hb : PE X c (RE X W m2)) (na : starEach [a, c] X.env = (false, eval a X.env) :: starEach [c] X.env) (na2 : starEach [c] X.env = (false, eval c X.env) :: starEach [] X.env)
    (hpl : (backTo pos2 (starEach [c] X.env)).any (·.1) = false) (nb : starEach [.Call (.Name "range" p2) [a, c] [] pos2] X.env = (false, eval (.Call (.Name "range" p2) [a, c] [] pos2) X.env) :: starEach [] X.env) :
    PE X (.Call (.Name "list" p) [.Call (.Name "range" p2) [a, c] [] pos2] [] pos) (RE X W fun ρ h => ((me ρ h).bind fun x h => (m2 ρ h).bind fun y h => ofO (range2 x y) h).bind fun s h => new (.lst s.ds) h) := PE.imp (pe_listRg hc hg hm (prg_2 hg2 hm2 ha hb na na2 hpl) nb) fun σ H Q q => by
  obtain ⟨φ, ρ, h, rh, ts, p⟩ := q
  dsimp only at p
  refine ⟨φ, ρ, h, rh, ts, ?_⟩
  cases hm : me ρ h with
  | ok d h' =>
    rw [hm] at p
    intro φ' H' v b t
    have p1 := PostE.on b p
    refine ⟨φ', ρ, h', b.rh, b.trS ts, ?_⟩
    simp only [Res.bind_ok] at p1
    cases hm2 : m2 ρ h' with
    | ok d2 h2 =>
      rw [hm2] at p1
      intro φ2 H2 v2 b2 t2
      have p2 := PostE.on b2 p1
      simp only [Res.bind_ok] at p2
      unfold range2 at p2
      have t1 := b2.tr t
      split at p2
      · obtain rfl := t1.of_int
        obtain rfl := t2.of_int
        rename_i i j
        split at p2
        · rename_i hcc
          simp only [Bool.and_eq_true, decide_eq_true_eq] at hcc
          have hl : line = 16777216 := rfl
          refine ⟨i, j, rfl, rfl, ⟨by omega, by omega, by omega, by omega, by omega⟩, fun q hq => ?_⟩
          simp only [ofO_some, Res.bind_ok] at p2
          exact p2.made b2.rh hq (new_lst b2.rh hq (rgV_tr _ _))
        · exact (show False from p2).elim
      · exact (show False from p2).elim
    | exc cc fs h' => rw [hm2] at p1; exact p1
    | bad => rw [hm2] at p1; exact p1
  | exc cc fs h' => rw [hm] at p; exact p
  | bad => rw [hm] at p; exact p
/-- tuple(reversed(x)), x a list -/
theorem c_trev (hc : X.calm = true) (hg : Gl X "tuple") (hm : X.mg "tuple" = none) (hg2 : Gl X "reversed") (hm2 : X.mg "reversed" = none) (he : PE X e (RE X W me)) (hs : starEach [e] X.env = (false, eval e X.env) :: starEach [] X.env)
    (hs2 : starEach [.Call (.Name "reversed" p2) [e] [] pos2] X.env = (false, eval (.Call (.Name "reversed" p2) [e] [] pos2) X.env) :: starEach [] X.env) :
    PE X (.Call (.Name "tuple" p) [.Call (.Name "reversed" p2) [e] [] pos2] [] pos) (RE X W fun ρ h => (me ρ h).bind fun x h => match list? x h with
      | some xs => .ok (.tup xs.reverse) h
      | none => .bad) := PE.imp (RT.pe_tupRev hc hg hm hg2 hm2 he hs hs2) fun σ H Q q => by
  obtain ⟨φ, ρ, h, rh, ts, p⟩ := q
  refine ⟨φ, ρ, h, rh, ts, PostE.bindE p fun d h' φ' H' v b t p' => ?_⟩
  split at p'
  · rename_i xs ex
    obtain ⟨a, ys, rfl, sq, tl⟩ := list_tr b.rh t ex
    exact ⟨a, ys, rfl, sq, fun q hq => p'.beside b.rh hq (.tup (.of upd_same) (tl.reverse.up (List.prefix_refl _) (.new hq)))⟩
  · exact (show False from p').elim

/-! ### a dict's values, as a view -/
def vwO (p d : Addr) : HO := .ext fun h => h.get? p = some { cls := .type "dict_values", data := .fields #[.ref d] }
theorem raw_rd {pins : List (Addr × Obj)} {σ : L2.St} {H : L2.Hp} {s : Shared} {φ : List Addr} {d : Addr} {u : HO} (I : Inv X pins σ H s) (r : Rd H d u) {kvs : List (D × D)} (dr : DR X.K (nm X) φ H d kvs u) :
    (d == sysModules) = false ∧ ∃ es ep xs, s.heap.DictRaw d es ep ∧ es.size = xs.length ∧ (∀ i (hi : i < es.size) p, xs[i]? = some p → RelV p.1 es[i].key ∧ RelV p.2 es[i].val) ∧ XR X.K φ H kvs xs ∧ xs.length ≤ sizeLine := by
  have ok := r.ok I.hok
  cases dr with
  | k pr =>
    obtain ⟨z, n, vs, rel, dd⟩ := ok
    obtain ⟨es', ep', hraw, hs', he'⟩ := Heap.DictOf.raw (knd := mixKind X.prog X.w) dd
    have hl : _ = vs.length := Paired.length rel
    refine ⟨n, es', ep', _, hraw, by rw [List.length_map, hs', hl], fun i hi p hp => ?_, xr_k pr, by rw [List.length_map]; exact z⟩
    rw [List.getElem?_map, Option.map_eq_some_iff] at hp
    obtain ⟨⟨k, v⟩, hk, rfl⟩ := hp
    obtain ⟨w, hw, rw'⟩ := kv_get rel hk
    obtain ⟨q1, q2⟩ := he' i hi k w hw
    exact ⟨relV_key (show keyIs k _ = true from q1), by rw [q2]; exact rw'⟩
  | t n l pr =>
    obtain ⟨⟨o', es, ep, ho', hx, hdt, he, hn⟩, _⟩ := ok
    obtain ⟨xs, h1, h2⟩ := xr_t pr
    have hs := size_of_entries he
    refine ⟨n, es, ep, xs, ⟨o', ho', hx, hdt⟩, by rw [hs, Paired.length h2], fun i hi p hp => ?_, h1, by rw [← Paired.length h1]; exact l⟩
    obtain ⟨y, hy, r1, r2⟩ := paired_get h2 hp
    have q := entry_at he i
    rw [Array.getElem?_eq_getElem hi, hy, Option.map_some] at q
    have q' := Option.some.inj q
    rw [q']
    exact ⟨by rw [r1]; rfl, r2⟩
/-- the view is made -/
def tVw (X : Cx) (td : TE) : TE := fun σ H Q => td σ H fun x H1 => ∃ d u φ kvs, x = .ref d ∧ Rd H1 d u ∧ DR X.K (nm X) φ H1 d kvs u ∧ ∀ p, H1 p = none → Q (.ref p) (upd H1 p (vwO p d))
theorem pe_vw {td : TE} (he : PE X e td) (hbase : attributeBase e "values" X.env (eval e X.env) = eval e X.env) (hline : (apos.endLine == cpos.line) = true) : PE X (.Call (.Attribute e "values" apos) [] [] cpos) (tVw X td) := by
  refine ⟨fun pins s σ H Q I h => ?_⟩
  refine wpAny_Call_method (T := "dict") (id := "dict.values") hbase rfl hline PySem.F.plainAttrs_dict PySem.F.slot_dict_values PySem.F.type_dict_values (thn (he.run pins s σ H _ I h) fun u s1 ⟨x, H1, I1, rx, d, uu, φ, kvs, ex, rd, dr, q⟩ => ?_)
  subst ex
  obtain rfl : u = Value.ref d := rx
  obtain ⟨n, es, ep, xs, hm, hsz, hr, xr, _⟩ := raw_rd I1 rd dr
  obtain ⟨o, hg, hx, hdt⟩ := id hm
  refine ⟨hm.typeIs, fun a ea => ⟨o, by cases ea; exact hg, hx.2.1⟩, ?_⟩
  have I2 : Inv X pins σ (upd H1 s1.heap.objs.size (vwO s1.heap.objs.size d)) { s1 with heap := s1.heap.push { cls := .type "dict_values", data := .fields #[.ref d] } } :=
    I1.laid (t' := s1.toks) (fun b ob q => Heap.get?_push_of_some _ q) (Nat.le_refl _) ⟨Heap.get?_push_size _ rfl, ⟨_, Heap.get?_push_size _ rfl⟩, fun h1 h2 e k => k _ e⟩
  show wpAny _ _ (callWith cpos (.builtin "dict.values") [.ref d] [] []) _ X.xe s1
  exact method_meetsIn PySem.F.slot_dict_values PySem.F.entry_dict_values rfl (PySem.evalArgs_none ⟨rfl, hm.typeIs, PySem.F.args_dict_values_1 _, _, meets_dict_values_raw d n, ⟨es, ep, hm⟩, .ref s1.heap.objs.size, _, I2, rfl, q _ (I1.hok.fresh (Nat.le_refl _))⟩)
theorem preSum_sum : ∀ (ns : List Int), preSum (fun i => ns.getD i 0) ns.length = ns.sum := by
  have key : ∀ (ns : List Int) (j : Nat), j ≤ ns.length → preSum (fun i => ns.getD i 0) j = (ns.take j).sum := by
    intro ns j
    induction j with
    | zero => intro _; simp [preSum]
    | succ j ih =>
      intro h
      have hj : j < ns.length := by omega
      have e1 : List.take (j + 1) ns = List.take j ns ++ [ns[j]] := by rw [List.take_add_one, List.getElem?_eq_getElem hj]; rfl
      have e2 : ns.getD j 0 = ns[j] := by rw [List.getD, List.getElem?_eq_getElem hj]; rfl
      rw [preSum, ih (by omega), e1, List.sum_append, e2]
      simp
  intro ns
  rw [key ns _ (Nat.le_refl _), List.take_length]
theorem ints_at {K : Fg} {φ : List Addr} {H : L2.Hp} : ∀ {kvs : List (D × D)} {xs : List (V × V)} {ns : List Int}, XR K φ H kvs xs → intsOf (kvs.map (·.2)) = some ns → ∀ (i : Nat) (p : V × V), xs[i]? = some p → p.2 = .int (ns.getD i 0)
  | [], _, _, .nil, _, _, _, h => by simp at h
  | (k, .int n) :: r, _, _, .cons q t, e, i, p, h => by
    simp only [List.map_cons, intsOf, Option.map_eq_some_iff] at e
    obtain ⟨ns, e1, rfl⟩ := e
    cases i with
    | zero => simp at h; subst h; simp; exact q.2.of_int
    | succ i => simpa using ints_at t e1 i p (by simpa using h)
  | (k, .non) :: _, _, _, .cons _ _, e, _, _, _ => by simp [intsOf] at e
  | (k, .bl _) :: _, _, _, .cons _ _, e, _, _, _ => by simp [intsOf] at e
  | (k, .str _) :: _, _, _, .cons _ _, e, _, _, _ => by simp [intsOf] at e
  | (k, .tup _) :: _, _, _, .cons _ _, e, _, _, _ => by simp [intsOf] at e
  | (k, .ref _) :: _, _, _, .cons _ _, e, _, _, _ => by simp [intsOf] at e
  | (k, .gl _) :: _, _, _, .cons _ _, e, _, _, _ => by simp [intsOf] at e
  | (k, .ty _) :: _, _, _, .cons _ _, e, _, _, _ => by simp [intsOf] at e
theorem intsOf_len : ∀ {ds : List D} {ns : List Int}, intsOf ds = some ns → ns.length = ds.length
  | [], _, e => by cases e; rfl
  | d :: r, ns, e => by
    cases d <;> simp [intsOf] at e
    obtain ⟨m, e1, rfl⟩ := e
    simp [intsOf_len e1]
/-- sum(d.values()), from the view -/
def RSumV (X : Cx) : List V → L2.Hp → VK → Prop := fun vs H Q => ∃ p d u φ kvs ns, vs = [.ref p] ∧ H p = some (vwO p d) ∧ Rd H d u ∧ DR X.K (nm X) φ H d kvs u ∧ intsOf (kvs.map (·.2)) = some ns ∧ Q (.int ns.sum) H
theorem cr_sumV (hc : X.calm = true) : CallR X (.builtin "sum") (RSumV X) := by
  intro pins s σ H xs us Q I r h
  obtain ⟨p, d, u, φ, kvs, ns, rfl, hp, rd, dr, hn, q⟩ := h
  rw [Vals.ref1 r]
  obtain ⟨hv, _, _⟩ := I.hok p _ hp
  obtain ⟨n, es, ep, xs, hm, hsz, hr, xr, _⟩ := raw_rd I rd dr
  have hh := I.ok.hd hc
  have hd : d < s.heap.objs.size := by obtain ⟨o, ho, _⟩ := hm; exact Heap.lt_size ho
  refine call_sum_walkAnyS ?_
  refine wpAny_pyIter_values_raw (d := d) ⟨_, hv, rfl, rfl⟩ hm ?_
  refine ⟨s.heap.objs.size, _, _, _, es.size, _, _, fun i => ns.getD i 0, rfl, (Walks.rawValues (A := X.A.in1) hh s.heap.objs.size d (Nat.ne_of_lt hd) es ep).toS, ⟨⟨_, Heap.get?_push_size _ rfl, rfl, rfl⟩, hm.at fun _ e => Heap.get?_push_of_some _ e⟩, fun b hb => ?_, fun i v hi => ?_, fun s' t' hmv => ?_⟩
  · show b < (s.heap.push _).objs.size
    rw [Heap.size_push]
    rcases List.mem_cons.mp hb with e | hb
    · rw [e]; exact Nat.lt_succ_self _
    · rw [List.mem_singleton.mp hb]; exact Nat.lt_succ_of_lt hd
  · obtain ⟨hi, rfl⟩ := hi
    have hx : i < xs.length := by omega
    have r2 := (hr i hi _ (List.getElem?_eq_getElem hx)).2
    rw [ints_at xr hn i _ (List.getElem?_eq_getElem hx)] at r2
    exact r2
  · have hk : ∀ b o, s.heap.get? b = some o → s'.heap.get? b = some o := fun b o e =>
      hmv.heap b o (fun hI => absurd (Heap.lt_size e) (by rw [List.mem_singleton.mp hI]; exact Nat.lt_irrefl _)) (Heap.get?_push_of_some _ e)
    rw [Moved.eq_with hmv]
    have el : es.size = ns.length := by rw [hsz, intsOf_len hn, List.length_map, Paired.length xr]
    rw [el, preSum_sum]
    exact ⟨.int _, H, I.kept (t' := s'.toks) hk, ⟨_, rfl⟩, q⟩
def mSumV (i : Nat) : ME := fun ρ h => match ρ[i]? with
    | some (some d) => match dict? d h with
      | some (_, kvs, _) => if true then match intsOf (kvs.map (·.2)) with
          | some ns => .ok (.int ns.sum) h
          | none => .bad
        else new (.lst (kvs.map (·.2))) h
      | none => .bad
    | _ => .bad
theorem dict_tr {K : Fg} {mg : Nm} {φ : List Addr} {H : L2.Hp} {h : Y.Hp} {d : D} {v : V} {x : Nat × List (D × D) × Ob} (r : RH K mg φ h H) (t : Tr K φ H d v) (e : dict? d h = some x) : ∃ a u, v = .ref a ∧ Rd H a u ∧ DR K mg φ H a x.2.1 u := by
  cases d with
  | ref n =>
    simp only [dict?] at e
    split at e
    · rename_i kvs e1
      cases e
      obtain ⟨a, rfl, _, oa⟩ := t.obj r e1
      obtain ⟨u, hu, dr⟩ := oa.dict_of
      exact ⟨a, u, rfl, .inl hu, dr⟩
    · rename_i kvs e1
      cases e
      obtain ⟨a, rfl, _, oa⟩ := t.obj r e1
      obtain ⟨ob, u, hu, dr⟩ := oa.ldict_of
      exact ⟨a, u, rfl, .inr ⟨ob, hu⟩, dr⟩
    · cases e
  | _ => cases e
theorem Rd.stay {H : L2.Hp} {a p : Addr} {u o : HO} (r : Rd H a u) (n : H p = none) : Rd (upd H p o) a u := by
  rcases r with r | ⟨ob, r⟩
  · exact .inl (by rw [upd_ne (ne_of_none r n)]; exact r)
  · exact .inr ⟨ob, by rw [upd_ne (ne_of_none r n)]; exact r⟩
theorem c_sumV {i : Nat} (hc : X.calm = true) (hg : Gl X "sum") (hm : X.mg "sum" = none) (he : PE X e (RE X W (mV i))) (hbase : attributeBase e "values" X.env (eval e X.env) = eval e X.env) (hline : (apos.endLine == cpos.line) = true)
    (hs : starEach [.Call (.Attribute e "values" apos) [] [] cpos] X.env = (false, eval (.Call (.Attribute e "values" apos) [] [] cpos) X.env) :: starEach [] X.env) :
    PE X (.Call (.Name "sum" p) [.Call (.Attribute e "values" apos) [] [] cpos] [] pos) (RE X W (mSumV i)) := PE.imp (pe_callB (id := "sum") (cr_sumV hc) hg hm (by rfl) (pa_cons (pe_vw he hbase hline) pa_nil hs) (by decide) (by decide) hs (by rfl)) fun σ H Q q => by
  obtain ⟨φ, ρ, h, rh, ts, p⟩ := q
  unfold mSumV at p
  split at p
  · rename_i d ed
    split at p
    · rename_i m kvs o eo
      rw [if_pos rfl] at p
      split at p
      · rename_i ns en
        refine ⟨φ, ρ, h, rh, ts, ?_⟩
        have em : mV i ρ h = .ok d h := by unfold mV; rw [ed]
        rw [em]
        intro φ' H' v b tv
        obtain ⟨a, u, rfl, rd, dr⟩ := dict_tr b.rh tv eo
        refine ⟨a, u, φ', kvs, rfl, rd, dr, fun q hq => ?_⟩
        have rh2 := b.rh.beside (u := vwO q a) hq
        exact ⟨q, a, u, φ', kvs, ns, rfl, upd_same, Rd.stay rd hq, dr.up (List.prefix_refl _) (.new hq), en, p φ' _ _ (b.trans (.side hq rh2)) (.int _)⟩
      · exact (show False from p).elim
    · exact (show False from p).elim
  · exact (show False from p).elim
end
end Y

set_option Elab.async false
set_option linter.all false
set_option maxRecDepth 100000
set_option maxHeartbeats 1000000
/-! in, isinstance, displays of dicts, x[::-1], fields. -/
namespace Y
open PySem PySem.Spec PyProof.Rows L2 RT RZ

section
variable {X : Cx} {W : WX} {e a c k : Expr} {me m2 : ME} {pos pos2 p p2 apos : Pos}
theorem room8' {A : Around} (hu : A.units + 64 < cLine) : (nestedKind X.prog X.w).room A := by
  show A.units + 8 < cLine
  omega
/-! ### in, not in -/
theorem any_among : ∀ (x : D) (ds : List D), D.pure x = true → D.pureL ds = true → ((pyL ds).any fun z => PyData.eqv z (py x)) = among x ds
  | x, [], _, _ => rfl
  | x, d :: ds, h1, h2 => by
    rw [D.pureL, Bool.and_eq_true] at h2
    rw [pyL, List.any_cons, among, py_eqv d x h2.1 h1, any_among x ds h1 h2.2]
theorem flat_v {K : Fg} {φ : List Addr} {H : L2.Hp} {d : D} {v : V} (t : Tr K φ H d v) (f : flat d = true) : flatV v = true := by
  cases d <;> simp [flat] at f
  · obtain rfl := t.of_non; rfl
  · obtain rfl := t.of_bl; rfl
  · obtain rfl := t.of_int; rfl
  · obtain rfl := t.of_str; rfl
theorem flat_vs {K : Fg} {φ : List Addr} {H : L2.Hp} : ∀ {ds : List D} {vs : List V}, TrL K φ H ds vs → ds.all flat = true → vs.all flatV = true
  | _, _, .nil, _ => rfl
  | _, _, .cons t r, f => by
    rw [List.all_cons, Bool.and_eq_true] at f ⊢
    exact ⟨flat_v t f.1, flat_vs r f.2⟩
theorem eqv_v {K : Fg} {φ : List Addr} {H : L2.Hp} {d x : D} {v u : V} (t : Tr K φ H d v) (t' : Tr K φ H x u) (f : flat d = true) (g : flat x = true) : eqV v u = d.eqv x := by
  cases d <;> simp [flat] at f <;> cases x <;> simp [flat] at g <;> cases t <;> cases t' <;> (first | rfl | (simp only [eqV, D.eqv]; exact Bool.eq_iff_iff.mpr (by simp)))
theorem in_vs {K : Fg} {φ : List Addr} {H : L2.Hp} {x : D} {u : V} (t' : Tr K φ H x u) (g : flat x = true) : ∀ {ds : List D} {vs : List V}, TrL K φ H ds vs → ds.all flat = true → inV u vs = among x ds
  | _, _, .nil, _ => rfl
  | _, _, .cons t r, f => by
    rw [List.all_cons, Bool.and_eq_true] at f
    rw [among, ← in_vs t' g r f.2, ← eqv_v t t' f.1 g]
    rfl
theorem op_in_m (hu : X.A.units + 65 < cLine) : OpR X (compareOp .In) (RCm X.K (nm X) .in_) := by
  intro pins s σ H x y v u Q I rx ry h
  obtain ⟨φ, h, d, e, b, rh, td, te, eq, q⟩ := h
  simp only [Y.compare] at eq
  have hu' : X.A.units + 64 < cLine := by omega
  cases e with
  | ref m =>
    simp only [in?] at eq
    split at eq
    · rename_i kvs e1
      split at eq
      · rename_i hk
        obtain ⟨a, rfl, _, oa⟩ := te.obj rh e1
        obtain ⟨w, hw, dr⟩ := oa.dict_of
        obtain rfl : u = Value.ref a := ry
        cases eq
        exact di_in hu' I (.inl hw) dr hk td rx fun s' I' => ⟨.bl _, H, I', rfl, q⟩
      · cases eq
    · rename_i kvs e1
      split at eq
      · rename_i hk
        obtain ⟨a, rfl, _, oa⟩ := te.obj rh e1
        obtain ⟨ob, w, hw, dr⟩ := oa.ldict_of
        obtain rfl : u = Value.ref a := ry
        cases eq
        exact di_in hu' I (.inr ⟨ob, hw⟩) dr hk td rx fun s' I' => ⟨.bl _, H, I', rfl, q⟩
      · cases eq
    · rename_i as e1
      split at eq
      · rename_i hc
        simp only [Bool.and_eq_true, decide_eq_true_eq] at hc
        obtain ⟨a, rfl, _, oa⟩ := te.obj rh e1
        obtain ⟨xs, hw, tl⟩ := oa.lst_of
        cases eq
        refine op_inD hu pins s σ H x _ v u Q I rx ry ⟨py d, pyL as, dp_of _ _ hc.1.1.1 td, .lst (.of hw) (dp_ofL _ _ hc.1.1.2 tl), shaped_of hc.1.1.1 hc.1.2, shaped_ofL hc.1.1.2 hc.2, ?_⟩
        rw [any_among _ _ hc.1.1.1 hc.1.1.2]
        exact q
      · cases eq
    · cases eq
  | tup as =>
    simp only [in?] at eq
    split at eq
    · rename_i hc
      simp only [Bool.and_eq_true] at hc
      obtain ⟨a, xs, rfl, sq, tl⟩ := te.of_tup
      cases eq
      refine op_in_seq pins s σ H x _ v u Q I rx ry ⟨a, xs, rfl, .inr sq, flat_v td hc.1, flat_vs tl hc.2, ?_⟩
      rw [if_neg (by decide), in_vs td hc.1 tl hc.2]
      exact q
    · cases eq
  | _ => cases eq
theorem op_nin_m (hu : X.A.units + 65 < cLine) : OpR X (compareOp .NotIn) (RCm X.K (nm X) .nin) := by
  intro pins s σ H x y v u Q I rx ry h
  obtain ⟨φ, h, d, e, b, rh, td, te, eq, q⟩ := h
  simp only [Y.compare, Option.map_eq_some_iff] at eq
  obtain ⟨b', eq, rfl⟩ := eq
  have hu' : X.A.units + 64 < cLine := by omega
  cases e with
  | ref m =>
    simp only [in?] at eq
    split at eq
    · rename_i kvs e1
      split at eq
      · rename_i hk
        obtain ⟨a, rfl, _, oa⟩ := te.obj rh e1
        obtain ⟨w, hw, dr⟩ := oa.dict_of
        obtain rfl : u = Value.ref a := ry
        cases eq
        exact di_nin hu' I (.inl hw) dr hk td rx fun s' I' => ⟨.bl _, H, I', rfl, q⟩
      · cases eq
    · rename_i kvs e1
      split at eq
      · rename_i hk
        obtain ⟨a, rfl, _, oa⟩ := te.obj rh e1
        obtain ⟨ob, w, hw, dr⟩ := oa.ldict_of
        obtain rfl : u = Value.ref a := ry
        cases eq
        exact di_nin hu' I (.inr ⟨ob, hw⟩) dr hk td rx fun s' I' => ⟨.bl _, H, I', rfl, q⟩
      · cases eq
    · rename_i as e1
      split at eq
      · rename_i hc
        simp only [Bool.and_eq_true, decide_eq_true_eq] at hc
        obtain ⟨a, rfl, _, oa⟩ := te.obj rh e1
        obtain ⟨xs, hw, tl⟩ := oa.lst_of
        cases eq
        refine op_notInD hu pins s σ H x _ v u Q I rx ry ⟨py d, pyL as, dp_of _ _ hc.1.1.1 td, .lst (.of hw) (dp_ofL _ _ hc.1.1.2 tl), shaped_of hc.1.1.1 hc.1.2, shaped_ofL hc.1.1.2 hc.2, ?_⟩
        rw [any_among _ _ hc.1.1.1 hc.1.1.2]
        exact q
      · cases eq
    · cases eq
  | tup as =>
    simp only [in?] at eq
    split at eq
    · rename_i hc
      simp only [Bool.and_eq_true] at hc
      obtain ⟨a, xs, rfl, sq, tl⟩ := te.of_tup
      cases eq
      refine op_notIn_seq pins s σ H x _ v u Q I rx ry ⟨a, xs, rfl, .inr sq, flat_v td hc.1, flat_vs tl hc.2, ?_⟩
      rw [if_pos rfl, in_vs td hc.1 tl hc.2]
      exact q
    · cases eq
  | _ => cases eq
/-! ### {k: v} -/
theorem c_dict1 {v : Expr} {mk mv : ME} (hu : X.A.units + 64 < cLine) (hk : PE X k (RE X W mk)) (hv : PE X v (RE X W mv)) :
    PE X (.Dict [some k] [v] pos) (RE X W fun ρ h => (mk ρ h).bind fun x h => (mv ρ h).bind fun y h => if keyOk x then new (.dict [(x, y)]) h else .bad) := by
  refine ⟨fun pins s σ H Q I q => ?_⟩
  obtain ⟨φ, ρ, h, rh, ts, p⟩ := q
  dsimp only at p
  have hn := I.hok.fresh (Nat.le_refl s.heap.objs.size)
  generalize hP : s.heap.objs.size = P at hn
  have I1 : Inv X pins σ (upd H P (.dK [])) { s with heap := s.heap.push { cls := .type "dict", data := .dict #[] } } := by
    rw [← hP]
    exact I.laid (a := s.heap.objs.size) (o := .dK []) (t' := s.toks) (fun _ _ q => Heap.get?_push_of_some _ q) (Nat.le_refl _) (dk_empty s.heap I.big)
  have b0 : Bh X.K (nm X) φ H h φ (upd H P (.dK [])) := .side hn (rh.beside hn)
  have nP : P ∉ φ := rh.fresh hn
  have hev : pairTrees [some k] [v] X.env pos = [(eval k X.env, do let x ← eval v X.env; standAt pos; pure x)] := rfl
  -- what the pair's evaluation gives
  have run : ∀ (QQ : List (Value × Value) → Shared → Prop), (∀ (d e : D) (kv vv : V) (ku vu : Value) (h2 : Y.Hp) (φ2 : List Addr) (H2 : L2.Hp) (s2 : Shared), Inv X pins σ H2 s2 → Bh X.K (nm X) φ H h2 φ2 H2 → P ∉ φ2 → H2 P = some (.dK []) → Tr X.K φ2 H2 d kv → RelV kv ku → Tr X.K φ2 H2 e vv → RelV vv vu →
      keyOk d = true → PostE X.K (nm X) φ H (new (.dict [(d, e)]) h2) (fun c d H' => W c d σ H') Q → (∃ ρ' h', mk ρ h = .ok d h' ∧ mv ρ' h' = .ok e h2) → QQ [(ku, vu)] s2) →
      wpAny (model X.prog X.w) X.A (evalPairs (pairTrees [some k] [v] X.env pos)) QQ X.xe { s with heap := s.heap.push { cls := .type "dict", data := .dict #[] } } := by
    intro QQ hQ
    have pp := pps_cons (pos := pos) hk hv pps_nil
    refine thn (pp.run pins _ σ _ (fun ps H2 => ∃ (d e : D) (kv vv : V) (h2 : Y.Hp) (φ2 : List Addr), ps = [(kv, vv)] ∧ Bh X.K (nm X) φ H h2 φ2 H2 ∧ P ∉ φ2 ∧ H2 P = some (.dK []) ∧ Tr X.K φ2 H2 d kv ∧ Tr X.K φ2 H2 e vv ∧ keyOk d = true ∧
      PostE X.K (nm X) φ H (new (.dict [(d, e)]) h2) (fun c d H' => W c d σ H') Q ∧ ∃ ρ' h', mk ρ h = .ok d h' ∧ mv ρ' h' = .ok e h2) I1 ?_) fun ws s2 ⟨ps, H2, I2, rel, d, e, kv, vv, h2, φ2, eps, b2, n2, e2, td, te, ok, p2, ex⟩ => ?_
    · refine ⟨φ, ρ, h, b0.rh, b0.trS ts, ?_⟩
      cases h1 : mk ρ h with
      | ok d h' =>
        rw [h1] at p
        simp only [Res.bind_ok] at p
        intro φ1 H1 kv b1 td
        have o1 := b1.oth P _ nP upd_same
        refine ⟨φ1, ρ, h', b1.rh, b1.trS (b0.trS ts), ?_⟩
        cases h2 : mv ρ h' with
        | ok e h2' =>
          rw [h2] at p
          simp only [Res.bind_ok] at p
          intro φ2 H2 vv b2 te
          have o2 := b2.oth P _ o1.2 o1.1
          split at p
          · rename_i hok
            exact ⟨d, e, kv, vv, h2', φ2, rfl, (b0.trans b1).trans b2, o2.2, o2.1, b2.tr td, te, hok, p, ρ, h', rfl, h2⟩
          · exact (show False from p).elim
        | exc c fs h2' => rw [h2] at p; exact fun φ2 H2 cls dx b2 er => p φ2 H2 cls dx ((b0.trans b1).trans b2) er
        | bad => rw [h2] at p; exact (show False from p).elim
      | exc c fs h' => rw [h1] at p; exact fun φ2 H2 cls dx b2 er => p φ2 H2 cls dx (b0.trans b2) er
      | bad => rw [h1] at p; exact (show False from p).elim
    · subst eps
      cases rel with
      | cons r t =>
        cases t
        exact hQ d e kv vv _ _ h2 φ2 H2 s2 I2 b2 n2 e2 td r.1 te r.2 ok p2 ex
  -- the end
  have fin : ∀ (d e : D) (h2 : Y.Hp) (φ2 : List Addr) (H2 : L2.Hp) (o : HO), Bh X.K (nm X) φ H h2 φ2 H2 → P ∉ φ2 → H2 P = some (.dK []) → DR X.K (nm X) φ2 (upd H2 P o) P [(d, e)] o → PostE X.K (nm X) φ H (new (.dict [(d, e)]) h2) (fun c d H' => W c d σ H') Q → Q (.ref P) (upd H2 P o) := by
    intro d e h2 φ2 H2 o b2 n2 e2 dr p2
    have kk : Keep H2 (upd H2 P o) := .write e2 (fun _ z => by cases z) (fun _ _ z => by cases z)
    refine p2 (φ2 ++ [P]) _ (.ref P) ⟨b2.pre.trans (List.prefix_append _ _), b2.keep.trans kk, fun a u na ha => ?_, ?_⟩ (.ref (by rw [← b2.rh.len, List.getElem?_concat_length]))
    · have ne := ne_of_none ha hn
      refine ⟨by rw [upd_ne ne]; exact (b2.oth a u na ha).1, fun m => ?_⟩
      rcases List.mem_append.mp m with m | m
      · exact (b2.oth a u na ha).2 m
      · exact ne (List.mem_singleton.mp m)
    · exact (b2.rh.same kk fun a ha => upd_ne (show a ≠ P from fun z => n2 (z ▸ ha))).join n2 (.dict upd_same (dr.up (List.prefix_append _ _) (.refl _)))
  by_cases ht : ∃ d h', mk ρ h = .ok d h' ∧ d.isTup = true
  · obtain ⟨d0, h0, em, ht⟩ := ht
    rw [arm_eval_Dict, zip_pairTrees _ _ _ _ rfl rfl, dictDisplay_pairs _ (by rw [hev]; exact List.cons_ne_nil _ _) (by rw [hev]; simp)]
    refine wpAny_bind (wpAny_standAt (wpAny_bind (wpAny_subDictH (knd := nestedKind X.prog X.w) (Q := fun d s' => wpAny (model X.prog X.w) X.A (pure (Value.ref d)) (EP X pins σ Q) X.xe s') (room8' hu) (by rw [hev]; simp) (run _ ?_))))
    intro d e kv vv ku vu h2 φ2 H2 s2 I2 b2 n2 e2 td rk te rv ok p2 ex
    obtain ⟨_, _, em2, _⟩ := ex
    rw [em] at em2
    cases em2
    have dr0 : DR X.K (nm X) φ2 H2 P [] (.dK []) := .k .nil
    obtain ⟨xs, V⟩ := view_t I2 (.inl e2) dr0 (k := d0) (by simp [keyFor, ok]) ht
    obtain rfl : xs = [] := by cases V.pr; rfl
    obtain ⟨q, rfl⟩ : ∃ q, kv = .ref q := by
      cases d0 <;> simp [D.isTup] at ht
      obtain ⟨q, ys, e, s1, _⟩ := td.of_tup
      exact ⟨q, e⟩
    obtain rfl : ku = Value.ref q := rk
    refine ⟨[(nkey d0, q, vu)], ⟨rfl, rfl, kind_of I2 ok td, trivial⟩, by rw [hP]; exact V.at_, fun h' tk dd' hs => wpAny_pure ?_⟩
    rw [hP] at dd' hs ⊢
    obtain ⟨ob, es, ep, g1, g2, g3, g4, _, g5⟩ := dd'
    have K' : Keep H2 (upd H2 P (DictN (nm X) P (storedH [] (nkey d0) q vu))) := DR.keep e2 dr0
    have P' := put_t V.pr (by simp) ok ht td te rv
    have dN : DR X.K (nm X) φ2 (upd H2 P (DictN (nm X) P (storedH [] (nkey d0) q vu))) P [(d0, e)] (DictN (nm X) P (storedH [] (nkey d0) q vu)) :=
      .t V.nos (show 1 ≤ sizeLine by rw [← line_eq]; decide) (L2.Paired.mapP P' fun _ _ r => r.up (List.prefix_refl _) K')
    exact ⟨.ref P, _, d_write (ob := DictN (nm X) P (storedH [] (nkey d0) q vu)) I2 (by rw [e2]; exact True.intro) hs ⟨ob, g1⟩ ⟨⟨ob, es, ep, g1, g2, g3, g4, g5⟩, ⟨ob, g1⟩, fun g1 g2 ⟨ob', es', ep', z1, z2⟩ st => ⟨ob', es', ep', st _ z1, z2⟩⟩, rfl, fin _ _ _ _ _ _ b2 n2 e2 dN p2⟩
  · refine wpAny_Dict_walk (knd := mixKind X.prog X.w) rfl rfl (by simp) (by simp) (run _ ?_)
    intro d e kv vv ku vu h2 φ2 H2 s2 I2 b2 n2 e2 td rk te rv ok p2 ex
    obtain ⟨_, h', em2, _⟩ := ex
    have nt : d.isTup = false := by
      cases q : d.isTup with
      | false => rfl
      | true => exact absurd ⟨d, h', em2, q⟩ ht
    obtain ⟨kk, rfl⟩ := keyOk_scalar ok nt
    obtain rfl := tr_key td
    obtain ⟨z, hd, vs0, r0, dd⟩ := dk_of I2.hok e2
    cases r0
    refine ⟨[(kk, vu)], ⟨kV_is rk, rfl, trivial⟩, by rw [hP]; exact dd, fun h' dd' hs => ?_⟩
    rw [hP] at dd' hs ⊢
    have he : ∃ q, h'.get? P = some q := let ⟨q, _, _, hq, _⟩ := dd'; ⟨q, hq⟩
    have dK : DR X.K (nm X) φ2 (upd H2 P (.dK [(kk, vv)])) P [(keyD kk, e)] (.dK [(kk, vv)]) := .k (.cons ⟨rfl, te.up (List.prefix_refl _) (.write e2 (fun _ z => by cases z) (fun _ _ z => by cases z))⟩ .nil)
    exact ⟨.ref P, _, d_write (ob := .dK [(kk, vv)]) I2 (by rw [e2]; exact True.intro) hs he (dk_new (kvs := [(kk, vv)]) (show 1 ≤ sizeLine by rw [← line_eq]; decide) hd (.cons ⟨rfl, rv⟩ .nil) dd'), rfl, fin _ _ _ _ _ _ b2 n2 e2 dK p2⟩
/-! ### isinstance -/
def tyN (d : D) (h : Y.Hp) : Option String :=
  match d with
  | .non => some "NoneType"
  | .bl _ => some "bool"
  | .int _ => some "int"
  | .str _ => some "str"
  | .tup _ => some "tuple"
  | .ref m =>
    match h[m]? with
    | some (.lst _) => some "list"
    | some (.ro _) => some "list"
    | some (.dict _) => some "dict"
    | some (.ldict _) => some "dict"
    | _ => none
  | _ => none
theorem kit_m {pins : List (Addr × Obj)} {σ : L2.St} {H : L2.Hp} {s : Shared} {φ : List Addr} {h : Y.Hp} {d : D} {v : V} {u : Value} {T : String} (I : Inv X pins σ H s) (rh : RH X.K (nm X) φ h H) (t : Tr X.K φ H d v) (r : RelV v u) (e : tyN d h = some T) :
    ∃ P : Heap → Prop, PySem.W.KitX X.K u (.type T) P ∧ P s.heap ∧ u ≠ .builtin "__main__.__loader__#opaque" := by
  have dct : ∀ {a : Addr} {o : HO} {kvs : List (D × D)}, v = .ref a → Rd H a o → DR X.K (nm X) φ H a kvs o → T = "dict" → ∃ P : Heap → Prop, PySem.W.KitX X.K u (.type T) P ∧ P s.heap ∧ u ≠ .builtin "__main__.__loader__#opaque" := by
    intro a o kvs ev rd dr ek
    subst ev ek
    obtain rfl : u = Value.ref a := r
    obtain ⟨⟨ob, h1, h2⟩, _⟩ := dict_is I rd dr
    exact ⟨_, PySem.W.kitx_dict, ⟨ob, h1, h2⟩, fun z => nomatch z⟩
  cases d with
  | non => cases e; obtain rfl := t.of_non; cases (show u = Value.none from r); exact ⟨_, PySem.W.kitx_none, True.intro, fun z => nomatch z⟩
  | bl b => cases e; obtain rfl := t.of_bl; cases (show u = Value.bool b from r); exact ⟨_, PySem.W.kitx_bool, True.intro, fun z => nomatch z⟩
  | int i => cases e; obtain rfl := t.of_int; obtain ⟨tk, rfl⟩ := (show ∃ t, u = Value.int i t from r); exact ⟨_, PySem.W.kitx_int, True.intro, fun z => nomatch z⟩
  | str i => cases e; obtain rfl := t.of_str; obtain ⟨tk, rfl⟩ := (show ∃ t, u = Value.str i t from r); exact ⟨_, PySem.W.kitx_str, True.intro, fun z => nomatch z⟩
  | tup ds =>
    cases e
    obtain ⟨a, xs, rfl, sq, _⟩ := t.of_tup
    obtain rfl : u = Value.ref a := r
    obtain ⟨its, _, ⟨o, ho, hc, _⟩, _⟩ := I.tuple sq
    exact ⟨_, PySem.W.kitx_tuple, ⟨o, ho, hc⟩, fun z => nomatch z⟩
  | ref n =>
    simp only [tyN] at e
    split at e
    · rename_i e1
      cases e
      obtain ⟨a, rfl, _, oa⟩ := t.obj rh e1
      obtain ⟨xs, ha, _⟩ := oa.lst_of
      obtain rfl : u = Value.ref a := r
      obtain ⟨its, _, pl, _⟩ := I.list (.of ha)
      obtain ⟨o, ho, hc, _⟩ := pl.isList
      exact ⟨_, PySem.W.kitx_list, ⟨o, ho, hc⟩, fun z => nomatch z⟩
    · rename_i e1
      cases e
      obtain ⟨a, rfl, _, oa⟩ := t.obj rh e1
      obtain ⟨ob, xs, ha, _⟩ := oa.ro_of
      obtain rfl : u = Value.ref a := r
      obtain ⟨its, _, pl, _⟩ := I.list (.inl (.inr ⟨_, ha⟩))
      obtain ⟨o, ho, hc, _⟩ := pl.isList
      exact ⟨_, PySem.W.kitx_list, ⟨o, ho, hc⟩, fun z => nomatch z⟩
    · rename_i e1
      cases e
      obtain ⟨a, rfl, _, oa⟩ := t.obj rh e1
      obtain ⟨w, hw, dr⟩ := oa.dict_of
      exact dct rfl (.inl hw) dr rfl
    · rename_i e1
      cases e
      obtain ⟨a, rfl, _, oa⟩ := t.obj rh e1
      obtain ⟨ob, w, hw, dr⟩ := oa.ldict_of
      exact dct rfl (.inr ⟨ob, hw⟩) dr rfl
    · cases e
  | _ => cases e
theorem six_kit {T t : String} {b : Bool} (hT : T ∈ "NoneType" :: six) (ht : t ∈ six) (e : b = (t == T || (t == "int" && T == "bool"))) : PySem.W.kitOne X.K (.type T) (.type t) = some b := by
  subst e
  simp only [six, List.mem_cons, List.mem_nil_iff, or_false] at hT ht
  rcases hT with rfl | rfl | rfl | rfl | rfl | rfl | rfl <;> rcases ht with rfl | rfl | rfl | rfl | rfl | rfl <;> exact kit_ty (by decide +kernel)
theorem isA_ty {d : D} {t : String} {h : Y.Hp} {b : Bool} (e : isA d t h = some b) (ht : t ∈ six) : ∃ T, tyN d h = some T ∧ T ∈ "NoneType" :: six ∧ b = (t == T || (t == "int" && T == "bool")) := by
  have ht' := ht
  simp only [six, List.mem_cons, List.mem_nil_iff, or_false] at ht'
  cases d with
  | non => cases e; exact ⟨_, rfl, by simp [six], by rcases ht' with rfl | rfl | rfl | rfl | rfl | rfl <;> decide⟩
  | bl c => cases e; exact ⟨_, rfl, by simp [six], by rcases ht' with rfl | rfl | rfl | rfl | rfl | rfl <;> decide⟩
  | int i => cases e; exact ⟨_, rfl, by simp [six], by rcases ht' with rfl | rfl | rfl | rfl | rfl | rfl <;> decide⟩
  | str i => cases e; exact ⟨_, rfl, by simp [six], by rcases ht' with rfl | rfl | rfl | rfl | rfl | rfl <;> decide⟩
  | tup ds => cases e; exact ⟨_, rfl, by simp [six], by rcases ht' with rfl | rfl | rfl | rfl | rfl | rfl <;> decide⟩
  | ref n =>
    simp only [isA] at e
    split at e
    · rename_i e1; cases e; exact ⟨"list", by simp [tyN, e1], by simp [six], by rcases ht' with rfl | rfl | rfl | rfl | rfl | rfl <;> decide⟩
    · rename_i e1; cases e; exact ⟨"list", by simp [tyN, e1], by simp [six], by rcases ht' with rfl | rfl | rfl | rfl | rfl | rfl <;> decide⟩
    · rename_i e1; cases e; exact ⟨"dict", by simp [tyN, e1], by simp [six], by rcases ht' with rfl | rfl | rfl | rfl | rfl | rfl <;> decide⟩
    · rename_i e1; cases e; exact ⟨"dict", by simp [tyN, e1], by simp [six], by rcases ht' with rfl | rfl | rfl | rfl | rfl | rfl <;> decide⟩
    · rw [if_pos (by simpa using ht)] at e; cases e
    · cases e
  | _ => cases e
def RIsi (X : Cx) : List V → L2.Hp → VK → Prop := fun xs H Q => ∃ φ h d v t b, xs = [v, .ty t] ∧ RH X.K (nm X) φ h H ∧ Tr X.K φ H d v ∧ isA d t h = some b ∧ t ∈ six ∧ Q (.bl b) H
theorem cr_isi : CallR X (.builtin "isinstance") (RIsi X) := by
  intro pins s σ H xs us Q I r h
  obtain ⟨φ, h, d, v, t, b, rfl, rh, td, e, ht, q⟩ := h
  obtain ⟨u1, u2, rfl, r1, r2⟩ := vals2 r
  cases (show u2 = Value.type t from r2)
  obtain ⟨T, e1, e2, e3⟩ := isA_ty e ht
  obtain ⟨P, Z, p, hx⟩ := kit_m I rh td r1 e1
  exact PySem.W.kia_one Z I.kIn p (six_kit e2 ht e3) hx fun tk => ⟨.bl b, H, I.tok tk, rfl, q⟩
theorem boot_six {t : String} (ht : t ∈ six) : bootBuiltins (Str.ofString t) = some (.type t) ∧ (Str.ofString t ≠ "__name__") ∧ (Str.ofString t == ("__debug__" : Str)) = false := by
  simp only [six, List.mem_cons, List.mem_nil_iff, or_false] at ht
  rcases ht with rfl | rfl | rfl | rfl | rfl | rfl <;> exact ⟨by decide +kernel, by decide +kernel, by decide +kernel⟩
/-- isinstance(e, t) -/
theorem c_isi {t : String} {p3 : Pos} (hg : Gl X "isinstance") (hm : X.mg "isinstance" = none) (ht : t ∈ six) (hg2 : Gl X (Str.ofString t)) (hm2 : X.mg (Str.ofString t) = none) (he : PE X e (RE X W me))
    (hs : starEach [e, .Name (Str.ofString t) p2] X.env = (false, eval e X.env) :: starEach [.Name (Str.ofString t) p2] X.env) (hs2 : starEach [.Name (Str.ofString t) p2] X.env = (false, eval (.Name (Str.ofString t) p2) X.env) :: starEach [] X.env)
    (hpl : (backTo pos (starEach [.Name (Str.ofString t) p2] X.env)).any (·.1) = false) :
    PE X (.Call (.Name "isinstance" p) [e, .Name (Str.ofString t) p2] [] pos) (RE X W fun ρ h => (me ρ h).bind fun x h => match isAny x h [t] with
      | some b => .ok (.bl b) h
      | none => .bad) := PE.imp (pe_callB (id := "isinstance") cr_isi hg hm (by rfl) (pa_cons he (pa_cons (pe_bltn (v := .ty t) hg2 hm2 (boot_six ht).1 rfl (boot_six ht).2.1 (boot_six ht).2.2) pa_nil hs2) hs) (by decide) (by decide) hs hpl) fun σ H Q q => by
  obtain ⟨φ, ρ, h, rh, ts, p⟩ := q
  refine ⟨φ, ρ, h, rh, ts, PostE.bindE p fun d h' φ' H' v b t' p' => ?_⟩
  simp only [isAny] at p'
  cases ea : isA d t h' with
  | some bb =>
    rw [ea] at p'
    simp only [Bool.or_false] at p'
    exact ⟨φ', h', d, v, t, bb, rfl, b.rh, t', ea, ht, p'.here b.rh (.bl bb)⟩
  | none => rw [ea] at p'; exact (show False from p').elim
end
end Y

set_option Elab.async false
set_option linter.all false
set_option maxRecDepth 100000
set_option maxHeartbeats 1000000
/-! isinstance of two kinds, x[::-1], fields. -/
namespace Y
open PySem PySem.Spec PyProof.Rows L2 RT RZ
section
variable {X : Cx} {W : WX} {e a c k : Expr} {me m2 : ME} {pos pos2 p p2 p3 apos : Pos}
theorem kitAny_m {T : String} (hT : T ∈ "NoneType" :: six) : ∀ {ts : List String}, (∀ t ∈ ts, t ∈ six) → PySem.W.kitAny X.K (.type T) (ts.map Value.type) = some (ts.any fun t => t == T || (t == "int" && T == "bool"))
  | [], _ => rfl
  | t :: ts, h => by
    have h1 := six_kit (X := X) hT (h t (List.mem_cons_self ..)) rfl
    have h2 := kitAny_m hT (ts := ts) fun u hu => h u (List.mem_cons_of_mem _ hu)
    rw [List.map_cons, PySem.W.kitAny, h1, List.any_cons]
    cases (t == T || (t == "int" && T == "bool")) with
    | true => rfl
    | false => simpa using h2
theorem isAny_ty {d : D} {h : Y.Hp} : ∀ {ts : List String} {b : Bool}, isAny d h ts = some b → (∀ t ∈ ts, t ∈ six) → ts ≠ [] → ∃ T, tyN d h = some T ∧ T ∈ "NoneType" :: six ∧ b = ts.any fun t => t == T || (t == "int" && T == "bool")
  | [], _, _, _, n => absurd rfl n
  | t :: ts, b, e, ht, _ => by
    simp only [isAny] at e
    cases ea : isA d t h with
    | none => rw [ea] at e; cases e
    | some b1 =>
      rw [ea] at e
      cases eb : isAny d h ts with
      | none => rw [eb] at e; cases e
      | some b2 =>
        rw [eb] at e
        cases e
        obtain ⟨T, h1, h2, h3⟩ := isA_ty ea (ht t (List.mem_cons_self ..))
        cases ts with
        | nil => cases eb; exact ⟨T, h1, h2, by simp [h3]⟩
        | cons u us =>
          obtain ⟨T', g1, g2, g3⟩ := isAny_ty eb (fun v hv => ht v (List.mem_cons_of_mem _ hv)) (by simp)
          rw [h1] at g1
          cases g1
          exact ⟨T, h1, h2, by rw [List.any_cons, h3, g3]⟩
theorem tys_cls : ∀ ts : List String, Paired ClsV (ts.map V.ty) (ts.map Value.type)
  | [] => .nil
  | t :: ts => .cons (.ty t) (tys_cls ts)
def RIsiT (X : Cx) : List V → L2.Hp → VK → Prop := fun xs H Q => ∃ φ h d v tp ts b, xs = [v, .ref tp] ∧ H tp = some (.tup (ts.map V.ty)) ∧ RH X.K (nm X) φ h H ∧ Tr X.K φ H d v ∧ isAny d h ts = some b ∧ (∀ t ∈ ts, t ∈ six) ∧ ts ≠ [] ∧ Q (.bl b) H
theorem cr_isiT : CallR X (.builtin "isinstance") (RIsiT X) := by
  intro pins s σ H xs us Q I r h
  obtain ⟨φ, h, d, v, tp, ts, b, rfl, hT, rh, td, e, ht, hn, q⟩ := h
  obtain ⟨u1, u2, rfl, r1, r2⟩ := vals2 r
  cases (show u2 = Value.ref tp from r2)
  obtain ⟨T, e1, e2, e3⟩ := isAny_ty e ht hn
  obtain ⟨P, Z, p, hx⟩ := kit_m I rh td r1 e1
  obtain ⟨_, its, rv, o, h1, h2, n, h3⟩ := (show ObjOk X.prog X.w H s.heap tp (.tup (ts.map V.ty)) from I.hok tp _ hT)
  have e4 := ClsV.all (tys_cls ts) rv
  subst e4
  obtain ⟨oc, od, dt, sl⟩ := o
  simp only at h2 h3
  subst h2 h3
  exact PySem.W.kia_tup Z I.kIn p h1 (by rw [kitAny_m e2 ht, ← e3]) hx fun tk => ⟨.bl b, H, I.tok tk, rfl, q⟩
theorem c_isiT {t u : String} {kk : Nat} {tpos : Pos} (hg : Gl X "isinstance") (hm : X.mg "isinstance" = none) (ht : t ∈ six) (hu : u ∈ six) (hg2 : Gl X (Str.ofString t)) (hm2 : X.mg (Str.ofString t) = none) (hg3 : Gl X (Str.ofString u)) (hm3 : X.mg (Str.ofString u) = none) (he : PE X e (RE X W me))
    (hs : starEach [e, .Tuple [.Name (Str.ofString t) p2, .Name (Str.ofString u) p3] kk tpos] X.env = (false, eval e X.env) :: starEach [.Tuple [.Name (Str.ofString t) p2, .Name (Str.ofString u) p3] kk tpos] X.env)
    (hs2 : starEach [.Tuple [.Name (Str.ofString t) p2, .Name (Str.ofString u) p3] kk tpos] X.env = (false, eval (.Tuple [.Name (Str.ofString t) p2, .Name (Str.ofString u) p3] kk tpos) X.env) :: starEach [] X.env)
    (hs3 : starEach [.Name (Str.ofString t) p2, .Name (Str.ofString u) p3] X.env = (false, eval (.Name (Str.ofString t) p2) X.env) :: starEach [.Name (Str.ofString u) p3] X.env) (hs4 : starEach [.Name (Str.ofString u) p3] X.env = (false, eval (.Name (Str.ofString u) p3) X.env) :: starEach [] X.env)
    (hpl : (backTo pos (starEach [.Tuple [.Name (Str.ofString t) p2, .Name (Str.ofString u) p3] kk tpos] X.env)).any (·.1) = false) :
    PE X (.Call (.Name "isinstance" p) [e, .Tuple [.Name (Str.ofString t) p2, .Name (Str.ofString u) p3] kk tpos] [] pos) (RE X W fun ρ h => (me ρ h).bind fun x h => match isAny x h [t, u] with
      | some b => .ok (.bl b) h
      | none => .bad) := PE.imp (pe_callB (id := "isinstance") cr_isiT hg hm (by rfl) (pa_cons he (pa_cons (pe_tup (pa_cons (pe_bltn (v := .ty t) hg2 hm2 (boot_six ht).1 rfl (boot_six ht).2.1 (boot_six ht).2.2) (pa_cons (pe_bltn (v := .ty u) hg3 hm3 (boot_six hu).1 rfl (boot_six hu).2.1 (boot_six hu).2.2) pa_nil hs4) hs3)) pa_nil hs2) hs) (by decide) (by decide) hs hpl) fun σ H Q q => by
  obtain ⟨φ, ρ, h, rh, ts, p⟩ := q
  refine ⟨φ, ρ, h, rh, ts, PostE.bindE p fun d h' φ' H' v b t' p' => ⟨by show 2 ≤ sizeLine; decide, fun q hq => ?_⟩⟩
  split at p'
  · rename_i bb ea
    exact ⟨φ', h', d, v, q, [t, u], bb, rfl, upd_same, b.rh.beside hq, t'.up (List.prefix_refl _) (.new hq), ea, by simp [ht, hu], by simp, p'.beside b.rh hq (.bl bb)⟩
  · exact (show False from p').elim
/-! ### x[::-1] -/
theorem c_rev {kk : Nat} {p1 : Pos} (he : PE X e (RE X W me)) : PE X (.Subscript e (.Slice none none (some (.UnaryOp .USub (.Constant (.int 1) kk p1) p2)) p3) pos) (RE X W fun ρ h => (me ρ h).bind fun x h => match list? x h with
      | some xs => new (.lst xs.reverse) h
      | none => .bad) := PE.imp (pe_revL he) fun σ H Q q => by
  obtain ⟨φ, ρ, h, rh, ts, p⟩ := q
  refine ⟨φ, ρ, h, rh, ts, PostE.bindE p fun d h' φ' H' v b t' p' => ?_⟩
  split at p'
  · rename_i xs ex
    obtain ⟨a, ys, rfl, sq, tl⟩ := list_tr b.rh t' ex
    exact ⟨a, ys, rfl, sq, fun q hq => p'.made b.rh hq (new_lst b.rh hq tl.reverse)⟩
  · exact (show False from p').elim
/-! ### fields -/
theorem look_f {K : Fg} {φ : List Addr} {H : L2.Hp} : ∀ {fs : List (String × D)} {xs : List (Str × V)} {f : String} {d : D}, FR K φ H fs xs → (∀ p ∈ fs, Str.ofString p.1 = Str.ofString f → p.1 = f) → lookF fs f = some d → ∃ v, xs.lookup (Str.ofString f) = some v ∧ Tr K φ H d v
  | _, _, _, _, .nil, _, e => by cases e
  | (g, d0) :: fs, (y, v) :: xs, f, d, .cons r t, hi, e => by
    obtain ⟨r1, r2⟩ := r
    simp only at r1 r2
    subst r1
    rw [lookF] at e
    by_cases q : g = f
    · rw [if_pos q] at e
      cases e
      subst q
      exact ⟨v, by simp [List.lookup], r2⟩
    · rw [if_neg q] at e
      obtain ⟨w, h1, h2⟩ := look_f t (fun p hp => hi p (List.mem_cons_of_mem _ hp)) e
      refine ⟨w, ?_, h2⟩
      have : ¬ (Str.ofString f = Str.ofString g) := fun z => q (hi (g, d0) (List.mem_cons_self ..) z.symm)
      have tb : (Str.ofString f == Str.ofString g) = false := beq_eq_false_iff_ne.mpr this
      rw [List.lookup, tb]
      exact h1
end
end Y

set_option Elab.async false
set_option linter.all false
set_option maxRecDepth 100000
set_option maxHeartbeats 1000000
/-! What is left behind a call. -/
namespace Y
open PySem PySem.Spec PyProof.Rows L2

section
variable {K : Fg} {mg : Nm} {φ φ' φ2 : List Addr} {H H' : L2.Hp} {n : Nat}
mutual
theorem Tr.under (e : ∀ m, m < n → φ[m]? = φ2[m]?) : ∀ (d : D) (v : V), Tr K φ H d v → D.under n d = true → Tr K φ2 H d v
  | _, _, .non, _ => .non
  | _, _, .bl b, _ => .bl b
  | _, _, .int i, _ => .int i
  | _, _, .str x, _ => .str x
  | .tup ds, _, .tup s t, u => .tup s (TrL.under e _ _ t (by rw [D.under] at u; exact u))
  | .ref m, _, .ref h, u => .ref (by rw [← e m (by simpa [D.under] using u)]; exact h)
theorem TrL.under (e : ∀ m, m < n → φ[m]? = φ2[m]?) : ∀ (ds : List D) (vs : List V), TrL K φ H ds vs → D.underL n ds = true → TrL K φ2 H ds vs
  | _, _, .nil, _ => .nil
  | d :: ds, _, .cons t r, u => by
    rw [D.underL, Bool.and_eq_true] at u
    exact .cons (Tr.under e _ _ t u.1) (TrL.under e _ _ r u.2)
end
theorem OR.under (e : ∀ m, m < n → φ[m]? = φ2[m]?) {o : Ob} {a : Addr} (r : OR K mg φ H o a) (f : o.flat n = true) : OR K mg φ2 H o a := by
  cases r with
  | lst h t => exact .lst h (TrL.under e _ _ t f)
  | ro h t => exact .ro h (TrL.under e _ _ t f)
  | dict h t =>
    refine .dict h ?_
    rw [Ob.flat, List.all_eq_true] at f
    cases t with
    | k r => exact .k (pr_mem r fun p q m h => ⟨h.1, Tr.under e _ _ h.2 (by have := f p m; rw [Bool.and_eq_true] at this; exact this.2)⟩)
    | t s l r => exact .t s l (pr_mem r fun p q m h => by
        have := f p m; rw [Bool.and_eq_true] at this
        exact ⟨h.1, h.2.1, h.2.2.1, Tr.under e _ _ h.2.2.2.1 this.1, let ⟨v, x, y⟩ := h.2.2.2.2; ⟨v, x, Tr.under e _ _ y this.2⟩⟩)
  | ldict h t =>
    refine .ldict h ?_
    rw [Ob.flat, List.all_eq_true] at f
    cases t with
    | k r => exact .k (pr_mem r fun p q m h => ⟨h.1, Tr.under e _ _ h.2 (by have := f p m; rw [Bool.and_eq_true] at this; exact this.2)⟩)
    | t s l r => exact .t s l (pr_mem r fun p q m h => by
        have := f p m; rw [Bool.and_eq_true] at this
        exact ⟨h.1, h.2.1, h.2.2.1, Tr.under e _ _ h.2.2.2.1 this.1, let ⟨v, x, y⟩ := h.2.2.2.2; ⟨v, x, Tr.under e _ _ y this.2⟩⟩)
  | ins h m ck t =>
    rw [Ob.flat, List.all_eq_true] at f
    exact .ins h m ck (pr_mem t fun p q m h => ⟨h.1, Tr.under e _ _ h.2 (f p m)⟩)
where
  pr_mem {α β : Type} {F G : α → β → Prop} : ∀ {l₁ : List α} {l₂ : List β}, Paired F l₁ l₂ → (∀ a b, a ∈ l₁ → F a b → G a b) → Paired G l₁ l₂
    | _, _, .nil, _ => .nil
    | _, _, .cons r t, f => .cons (f _ _ (List.mem_cons_self ..) r) (pr_mem t fun a b m => f a b (List.mem_cons_of_mem _ m))
mutual
theorem under_of : ∀ (d : D) (v : V), Tr K φ H d v → D.under φ.length d = true
  | _, _, .non => rfl
  | _, _, .bl b => rfl
  | _, _, .int i => rfl
  | _, _, .str x => rfl
  | .tup ds, _, .tup s t => by rw [D.under]; exact underL_of _ _ t
  | .ref m, _, .ref h => by rw [D.under]; simpa using (List.getElem?_eq_some_iff.mp h).1
theorem underL_of : ∀ (ds : List D) (vs : List V), TrL K φ H ds vs → D.underL φ.length ds = true
  | _, _, .nil => rfl
  | _ :: _, _, .cons t r => by rw [D.underL, under_of _ _ t, underL_of _ _ r]; rfl
end
theorem flat_of {o : Ob} {a : Addr} (r : OR K mg φ H o a) : o.flat φ.length = true := by
  have pm : ∀ {α β : Type} {F : α → β → Prop} {l₁ : List α} {l₂ : List β}, Paired F l₁ l₂ → ∀ a ∈ l₁, ∃ b, F a b := by
    intro α β F l₁ l₂ p
    induction p with
    | nil => intro a h; simp at h
    | cons r t ih => intro a h; rcases List.mem_cons.mp h with rfl | h; exact ⟨_, r⟩; exact ih a h
  cases r with
  | lst h t => exact underL_of _ _ t
  | ro h t => exact underL_of _ _ t
  | dict h t =>
    rw [Ob.flat, List.all_eq_true]
    intro p hp
    cases t with
    | k r => obtain ⟨q, h1, h2⟩ := pm r p hp; rw [h1, under_of _ _ h2]; cases q.1 <;> rfl
    | t s l r => obtain ⟨q, _, _, _, h1, v, _, h2⟩ := pm r p hp; rw [under_of _ _ h1, under_of _ _ h2]; rfl
  | ldict h t =>
    rw [Ob.flat, List.all_eq_true]
    intro p hp
    cases t with
    | k r => obtain ⟨q, h1, h2⟩ := pm r p hp; rw [h1, under_of _ _ h2]; cases q.1 <;> rfl
    | t s l r => obtain ⟨q, _, _, _, h1, v, _, h2⟩ := pm r p hp; rw [under_of _ _ h1, under_of _ _ h2]; rfl
  | ins h m ck t =>
    rw [Ob.flat, List.all_eq_true]
    intro p hp
    obtain ⟨q, _, h2⟩ := pm t p hp
    exact under_of _ _ h2
end

/-! ### the new numbers -/
mutual
theorem news_sub (n : Nat) : ∀ (d : D) (acc : List Nat) (m : Nat), m ∈ acc → m ∈ news n d acc
  | .tup ds, acc, m, h => by rw [news]; exact newsL_sub n ds acc m h
  | .ref k, acc, m, h => by
    rw [news]
    split
    · split
      · exact h
      · exact List.mem_append_left _ h
    · exact h
  | .non, _, _, h => h
  | .bl _, _, _, h => h
  | .int _, _, _, h => h
  | .str _, _, _, h => h
  | .gl _, _, _, h => h
  | .ty _, _, _, h => h
theorem newsL_sub (n : Nat) : ∀ (ds : List D) (acc : List Nat) (m : Nat), m ∈ acc → m ∈ newsL n ds acc
  | [], _, _, h => h
  | d :: ds, acc, m, h => by rw [newsL]; exact newsL_sub n ds _ m (news_sub n d acc m h)
end
mutual
theorem news_nd (n : Nat) : ∀ (d : D) (acc : List Nat), acc.Nodup → (∀ m ∈ acc, n ≤ m) → (news n d acc).Nodup ∧ ∀ m ∈ news n d acc, n ≤ m
  | .tup ds, acc, h, g => by rw [news]; exact newsL_nd n ds acc h g
  | .ref k, acc, h, g => by
    rw [news]
    split
    · split
      · exact ⟨h, g⟩
      · rename_i h1 h2
        refine ⟨?_, fun m hm => ?_⟩
        · rw [List.nodup_append]
          exact ⟨h, by simp, fun a ha b hb => by simp at hb; subst hb; intro z; exact h2 (z ▸ ha)⟩
        · rcases List.mem_append.mp hm with hm | hm
          · exact g m hm
          · rw [List.mem_singleton.mp hm]; exact h1
    · exact ⟨h, g⟩
  | .non, _, h, g => ⟨h, g⟩
  | .bl _, _, h, g => ⟨h, g⟩
  | .int _, _, h, g => ⟨h, g⟩
  | .str _, _, h, g => ⟨h, g⟩
  | .gl _, _, h, g => ⟨h, g⟩
  | .ty _, _, h, g => ⟨h, g⟩
theorem newsL_nd (n : Nat) : ∀ (ds : List D) (acc : List Nat), acc.Nodup → (∀ m ∈ acc, n ≤ m) → (newsL n ds acc).Nodup ∧ ∀ m ∈ newsL n ds acc, n ≤ m
  | [], _, h, g => ⟨h, g⟩
  | d :: ds, acc, h, g => by
    rw [newsL]
    obtain ⟨h1, g1⟩ := news_nd n d acc h g
    exact newsL_nd n ds _ h1 g1
end
section
variable {K : Fg} {φ φ2 : List Addr} {H : L2.Hp} {n : Nat} {ms : List Nat}
mutual
theorem ren_tr (e : ∀ m, m < n → φ[m]? = φ2[m]?) (e2 : ∀ m ∈ ms, φ[m]? = φ2[n + ms.idxOf m]?) : ∀ (d : D) (v : V), Tr K φ H d v → ∀ acc, (∀ m ∈ news n d acc, m ∈ ms) → Tr K φ2 H (ren n ms d) v
  | _, _, .non, _, _ => .non
  | _, _, .bl b, _, _ => .bl b
  | _, _, .int i, _, _ => .int i
  | _, _, .str x, _, _ => .str x
  | .tup ds, _, .tup s t, acc, h => by rw [ren]; exact .tup s (renL_tr e e2 _ _ t acc (by rw [news] at h; exact h))
  | .ref m, _, .ref p, acc, h => by
    rw [ren]
    split
    · rename_i hm
      have : m ∈ ms := h m (by
        rw [news, if_pos hm]
        split
        · assumption
        · exact List.mem_append_right _ (List.mem_singleton.mpr rfl))
      exact .ref (by rw [← e2 m this]; exact p)
    · rename_i hm
      exact .ref (by rw [← e m (by omega)]; exact p)
theorem renL_tr (e : ∀ m, m < n → φ[m]? = φ2[m]?) (e2 : ∀ m ∈ ms, φ[m]? = φ2[n + ms.idxOf m]?) : ∀ (ds : List D) (vs : List V), TrL K φ H ds vs → ∀ acc, (∀ m ∈ newsL n ds acc, m ∈ ms) → TrL K φ2 H (renL n ms ds) vs
  | _, _, .nil, _, _ => .nil
  | d :: ds, _, .cons t r, acc, h => by
    rw [renL]
    rw [newsL] at h
    exact .cons (ren_tr e e2 _ _ t acc fun m hm => h m (newsL_sub n ds _ m hm)) (renL_tr e e2 _ _ r _ h)
end
end
theorem fm_all {α β : Type} {f : α → Option β} : ∀ {l : List α}, (∀ a ∈ l, (f a).isSome = true) → (l.filterMap f).length = l.length ∧ ∀ (i : Nat) (a : α), l[i]? = some a → (l.filterMap f)[i]? = f a
  | [], _ => ⟨rfl, fun _ _ h => by simp at h⟩
  | a :: l, h => by
    obtain ⟨b, hb⟩ := Option.isSome_iff_exists.mp (h a (List.mem_cons_self ..))
    obtain ⟨h1, h2⟩ := fm_all (f := f) (l := l) fun x hx => h x (List.mem_cons_of_mem _ hx)
    rw [List.filterMap_cons_some hb]
    refine ⟨by simp [h1], fun i x hx => ?_⟩
    cases i with
    | zero => simp at hx; subst hx; simp [hb]
    | succ i => simpa using h2 i x (by simpa using hx)
section
variable {K : Fg} {mg : Nm} {φ φ' : List Addr} {H H' : L2.Hp} {h h' : Y.Hp}
theorem pre_take (p : φ <+: φ') : ∀ m, m < φ.length → φ'[m]? = φ[m]? := by
  obtain ⟨r, rfl⟩ := p
  intro m hm
  exact List.getElem?_append_left hm
theorem elder_flat (r : RH K mg φ h H) {i : Nat} {o : Ob} (e : elder h h' = true) (hi : i < h.length) (ho : h'[i]? = some o) : o.flat h.length = true := by
  unfold elder at e
  rw [List.all_eq_true] at e
  have := e i (List.mem_range.mpr hi)
  rw [Bool.or_eq_true, decide_eq_true_eq] at this
  rcases this with q | q
  · rw [ho] at q
    obtain ⟨a, _, oa⟩ := r.addr q.symm
    have := flat_of oa
    rwa [r.len] at this
  · rw [ho] at q; exact q
/-- the heap cut to what is named -/
theorem cut_rh (r : RH K mg φ h H) (b : Bh K mg φ H h' φ' H') (e : elder h h' = true) (ms : List Nat) (nd : ms.Nodup) (ge : ∀ m ∈ ms, h.length ≤ m) (fl : ∀ m ∈ ms, ∃ o, h'[m]? = some o ∧ o.flat h.length = true) :
    ∃ φ2, φ <+: φ2 ∧ (∀ m, m < h.length → φ'[m]? = φ2[m]?) ∧ (∀ m ∈ ms, φ'[m]? = φ2[h.length + ms.idxOf m]?) ∧ RH K mg φ2 (h'.take h.length ++ ms.filterMap fun m => h'[m]?) H' ∧ ∀ a, a ∉ φ' → a ∉ φ2 := by
  have some' : ∀ m ∈ ms, (h'[m]?).isSome = true := fun m hm => by obtain ⟨o, ho, _⟩ := fl m hm; rw [ho]; rfl
  have some2 : ∀ m ∈ ms, (φ'[m]?).isSome = true := fun m hm => by
    obtain ⟨o, ho, _⟩ := fl m hm
    obtain ⟨a, ha, _⟩ := b.rh.addr ho
    rw [ha]; rfl
  obtain ⟨l1, g1⟩ := fm_all (f := fun m => h'[m]?) some'
  obtain ⟨l2, g2⟩ := fm_all (f := fun m => φ'[m]?) some2
  have lp : φ.length ≤ φ'.length := b.pre.length_le
  have lh : h.length ≤ h'.length := by rw [← r.len, ← b.rh.len]; exact lp
  have lo : ∀ m, m < h.length → φ'[m]? = (φ ++ ms.filterMap fun m => φ'[m]?)[m]? := fun m hm => by
    rw [List.getElem?_append_left (by rw [r.len]; exact hm)]
    exact pre_take b.pre m (by rw [r.len]; exact hm)
  refine ⟨φ ++ ms.filterMap fun m => φ'[m]?, List.prefix_append _ _, lo, fun m hm => ?_, ⟨?_, ?_, ?_⟩, fun a na hm => ?_⟩
  · have hi : ms.idxOf m < ms.length := List.idxOf_lt_length_of_mem hm
    rw [List.getElem?_append_right (by rw [r.len]; omega), r.len, Nat.add_sub_cancel_left, g2 _ m (by rw [List.getElem?_eq_getElem hi, List.getElem_idxOf])]
  · rw [List.length_append, List.length_append, l1, l2, r.len, List.length_take, Nat.min_eq_left lh]
  · rw [List.nodup_append]
    refine ⟨r.nd, ?_, fun a ha c hc => ?_⟩
    · rw [List.Nodup, List.pairwise_iff_getElem]
      intro i j hi hj hij z
      have hj' : j < ms.length := by rw [← l2]; exact hj
      have z1 := g2 i _ (List.getElem?_eq_getElem (by omega))
      have z2 := g2 j _ (List.getElem?_eq_getElem hj')
      rw [List.getElem?_eq_getElem hi, z] at z1
      rw [List.getElem?_eq_getElem hj] at z2
      have := nodup_get b.rh.nd z1.symm z2.symm
      have := (List.getElem_inj nd).mp this
      omega
    · rintro rfl
      rw [List.mem_filterMap] at hc
      obtain ⟨m, hm, hc⟩ := hc
      obtain ⟨i, hi⟩ := List.getElem?_of_mem ha
      have hi' := (List.getElem?_eq_some_iff.mp hi).1
      have := nodup_get b.rh.nd ((pre_take b.pre i hi').trans hi) hc
      have := ge m hm
      rw [r.len] at hi'
      omega
  · intro j o a hj ha
    by_cases hl : j < h.length
    · rw [List.getElem?_append_left (by rw [List.length_take, Nat.min_eq_left lh]; exact hl), List.getElem?_take_of_lt hl] at hj
      rw [← lo j hl] at ha
      exact (b.rh.ob j o a hj ha).under lo (elder_flat r e hl hj)
    · have e1 : (h'.take h.length).length = h.length := by rw [List.length_take, Nat.min_eq_left lh]
      rw [List.getElem?_append_right (by omega), e1] at hj
      rw [List.getElem?_append_right (by rw [r.len]; omega), r.len] at ha
      have hk : j - h.length < ms.length := by rw [← l1]; exact (List.getElem?_eq_some_iff.mp hj).1
      rw [g1 _ _ (List.getElem?_eq_getElem hk)] at hj
      rw [g2 _ _ (List.getElem?_eq_getElem hk)] at ha
      obtain ⟨o', ho', f⟩ := fl _ (List.getElem_mem hk)
      rw [hj] at ho'; cases ho'
      exact (b.rh.ob _ o a hj ha).under lo f
  · rcases List.mem_append.mp hm with hm | hm
    · exact na (b.pre.subset hm)
    · rw [List.mem_filterMap] at hm
      obtain ⟨m, _, hm⟩ := hm
      exact na (List.mem_of_getElem? hm)
variable {W : Value → Option Addr → L2.Hp → Prop} {Q : VK}
theorem left_ok {d : D} {v : V} (r : RH K mg φ h H) (p : PostE K mg φ H (left h d h') W Q) (b : Bh K mg φ H h' φ' H') (t : Tr K φ' H' d v) : Q v H' := by
  unfold left at p
  dsimp only at p
  split at p
  · rename_i hc
    rw [Bool.and_eq_true, List.all_eq_true] at hc
    obtain ⟨nd, ge⟩ := news_nd h.length d [] List.nodup_nil (fun _ hm => by simp at hm)
    obtain ⟨φ2, p2, e1, e2, r2, n2⟩ := cut_rh r b hc.1 (news h.length d []) nd ge fun m hm => by
      have := hc.2 m hm
      split at this
      · rename_i o ho; exact ⟨o, ho, this⟩
      · cases this
    exact p φ2 H' v ⟨p2, b.keep, fun a o na ha => let ⟨q1, q2⟩ := b.oth a o na ha; ⟨q1, n2 a q2⟩, r2⟩ (ren_tr e1 e2 _ _ t [] fun _ hm => hm)
  · exact p φ' H' v b t
theorem leftE_ok {c : String} {fs : List (String × D)} {cls : Value} {dx : Option Addr} (r : RH K mg φ h H) (p : PostE K mg φ H (leftE h c fs h') W Q) (b : Bh K mg φ H h' φ' H') (t : ER K mg φ' H' c fs cls dx) : W cls dx H' := by
  unfold leftE at p
  split at p
  · rename_i hc
    rw [Bool.and_eq_true, List.all_eq_true] at hc
    obtain ⟨φ2, p2, e1, e2, r2, n2⟩ := cut_rh r b hc.1 [] List.nodup_nil (fun _ hm => by simp at hm) fun _ hm => by simp at hm
    rw [List.filterMap_nil, List.append_nil] at r2
    refine p φ2 H' cls dx ⟨p2, b.keep, fun a o na ha => let ⟨q1, q2⟩ := b.oth a o na ha; ⟨q1, n2 a q2⟩, r2⟩ ?_
    cases t with
    | none g => exact .none g
    | some g hd f => exact .some g hd (OR.under.pr_mem f fun p q m h => ⟨h.1, Tr.under e1 _ _ h.2 (hc.2 p m)⟩)
  · exact p φ' H' cls dx b t
end
end Y

set_option Elab.async false
set_option linter.all false
set_option maxRecDepth 100000
set_option maxHeartbeats 1000000
/-! The mini text held against the program's text: a check that computes. -/
namespace Y
open PySem

/-- what stands around: the block's names, its scope; names of builtins, of defs and of constants of the module -/
structure Ct where
  N : List Str
  sc : Scope
  B : List Str
  F : List (String × Nat)
  G : List String
def Ct.blk (c : Ct) (sc : Scope) : Ct := { c with sc := sc }
def envS (sc : Scope) : PySem.Env := { (default : PySem.Env) with scope := sc }
def visB (sc : Scope) (x : Str) : Bool := match sc.names.lookup x with
  | some .local => true
  | some .cell => true
  | some .free => true
  | _ => false
def locB (sc : Scope) (x : Str) : Bool := match sc.names.lookup x with
  | some .local => true
  | some .cell => true
  | _ => false
def glB (sc : Scope) (x : Str) : Bool := match sc.names.lookup x with
  | some .globalImplicit => true
  | _ => false
def btB (c : Ct) (x : Str) : Bool := glB c.sc x && c.B.contains x
def noStar : Expr → Bool
  | .Starred .. => false
  | _ => true
def plainI : Expr → Bool
  | .Slice .. => false
  | _ => true
def noSet : Expr → Bool
  | .Set .. => false
  | _ => true
def aBase : Expr → Bool
  | .Call (.Name ..) [] [] _ => false
  | _ => true
def tShape : Expr → Bool
  | .Name .. => true
  | .Call .. => true
  | .Subscript .. => true
  | .Attribute .. => true
  | .Constant .. => true
  | .BinOp .. => true
  | _ => false
def opB : Op → Operator → Bool
  | .add, .Add => true
  | .sub, .Sub => true
  | .mul, .Mult => true
  | .fdiv, .FloorDiv => true
  | .mod, .Mod => true
  | .pow, .Pow => true
  | _, _ => false
def augB : Op → Operator → Bool
  | .add, .Add => true
  | .sub, .Sub => true
  | .mul, .Mult => true
  | _, _ => false
def cmB : Cm → CmpOp → Bool
  | .eq, .Eq => true
  | .ne, .NotEq => true
  | .lt, .Lt => true
  | .le, .LtE => true
  | .gt, .Gt => true
  | .ge, .GtE => true
  | .is, .Is => true
  | .isn, .IsNot => true
  | .in_, .In => true
  | .nin, .NotIn => true
  | _, _ => false
def Bi.nm : Bi → String
  | .len => "len" | .abs => "abs" | .int => "int" | .min => "min" | .max => "max" | .all => "all" | .any => "any" | .sum => "sum" | .list => "list" | .tup => "tuple"
def isT (sc : Scope) (x : Str) (n : String) : Bool := decide (x = Str.ofString n)

def ckK : D → Const → Bool
  | .int i, .int j => decide (i = j)
  | .bl a, .bool b => a == b
  | .non, .none => true
  | .str x, .str y => decide (x = y)
  | _, _ => false
/-- a call of a builtin's name -/
def ckB (c : Ct) (x : Str) (n : String) : Bool := decide (x = Str.ofString n) && btB c x
mutual
def ckT (c : Ct) : T → Expr → Bool
  | .nm i, e => match e with
    | .Name x _ => decide (c.N[i]? = some x) && locB c.sc x
    | _ => false
  | .tp ts, e => match e with
    | .Tuple es _ _ => ckTs c ts es
    | _ => false
def ckTs (c : Ct) : List T → List Expr → Bool
  | [], es => es.isEmpty
  | t :: ts, es => match es with
    | e :: es => noStar e && ckT c t e && ckTs c ts es
    | [] => false
end
def isTupE : Expr → Bool
  | .Tuple .. => true
  | _ => false
mutual
def ckE (c : Ct) : E → Expr → Bool
  | .no, _ => true
  | .c d, e => match e with
    | .Constant k _ _ => ckK d k
    | _ => false
  | .v i, e => match e with
    | .Name x _ => decide (c.N[i]? = some x) && visB c.sc x && !(x == ("__debug__" : Str)) && !(x == ("__classdict__" : Str))
    | _ => false
  | .g n, e => match e with
    | .Name x _ => decide (x = Str.ofString n) && glB c.sc x && c.G.contains n && !(x == ("__debug__" : Str))
    | _ => false
  | .bin o a b, e => match e with
    | .BinOp x op y _ => opB o op && ckE c a x && ckE c b y
    | _ => false
  | .neg a, e => match e with
    | .UnaryOp .USub x _ => ckE c a x
    | _ => false
  | .not t, e => match e with
    | .UnaryOp .Not x _ => match t with
      | .tr a => ckE c a x
      | _ => false
    | _ => false
  | .cmp o a b, e => match e with
    | .Compare x [op] [y] _ => cmB o op && noSet y && ckE c a x && ckE c b y
    | _ => false
  | .cmp2 o p a b d, e => match e with
    | .Compare x [op, op'] [y, z] _ => cmB o op && cmB p op' && noSet z && ckE c a x && ckE c b y && ckE c d z
    | _ => false
  | .and a b, e => match e with
    | .BoolOp .And [x, y] _ => ckE c a x && ckE c b y
    | .BoolOp .And (x :: y :: z :: r) p => ckE c a x && ckE c b (.BoolOp .And (y :: z :: r) p)
    | _ => false
  | .or a b, e => match e with
    | .BoolOp .Or [x, y] _ => ckE c a x && ckE c b y
    | .BoolOp .Or (x :: y :: z :: r) p => ckE c a x && ckE c b (.BoolOp .Or (y :: z :: r) p)
    | _ => false
  | .ite t a b, e => match e with
    | .IfExp z x y _ => ckC c t z && ckE c a x && ckE c b y
    | _ => false
  | .tup es, e => match e with
    | .Tuple xs _ _ => decide (es.length < 1000) && ckEs c es xs
    | _ => false
  | .lst es, e => match e with
    | .List xs _ => decide (es.length < 1000) && ckEs c es xs
    | _ => false
  | .dict0, e => match e with
    | .Dict [] [] _ => true
    | _ => false
  | .dict1 k v, e => match e with
    | .Dict [some x] [y] _ => ckE c k x && ckE c v y
    | _ => false
  | .idx a b, e => match e with
    | .Subscript x y _ => plainI y && ckE c a x && ckE c b y
    | _ => false
  | .slc a lo hi, e => match e with
    | .Subscript x (.Slice l h none _) _ => ckE c a x && ckO c lo l && ckO c hi h
    | _ => false
  | .rev a, e => match e with
    | .Subscript x (.Slice none none (some (.UnaryOp .USub (.Constant (.int 1) _ _) _)) _) _ => ckE c a x
    | _ => false
  | .att _ _, _ => false
  | .call f es, e => match e with
    | .Call (.Name x _) (y :: ys) [] _ => decide (x = Str.ofString f) && glB c.sc x && decide (c.F.lookup f = some es.length) && !(x == ("__debug__" : Str)) && ckEs c es (y :: ys)
    | _ => false
  | .bi b es, e => match e with
    | .Call (.Name x _) (y :: ys) [] _ => ckB c x b.nm && ckEs c es (y :: ys)
    | _ => false
  | .isi a ts, e => match e with
    | .Call (.Name x _) [y, .Name z _] [] _ => match ts with
      | [t] => ckB c x "isinstance" && decide (t ∈ six) && ckB c z t && noStar y && ckE c a y
      | _ => false
    | .Call (.Name x _) [y, .Tuple [.Name z _, .Name w _] _ _] [] _ => match ts with
      | [t, u] => ckB c x "isinstance" && decide (t ∈ six) && decide (u ∈ six) && ckB c z t && ckB c w u && noStar y && ckE c a y
      | _ => false
    | _ => false
  | .mt a m es, e => match e with
    | .Call (.Attribute x n ap) ys [] p => decide (n = m.str) && aBase x && (ap.endLine == p.line) && decide (ys.length < 20) && ckE c a x && ckEs c es ys
    | _ => false
  | .lof i, e => match e with
    | .Call (.Name x _) [.Call (.Name y _) [z] [] _] [] _ => match i with
      | .rng a => ckB c x "list" && ckB c y "range" && noStar z && ckE c a z
      | _ => false
    | .Call (.Name x _) [.Call (.Name y _) [z, w] [] _] [] _ => match i with
      | .rng2 a b => ckB c x "list" && ckB c y "range" && noStar z && noStar w && ckE c a z && ckE c b w
      | _ => false
    | _ => false
  | .trev a, e => match e with
    | .Call (.Name x _) [.Call (.Name y _) [z] [] _] [] _ => ckB c x "tuple" && ckB c y "reversed" && noStar z && ckE c a z
    | _ => false
  | .vls s i, e => match e with
    | .Call (.Name x _) [.Call (.Attribute (.Name y _) n ap) [] [] p] [] _ => s && ckB c x "sum" && decide (n = ("values" : Str)) && (ap.endLine == p.line) && decide (c.N[i]? = some y) && visB c.sc y && !(y == ("__debug__" : Str)) && !(y == ("__classdict__" : Str))
    | _ => false
  | .lc e t i cs, x => match x with
    | .ListComp y [⟨tg, iter, ifs, 0⟩] sc _ => noSet iter && L2.blkC c.N c.sc sc (t.slots.map fun i => (c.N.getD i "", i)) && ckI c i tg iter && ckT (c.blk sc) t tg && ckE (c.blk sc) e y && ckCs (c.blk sc) cs ifs
    | _ => false
def ckC (c : Ct) : C → Expr → Bool
  | .and a b, e => match e with
    | .BoolOp .And [x, y] _ => ckC c a x && ckC c b y
    | .BoolOp .And (x :: y :: z :: r) p => ckC c a x && ckC c b (.BoolOp .And (y :: z :: r) p)
    | _ => false
  | .or a b, e => match e with
    | .BoolOp .Or [x, y] _ => ckC c a x && ckC c b y
    | .BoolOp .Or (x :: y :: z :: r) p => ckC c a x && ckC c b (.BoolOp .Or (y :: z :: r) p)
    | _ => false
  | .not a, e => match e with
    | .UnaryOp .Not x _ => ckC c a x
    | _ => false
  | .tr a, e => match a with
    | .no => true
    | .cmp o a b => match e with
      | .Compare x [op] [y] _ => cmB o op && noSet y && ckE c a x && ckE c b y
      | _ => false
    | .cmp2 o p a b d => match e with
      | .Compare x [op, op'] [y, z] _ => cmB o op && cmB p op' && noSet z && ckE c a x && ckE c b y && ckE c d z
      | _ => false
    | a => tShape e && ckE c a e
def ckEs (c : Ct) : List E → List Expr → Bool
  | [], xs => xs.isEmpty
  | e :: es, xs => match xs with
    | x :: xs => noStar x && ckE c e x && ckEs c es xs
    | [] => false
def ckO (c : Ct) : Option E → Option Expr → Bool
  | none, x => x.isNone
  | some e, x => match x with
    | some x => ckE c e x
    | none => false
def ckCs (c : Ct) : List C → List Expr → Bool
  | [], xs => xs.isEmpty
  | a :: as, xs => match xs with
    | [x] => as.isEmpty && ckC c a x
    | _ => false
/-- what is walked: its target, its text -/
def ckI (c : Ct) : I → Expr → Expr → Bool
  | .no, _, _ => true
  | .val a, _, e => ckE c a e
  | .var i, _, e => match e with
    | .Name x _ => decide (c.N[i]? = some x) && visB c.sc x && !(x == ("__debug__" : Str)) && !(x == ("__classdict__" : Str))
    | _ => false
  | .rng a, _, e => match e with
    | .Call (.Name x _) [y] [] _ => ckB c x "range" && noStar y && ckE c a y
    | _ => false
  | .rng2 a b, _, e => match e with
    | .Call (.Name x _) [y, z] [] _ => ckB c x "range" && noStar y && noStar z && ckE c a y && ckE c b z
    | _ => false
  | .enum a, tg, e => match e with
    | .Call (.Name x _) [y] [] _ => isTupE tg && ckB c x "enumerate" && noStar y && ckE c a y
    | _ => false
  | .zip a b, tg, e => match e with
    | .Call (.Name x _) [y, z] [] _ => isTupE tg && ckB c x "zip" && noStar y && noStar z && ckE c a y && ckE c b z
    | _ => false
  | .revd a, _, e => match e with
    | .Call (.Name x _) [y] [] _ => ckB c x "reversed" && noStar y && ckE c a y
    | _ => false
  | .vals i, _, e => match e with
    | .Call (.Attribute (.Name y _) n ap) [] [] p => decide (n = ("values" : Str)) && (ap.endLine == p.line) && decide (c.N[i]? = some y) && visB c.sc y && !(y == ("__debug__" : Str)) && !(y == ("__classdict__" : Str))
    | _ => false
  | .items i, tg, e => match e with
    | .Call (.Attribute (.Name y _) n ap) [] [] p => isTupE tg && decide (n = ("items" : Str)) && (ap.endLine == p.line) && decide (c.N[i]? = some y) && visB c.sc y && !(y == ("__debug__" : Str)) && !(y == ("__classdict__" : Str))
    | _ => false
end
/-- how a store goes -/
inductive Sw where
  | lc | plain | par (xs : List Str) | other
def swOf (sc : Scope) (tg e : Expr) (line : Nat) : Sw := match swapsWithSole [tg] e line (envS sc), swappedStores [tg] e (envS sc) with
  | .pure true, _ => .lc
  | .pure false, .pure none => .plain
  | .pure false, .pure (some xs) => .par xs
  | _, _ => .other
def dropOk (sc : Scope) (e : Expr) (line : Nat) : Bool := match swapsWith e none line (envS sc) with
  | .pure false => true
  | _ => false
mutual
def ckS (c : Ct) : S → Stmt → Bool
  | .no, _ => true
  | .asg t e, s => match s with
    | .Assign [tg] x p => (match swOf c.sc tg x p.line with
      | .plain => noStar tg && ckT c t tg && ckE c e x
      | .lc => (match e, t with
        | .lc .., .nm i => (match tg with
          | .Name y _ => decide (c.N[i]? = some y) && decide (c.sc.names.lookup y = some .local) && ckE c e x
          | _ => false)
        | _, _ => false)
      | .par xs => (match e, t, tg, x with
        | .tup es, .tp [.nm i, .nm j], .Tuple [.Name y _, .Name z _] _ _, .Tuple [u, v] _ _ => decide (xs = [y, z]) && decide (c.N[i]? = some y) && decide (c.N[j]? = some z) && decide (i ≠ j) && decide (c.sc.names.lookup y = some .local) && decide (c.sc.names.lookup z = some .local) && ckEs c es [u, v]
        | .tup es, .tp [.nm i, .nm j, .nm k], .Tuple [.Name y _, .Name z _, .Name w _] _ _, .Tuple [u, v, q] _ _ => decide (xs = [y, z, w]) && decide (c.N[i]? = some y) && decide (c.N[j]? = some z) && decide (c.N[k]? = some w) && decide (i ≠ j) && decide (i ≠ k) && decide (j ≠ k) && decide (c.sc.names.lookup y = some .local) && decide (c.sc.names.lookup z = some .local) && decide (c.sc.names.lookup w = some .local) && ckEs c es [u, v, q]
        | _, _, _, _ => false)
      | .other => false)
    | _ => false
  | .aug i o e, s => match s with
    | .AugAssign (.Name y _) op x _ => decide (c.N[i]? = some y) && locB c.sc y && augB o op && ckE c e x
    | _ => false
  | .sto a b e, s => match s with
    | .Assign [.Subscript x y q] z p => (match swOf c.sc (.Subscript x y q) z p.line with
      | .plain => plainI y && ckE c a x && ckE c b y && ckE c e z
      | _ => false)
    | _ => false
  | .fld _ _ _, _ => false
  | .ex e, s => match s with
    | .Expr x p => dropOk c.sc x p.line && ckE c e x
    | _ => false
  | .iff t a b, s => match s with
    | .If x y z _ => ckC c t x && ckSs c a y && ckSs c b z
    | _ => false
  | .whl t a, s => match s with
    | .While x y [] _ => ckC c t x && ckSs c a y
    | _ => false
  | .for_ t i b, s => match s with
    | .For tg iter body [] _ => noSet iter && ckI c i tg iter && ckT c t tg && ckSs c b body
    | _ => false
  | .ret e, s => match s with
    | .Return (some x) _ => ckE c e x
    | _ => false
  | .rs _ _, _ => false
  | .tr _ _, _ => false
  | .brk, s => match s with
    | .Break _ => true
    | _ => false
  | .cnt, s => match s with
    | .Continue _ => true
    | _ => false
  | .pss, s => match s with
    | .Pass _ => true
    | _ => false
def ckSs (c : Ct) : List S → List Stmt → Bool
  | [], ss => ss.isEmpty
  | s :: ss, xs => match xs with
    | x :: xs => ckS c s x && ckSs c ss xs
    | [] => false
end
end Y

set_option Elab.async false
set_option linter.all false
set_option maxRecDepth 100000
set_option maxHeartbeats 1000000
/-! The check is sound. -/
namespace Y
open PySem PySem.Spec PyProof.Rows L2 RT RZ

/-- what a def promises: what the mini level says -/
def RdF (K : Fg) (mg : Nm) (n : Nat) (f : List D → Y.Hp → Res D) : Sp := fun vs H Q E => vs.length = n ∧ ∃ φ h ds, RH K mg φ h H ∧ TrL K φ H ds vs ∧ PostE K mg φ H (f ds h) E Q
/-- one scope told by another -/
structure Rl (a b : Scope) : Prop where
  kind : b.kind = a.kind
  loc : ∀ x, a.names.lookup x = some .local → b.names.lookup x = some .local
  cell : ∀ x, a.names.lookup x = some .cell → b.names.lookup x = some .cell
  free : ∀ x, a.names.lookup x = some .free → b.names.lookup x = some .cell ∨ b.names.lookup x = some .free
  gl : ∀ x, a.names.lookup x = some .globalImplicit → b.names.lookup x = some .globalImplicit
theorem Rl.refl (a : Scope) : Rl a a := ⟨rfl, fun _ h => h, fun _ h => h, fun _ h => .inr h, fun _ h => h⟩
theorem lk_map {f : Str × NameKind → Str × NameKind} (h1 : ∀ p, (f p).1 = p.1) : ∀ {l : List (Str × NameKind)} {x : Str} {k : NameKind}, l.lookup x = some k → (l.map f).lookup x = some (f (x, k)).2
  | [], _, _, h => by simp at h
  | (n, k') :: r, x, k, h => by
    rw [List.map_cons]
    rw [List.lookup] at h ⊢
    have e := h1 (n, k')
    split at h
    · rename_i q
      cases h
      have q' : x = n := by simpa using q
      subst q'
      cases hf : f (x, k') with
      | mk a b =>
        rw [hf] at e
        simp only at e
        subst e
        simp
    · rename_i q
      cases hf : f (n, k') with
      | mk a b =>
        rw [hf] at e
        simp only at e
        subst e
        simp only [q]
        exact lk_map h1 h
theorem Rl.relabel (a : Scope) (env : PySem.Env) : Rl a (PySem.relabel a env) := by
  have go : ∀ x k, a.names.lookup x = some k → (PySem.relabel a env).names.lookup x = some (if (k == NameKind.free && env.scope.kind == .function && env.kindOf x == some .cell) then NameKind.cell else k) := by
    intro x k h
    have := lk_map (f := fun (n, k) => if (k == NameKind.free && env.scope.kind == .function && env.kindOf n == some .cell) then (n, NameKind.cell) else (n, k)) (fun p => by dsimp only; split <;> rfl) h
    refine Eq.trans (show _ = _ from this) ?_
    dsimp only
    split <;> rfl
  refine ⟨rfl, fun x h => go x _ h, fun x h => go x _ h, fun x h => ?_, fun x h => go x _ h⟩
  rw [go x _ h]
  split
  · exact .inl rfl
  · exact .inr rfl
structure Sd (X : Cx) (W : WX) (c : Ct) (k : Nat) (Z : Sg) : Prop where
  N : X.N = c.N
  nd : X.N.Nodup
  rel : Rl c.sc X.env.scope
  kind : c.sc.kind = .function
  calm : X.calm = true
  tk : L2.Takes X W
  room : Room k X.A
  po : PassesOwn (model X.prog X.w) X.A X.env X.xe
  fn : ∀ x, locB c.sc x = true → X.fn x = true ∨ X.env.scope.names.lookup x = some .local
  bt : ∀ x ∈ c.B, X.mg x = none
  gs : ∀ n ∈ c.G, ∃ u v d, X.mg (Str.ofString n) = some u ∧ RelV v u ∧ Z.G n = some d ∧ ∀ φ H, Tr X.K φ H d v
  fs : ∀ f n, c.F.lookup f = some n → ∃ fa fd ps, X.mg (Str.ofString f) = some (.ref fa) ∧ PySem.W.keepIn X.K (.ref fa) = true ∧ Binds X.K fd ps [] ∧ FnOk X.prog X.w X.K X.mg X.base (L2.CX X.prog X.w) k fa fd ps (RdF X.K (nm X) n (Z.F f))
  wh : Z.W = whlC
section
variable {X : Cx} {W : WX} {c : Ct} {k : Nat} {Z : Sg}
theorem Sd.un (sd : Sd X W c k Z) : X.A.units + 65 < cLine := by have := sd.room.un; omega
theorem Sd.vis (sd : Sd X W c k Z) {x : Str} (h : visB c.sc x = true) : Vis X.env.scope x := by
  unfold visB at h
  split at h
  · exact .inl (sd.rel.loc _ (by assumption))
  · exact .inr (.inl (sd.rel.cell _ (by assumption)))
  · rename_i e
    rcases sd.rel.free _ e with q | q
    · exact .inr (.inl q)
    · exact .inr (.inr q)
  · cases h
theorem Sd.loc (sd : Sd X W c k Z) {x : Str} (h : locB c.sc x = true) : Loc X.env.scope x := by
  unfold locB at h
  split at h
  · exact .inl (sd.rel.loc _ (by assumption))
  · exact .inr (sd.rel.cell _ (by assumption))
  · cases h
theorem Sd.gl (sd : Sd X W c k Z) {x : Str} (h : glB c.sc x = true) : Gl X x := by
  show X.env.scope.names.lookup x = _
  unfold glB at h
  split at h
  · exact sd.rel.gl _ (by assumption)
  · cases h
theorem Sd.bn (sd : Sd X W c k Z) {x : Str} {n : String} (h : ckB c x n = true) : x = Str.ofString n ∧ Gl X x ∧ X.mg x = none := by
  unfold ckB btB at h
  simp only [Bool.and_eq_true, decide_eq_true_eq] at h
  exact ⟨h.1, sd.gl h.2.1, sd.bt x (by simpa using h.2.2)⟩
theorem star_cons {a : Expr} {es : List Expr} {env : PySem.Env} (h : noStar a = true) : starEach (a :: es) env = (false, eval a env) :: starEach es env := by
  cases a <;> first | rfl | (simp [noStar] at h)
theorem bk_any {pos : Pos} {env : PySem.Env} : ∀ {es : List Expr}, es.all noStar = true → (backTo pos (starEach es env)).any (·.1) = false
  | [], _ => rfl
  | a :: es, h => by
    rw [List.all_cons, Bool.and_eq_true] at h
    rw [star_cons h.1]
    show (false || (backTo pos (starEach es env)).any (·.1)) = false
    rw [bk_any h.2]; rfl
theorem bk_all {pos : Pos} {env : PySem.Env} : ∀ {es : List Expr}, es.all noStar = true → (backTo pos (starEach es env)).all (fun x => !x.1) = true
  | [], _ => rfl
  | a :: es, h => by
    rw [List.all_cons, Bool.and_eq_true] at h
    rw [star_cons h.1]
    show (!false && (backTo pos (starEach es env)).all (fun x => !x.1)) = true
    rw [bk_all h.2]; rfl
theorem ckEs_star : ∀ {ms : List E} {es : List Expr}, ckEs c ms es = true → es.all noStar = true ∧ ms.length = es.length
  | [], es, h => by
    rw [ckEs] at h
    have : es = [] := by simpa using h
    subst this; exact ⟨rfl, rfl⟩
  | m :: ms, [], h => by rw [ckEs] at h; cases h
  | m :: ms, e :: es, h => by
    rw [ckEs] at h
    simp only [Bool.and_eq_true] at h
    obtain ⟨h1, h2⟩ := ckEs_star h.2
    exact ⟨by rw [List.all_cons, h.1.1, h1]; rfl, by simp [h2]⟩
theorem op_of {o : Op} {op : Operator} (h : opB o op = true) : OpR X (binaryOp op) (ROp X.K (nm X) (binop o)) := by
  cases o <;> cases op <;> first | (simp [opB] at h; done) | with_reducible exact op_add_m | with_reducible exact op_sub_m | with_reducible exact op_mul_m | with_reducible exact op_fdiv_m | with_reducible exact op_mod_m | with_reducible exact op_pow_m
theorem aug_of {o : Op} {op : Operator} (h : augB o op = true) : PIp X op (RIp o) := by
  cases o <;> cases op <;> first | (simp [augB] at h; done) | with_reducible exact ip_add_m | with_reducible exact ip_sub_m | with_reducible exact ip_mul_m
theorem cm_of (hu : X.A.units + 65 < cLine) {o : Cm} {op : CmpOp} (h : cmB o op = true) : OpR X (compareOp op) (RCm X.K (nm X) o) := by
  have hu' : X.A.units + 64 < cLine := by omega
  cases o <;> cases op <;> first | (simp [cmB] at h; done) | with_reducible exact op_eq_m hu' | with_reducible exact op_ne_m hu' | with_reducible exact op_lt_m | with_reducible exact op_le_m hu' | with_reducible exact op_gt_m | with_reducible exact op_ge_m | with_reducible exact op_is_m | with_reducible exact op_isn_m | with_reducible exact op_in_m hu | with_reducible exact op_nin_m hu
theorem mark_of {op : CmpOp} {e : Expr} (h : noSet e = true) : behindInMarks op e = false := by
  cases e <;> first | rfl | (simp [noSet] at h)
theorem marks_of {op op' : CmpOp} {e e' : Expr} (h : noSet e' = true) : lastMarks [op, op'] [e, e'] = false := mark_of h
theorem fold_of {e : Expr} {env : PySem.Env} (h : noSet e = true) : ∀ x, foldedSetIterable e env x = pure x := by
  intro x
  cases e <;> first | rfl | (simp [noSet] at h)
theorem base_of {e : Expr} {n : Str} {env : PySem.Env} (h : aBase e = true) : attributeBase e n env (eval e env) = eval e env := by
  cases e with
  | Call f args kws p =>
    cases f with
    | Name x q => cases args with
      | nil => cases kws with
        | nil => simp [aBase] at h
        | cons _ _ => rfl
      | cons _ _ => rfl
    | _ => rfl
  | _ => rfl
theorem plain_of {e : Expr} (h : plainI e = true) : PlainIx e := by
  intro o i
  cases e <;> first | rfl | (simp [plainI] at h)
theorem true_of {e : Expr} {env : PySem.Env} (h : tShape e = true) : ∀ whole, isTrue e env whole = (do let v ← whole; standAt e.pos; holding [v] (truthy v)) := by
  intro w
  cases e <;> first | rfl | (simp [tShape] at h)
theorem bi_boot : ∀ b : Bi, bootBuiltins (Str.ofString b.nm) = some (biV b) ∧ Str.ofString b.nm ≠ "__name__" ∧ (Str.ofString b.nm == ("__debug__" : Str)) = false := by
  intro b
  cases b <;> exact ⟨by decide +kernel, by decide +kernel, by decide +kernel⟩
theorem evEs_len {Z : Sg} : ∀ {es : List E} {ρ : Y.Env} {h h' : Y.Hp} {ds : List D}, evEs Z es ρ h = .ok ds h' → ds.length = es.length
  | [], _, _, _, _, e => by rw [evEs] at e; cases e; rfl
  | m :: ms, ρ, h, h', ds, e => by
    rw [evEs] at e
    cases h1 : evE Z m ρ h with
    | ok x h2 =>
      rw [h1] at e
      simp only [Res.bind_ok] at e
      cases h3 : evEs Z ms ρ h2 with
      | ok xs h4 =>
        rw [h3] at e
        simp only [Res.bind_ok] at e
        cases e
        simp [evEs_len h3]
      | exc _ _ _ => rw [h3] at e; cases e
      | bad => rw [h3] at e; cases e
    | exc _ _ _ => rw [h1] at e; cases e
    | bad => rw [h1] at e; cases e
theorem few_of {Z : Sg} {es : List E} (h : es.length < 1000) : Few (evEs Z es) := fun ρ h0 ds h' e => by
  rw [evEs_len e, sizeLine_eq]; omega
/-- f(..), f a def of the text -/
theorem c_call {x : Str} {f : String} {n : Nat} {a : Expr} {es : List Expr} {p pos : Pos} {ms : List E} (sd : Sd X W c k Z) (hf : c.F.lookup f = some n) (hx : x = Str.ofString f) (hg : Gl X x) (hd : (x == ("__debug__" : Str)) = false) (hl : ms.length = n)
    (ha : PA X (a :: es) (RA X W (evEs Z ms))) (hs : (a :: es).all noStar = true) : PE X (.Call (.Name x p) (a :: es) [] pos) (RE X W fun ρ h => (evEs Z ms ρ h).bind fun ds h => Z.F f ds h) := by
  obtain ⟨fa, fd, ps, h1, h2, h3, h4⟩ := sd.fs f n hf
  rw [List.all_cons, Bool.and_eq_true] at hs
  refine PE.imp (pe_callS h4 sd.room hg (by rw [hx]; exact h1) h2 h3 (fun σ => passAt sd.tk σ) ha hd (star_cons hs.1) (bk_any hs.2)) fun σ H Q q => ?_
  obtain ⟨φ, ρ, h, rh, ts, p⟩ := q
  exact ⟨φ, ρ, h, rh, ts, PostA.few p fun ds h' φ' H' vs e b t p' => ⟨by rw [← t.length, evEs_len e, hl], φ', h', ds, b.rh, t, p'⟩⟩
theorem ct_cmp2 {o o' : Cm} {op op' : CmpOp} {x y z : Expr} {ma mb mc : ME} {pos : Pos} (ho : OpR X (compareOp op) (RCm X.K (nm X) o)) (ho' : OpR X (compareOp op') (RCm X.K (nm X) o')) (ha : PE X x (RE X W ma)) (hb : PE X y (RE X W mb)) (hc : PE X z (RE X W mc))
    (hm : lastMarks [op, op'] [y, z] = false) :
    PT X (.Compare x [op, op'] [y, z] pos) (RT X W fun ρ h => ((ma ρ h).bind fun x h => (mb ρ h).bind fun y h => match Y.compare o x y h with
      | some true => (mc ρ h).bind fun z h => compareR o' y z h
      | some false => .ok (.bl false) h
      | none => .bad).bind truthR) := PT.imp (pt_chain ho ho' ha hb hc hm) fun σ H Q q => by
  obtain ⟨φ, ρ, h, rh, ts, p⟩ := q
  dsimp only at p
  have e0 : ((ma ρ h).bind fun x h => (mb ρ h).bind fun y h => match Y.compare o x y h with
      | some true => (mc ρ h).bind fun z h => compareR o' y z h
      | some false => .ok (.bl false) h
      | none => .bad).bind truthR = (ma ρ h).bind fun x h => (mb ρ h).bind fun y h => match Y.compare o x y h with
      | some true => (mc ρ h).bind fun z h => (compareR o' y z h).bind truthR
      | some false => .ok false h
      | none => .bad := by
    cases ma ρ h with
    | ok x h1 =>
      simp only [Res.bind_ok]
      cases mb ρ h1 with
      | ok y h2 =>
        simp only [Res.bind_ok]
        cases Y.compare o x y h2 with
        | none => rfl
        | some b => cases b with
          | false => rfl
          | true => simp only; cases mc ρ h2 <;> rfl
      | exc _ _ _ => rfl
      | bad => rfl
    | exc _ _ _ => rfl
    | bad => rfl
  rw [e0] at p
  refine ⟨φ, ρ, h, rh, ts, PostE.bindT p fun d h' φ' H' v b t p' => ⟨φ', ρ, h', b.rh, b.trS ts, PostE.bindT p' fun e h2 φ2 H2 u b2 t2 p2 => ?_⟩⟩
  split at p2
  · rename_i e1
    refine ⟨φ2, h2, d, e, true, b2.rh, b2.tr t, t2, e1, true, rfl, ?_⟩
    rw [if_pos rfl]
    refine ⟨φ2, ρ, h2, b2.rh, b2.trS (b.trS ts), PostE.bindT p2 fun f h3 φ3 H3 w b3 t3 p3 => ?_⟩
    unfold compareR at p3
    split at p3
    · rename_i k e2
      exact ⟨φ3, h3, e, f, k, b3.rh, b3.tr t2, t3, e2, k, rfl, p3 φ3 H3 (Bh.refl b3.rh)⟩
    · exact (show False from p3).elim
  · rename_i e1
    refine ⟨φ2, h2, d, e, false, b2.rh, b2.tr t, t2, e1, false, rfl, ?_⟩
    rw [if_neg (by decide)]
    exact ⟨false, rfl, p2 φ2 H2 (Bh.refl b2.rh)⟩
  · exact (show False from p2).elim
/-! ### targets -/
mutual
theorem okT (sd : Sd X W c k Z) : ∀ (t : T) (e : Expr), ckT c t e = true → PG X e (RG X t)
  | .nm i, e, h => by
    unfold ckT at h
    split at h
    · simp only [Bool.and_eq_true, decide_eq_true_eq] at h
      exact g_nm sd.nd (by rw [sd.N]; exact h.1) (sd.loc h.2) (sd.fn _ h.2)
    · cases h
  | .tp ts, e, h => by
    unfold ckT at h
    split at h
    · rename_i es _ _
      obtain ⟨h1, h2, h3⟩ := okTs sd ts es h
      exact g_tp sd.calm h1 h2 h3
    · cases h
theorem okTs (sd : Sd X W c k Z) : ∀ (ts : List T) (es : List Expr), ckTs c ts es = true → PGs X es (RGs X ts) ∧ (assignEach es X.env).length = ts.length ∧ (assignEach es X.env).findIdx? (·.1) = none
  | [], es, h => by
    rw [ckTs] at h
    have : es = [] := by simpa using h
    subst this
    exact ⟨gs_nil, rfl, rfl⟩
  | t :: ts, [], h => by rw [ckTs] at h; cases h
  | t :: ts, e :: es, h => by
    rw [ckTs] at h
    simp only [Bool.and_eq_true] at h
    have ea : assignEach (e :: es) X.env = (false, assign e X.env) :: assignEach es X.env := by
      cases e <;> first | rfl | (simp [noStar] at h)
    obtain ⟨h1, h2, h3⟩ := okTs sd ts es h.2
    refine ⟨gs_cons (okT sd t e h.1.2) h1 (by rw [ea]; rfl), by rw [ea]; simp [h2], ?_⟩
    rw [ea, List.findIdx?_cons]
    simp [h3]
end
/-! ### blocks -/
theorem takes_false {X : Cx} (hx : X.xe = fun _ _ => False) : L2.Takes X WF := fun u s' ⟨_, _, _, _, _, _, _, _, _, _, _, _, _, _, _, _, w⟩ => w.elim
theorem Sd.blk (sd : Sd X W c k Z) {s : Shared} {H : L2.Hp} {scope : Scope} {C : Addr} {cl : List (Str × Addr)} {fp : List Addr} (hk : scope.kind = .function) : Sd (X.blk s H scope (compEnvC scope cl C X.env) fp) WF (c.blk scope) k Z where
  N := sd.N
  nd := sd.nd
  rel := Rl.relabel scope X.env
  kind := hk
  calm := sd.calm
  tk := takes_false rfl
  room := sd.room
  po := PassesOwn.never
  fn := fun x h => by
    have h' : locB scope x = true := h
    unfold locB at h'
    split at h'
    · exact .inr ((Rl.relabel scope X.env).loc _ (by assumption))
    · rename_i e
      exact .inl (by show (scope.names.lookup x == some .cell) = true; rw [e]; rfl)
    · cases h'
  bt := sd.bt
  gs := sd.gs
  fs := sd.fs
  wh := sd.wh
end
end Y

set_option Elab.async false
set_option linter.all false
set_option maxRecDepth 100000
set_option maxHeartbeats 1000000
/-! The check is sound: expressions. -/
namespace Y
open PySem PySem.Spec PyProof.Rows L2 RT RZ

section
variable {X : Cx} {W : WX}
theorem PE.to {e : Expr} {m m' : ME} (h : ∀ ρ h, m ρ h = m' ρ h) (p : PE X e (RE X W m')) : PE X e (RE X W m) := by
  rw [show m = m' from funext fun ρ => funext fun x => h ρ x]; exact p
theorem PT.to {e : Expr} {m m' : MT} (h : ∀ ρ h, m ρ h = m' ρ h) (p : PT X e (RT X W m')) : PT X e (RT X W m) := by
  rw [show m = m' from funext fun ρ => funext fun x => h ρ x]; exact p
theorem PTs.to {e : List Expr} {m m' : MT} (h : ∀ ρ h, m ρ h = m' ρ h) (p : PTs X e (RT X W m')) : PTs X e (RT X W m) := by
  rw [show m = m' from funext fun ρ => funext fun x => h ρ x]; exact p
theorem PA.to {e : List Expr} {m m' : MA} (h : ∀ ρ h, m ρ h = m' ρ h) (p : PA X e (RA X W m')) : PA X e (RA X W m) := by
  rw [show m = m' from funext fun ρ => funext fun x => h ρ x]; exact p
theorem PO.to {e : Option Expr} {m m' : MO} (h : ∀ ρ h, m ρ h = m' ρ h) (p : PO X e (RO X W m')) : PO X e (RO X W m) := by
  rw [show m = m' from funext fun ρ => funext fun x => h ρ x]; exact p
theorem PI.to {tg e : Expr} {m m' : MI} (h : ∀ ρ h, m ρ h = m' ρ h) (p : PI X tg e (RI X W m')) : PI X tg e (RI X W m) := by
  rw [show m = m' from funext fun ρ => funext fun x => h ρ x]; exact p
theorem PS.to {e : Stmt} {m m' : MS} (h : ∀ ρ h, m ρ h = m' ρ h) (p : PS X e (RSt X W m')) : PS X e (RSt X W m) := by
  rw [show m = m' from funext fun ρ => funext fun x => h ρ x]; exact p
theorem PSs.to {e : List Stmt} {m m' : MS} (h : ∀ ρ h, m ρ h = m' ρ h) (p : PSs X e (RSt X W m')) : PSs X e (RSt X W m) := by
  rw [show m = m' from funext fun ρ => funext fun x => h ρ x]; exact p
theorem pts_yes : PTs X [] (RT X W fun _ h => .ok true h) := ⟨fun pins s σ H Q I q => pts_nil.run pins s σ H Q I (by
  obtain ⟨φ, ρ, h, rh, ts, p⟩ := q
  exact p φ H (Bh.refl rh))⟩
theorem pts_1 {x : Expr} {m : MT} (h : PT X x (RT X W m)) : PTs X [x] (RT X W m) := pts_one h
/-- the two readings of a name that is walked -/
def mQ (i : Nat) : MI := fun ρ h => (mV i ρ h).bind fun x h => ofO (seqOf x h) h
theorem var_or {Z : Sg} (i : Nat) (ρ : Y.Env) (h : Y.Hp) : evI Z (.var i) ρ h = mD (·.1) i ρ h ∨ evI Z (.var i) ρ h = mQ i ρ h := by
  rw [evI]
  unfold mD mQ mV
  cases e0 : ρ[i]? with
  | none => left; rfl
  | some o => cases o with
    | none => left; rfl
    | some d =>
      simp only [Res.bind_ok]
      unfold srcOf
      cases e : dict? d h with
      | none => right; rfl
      | some x => left; rfl
theorem mLc_eq {t : T} {mi mi' : MI} {mt : MT} {me : ME} {ρ : Y.Env} {h : Y.Hp} (e : mi ρ h = mi' ρ h) : mLc t mi mt me ρ h = mLc t mi' mt me ρ h := by unfold mLc; rw [e]
theorem mFor_eq {t : T} {mi mi' : MI} {mb : MS} {ρ : Y.Env} {h : Y.Hp} (e : mi ρ h = mi' ρ h) : mFor t mi mb ρ h = mFor t mi' mb ρ h := by unfold mFor; rw [e]
theorem PE.both {e : Expr} {m m1 m2 : ME} (h1 : PE X e (RE X W m1)) (h2 : PE X e (RE X W m2)) (h : ∀ ρ h, m ρ h = m1 ρ h ∨ m ρ h = m2 ρ h) : PE X e (RE X W m) := PE.imp (PE.or h1 h2) fun σ H Q q => by
  obtain ⟨φ, ρ, hh, rh, ts, p⟩ := q
  rcases h ρ hh with e | e
  · exact .inl ⟨φ, ρ, hh, rh, ts, by rw [← e]; exact p⟩
  · exact .inr ⟨φ, ρ, hh, rh, ts, by rw [← e]; exact p⟩
theorem PS.both {e : Stmt} {m m1 m2 : MS} (h1 : PS X e (RSt X W m1)) (h2 : PS X e (RSt X W m2)) (h : ∀ ρ h, m ρ h = m1 ρ h ∨ m ρ h = m2 ρ h) : PS X e (RSt X W m) := PS.imp (PS.or h1 h2) fun D σ H q => by
  obtain ⟨φ, ρ, hh, rh, ts, p⟩ := q
  rcases h ρ hh with e | e
  · exact .inl ⟨φ, ρ, hh, rh, ts, by rw [← e]; exact p⟩
  · exact .inr ⟨φ, ρ, hh, rh, ts, by rw [← e]; exact p⟩
end
/-- the sources that need no lock -/
def I.seq : I → Bool
  | .var _ => false
  | .vals _ => false
  | .items _ => false
  | _ => true
theorem own_slots {N : List Str} (t : T) : (t.slots.map fun i => (N.getD i "", i)).map (·.2) = t.slots := by
  rw [List.map_map]
  exact (List.map_congr_left fun _ _ => rfl).trans (List.map_id _)
theorem tup_of {e : Expr} (h : isTupE e = true) : ∃ es kk p, e = .Tuple es kk p := by
  cases e <;> first | (simp [isTupE] at h; done) | exact ⟨_, _, _, rfl⟩
section
variable {k : Nat} {Z : Sg}
theorem ok_v {X : Cx} {W : WX} {c : Ct} (sd : Sd X W c k Z) {i : Nat} {x : Str} {p : Pos} (h1 : c.N[i]? = some x) (h2 : visB c.sc x = true) (h3 : (x == ("__debug__" : Str)) = false) (h4 : (x == ("__classdict__" : Str)) = false) : PE X (.Name x p) (RE X W (mV i)) :=
  PE.to (fun ρ h => rfl) (c_var (by rw [sd.N]; exact h1) (sd.vis h2) h3 h4)
mutual
theorem okE : ∀ (m : E) {X : Cx} {W : WX} {c : Ct} (sd : Sd X W c k Z) (e : Expr), ckE c m e = true → PE X e (RE X W (evE Z m))
  | .no, X, W, c, sd, e, h => PE.to (fun ρ h => by rw [evE]) ce_bad
  | .c d, X, W, c, sd, e, h => by
    unfold ckE at h
    split at h
    · rename_i kk _ _
      cases d <;> cases kk <;> simp [ckK] at h <;> subst_vars
      · exact PE.to (fun ρ h => by rw [evE]) c_non
      · exact PE.to (fun ρ h => by rw [evE]) c_bl
      · exact PE.to (fun ρ h => by rw [evE]) c_int
      · exact PE.to (fun ρ h => by rw [evE]) c_str
    · cases h
  | .v i, X, W, c, sd, e, h => by
    unfold ckE at h
    split at h
    · simp only [Bool.and_eq_true, Bool.not_eq_true', decide_eq_true_eq] at h
      exact PE.to (fun ρ h => by rw [evE]; try rfl) (ok_v sd h.1.1.1 h.1.1.2 h.1.2 h.2)
    · cases h
  | .g n, X, W, c, sd, e, h => by
    unfold ckE at h
    split at h
    · simp only [Bool.and_eq_true, Bool.not_eq_true', decide_eq_true_eq] at h
      obtain ⟨u, v, d, h1, h2, h3, h4⟩ := sd.gs n (by simpa using h.1.2)
      exact PE.to (fun ρ h => by rw [evE, h3]; try rfl) (PE.imp (pe_glob (v := v) (sd.gl h.1.1.2) (by rw [h.1.1.1]; exact h1) h2 h.2) fun _ _ _ => re_const h4)
    · cases h
  | .bin o a b, X, W, c, sd, e, h => by
    unfold ckE at h
    split at h
    · simp only [Bool.and_eq_true] at h
      exact PE.to (fun ρ h => by rw [evE]) (c_bin (op_of h.1.1) (okE a sd _ h.1.2) (okE b sd _ h.2))
    · cases h
  | .neg a, X, W, c, sd, e, h => by
    unfold ckE at h
    split at h
    · exact PE.to (fun ρ h => by rw [evE]; try rfl) (c_neg (okE a sd _ h))
    · cases h
  | .not t, X, W, c, sd, e, h => by
    unfold ckE at h
    split at h
    · split at h
      · rename_i a
        exact PE.to (fun ρ h => by rw [evE, evC]) (c_not (okE a sd _ h))
      · cases h
    · cases h
  | .cmp o a b, X, W, c, sd, e, h => by
    unfold ckE at h
    split at h
    · simp only [Bool.and_eq_true] at h
      exact PE.to (fun ρ h => by rw [evE]) (c_cmp (cm_of sd.un h.1.1.1) (okE a sd _ h.1.2) (okE b sd _ h.2) (mark_of h.1.1.2))
    · cases h
  | .cmp2 o p a b d, X, W, c, sd, e, h => by
    unfold ckE at h
    split at h
    · simp only [Bool.and_eq_true] at h
      exact PE.to (fun ρ h => by rw [evE]; try rfl) (c_cmp2 (cm_of sd.un h.1.1.1.1.1) (cm_of sd.un h.1.1.1.1.2) (okE a sd _ h.1.1.2) (okE b sd _ h.1.2) (okE d sd _ h.2) (marks_of h.1.1.1.2))
    · cases h
  | .and a b, X, W, c, sd, e, h => by
    unfold ckE at h
    split at h
    · simp only [Bool.and_eq_true] at h
      exact PE.to (fun ρ h => by rw [evE]; try rfl) (c_and (okE a sd _ h.1) (c_one (okE b sd _ h.2)))
    · simp only [Bool.and_eq_true] at h
      exact PE.to (fun ρ h => by rw [evE]; try rfl) (c_and (okE a sd _ h.1) (okE b sd _ h.2))
    · cases h
  | .or a b, X, W, c, sd, e, h => by
    unfold ckE at h
    split at h
    · simp only [Bool.and_eq_true] at h
      exact PE.to (fun ρ h => by rw [evE]; try rfl) (c_or (okE a sd _ h.1) (c_one (okE b sd _ h.2)))
    · simp only [Bool.and_eq_true] at h
      exact PE.to (fun ρ h => by rw [evE]; try rfl) (c_or (okE a sd _ h.1) (okE b sd _ h.2))
    · cases h
  | .ite t a b, X, W, c, sd, e, h => by
    unfold ckE at h
    split at h
    · simp only [Bool.and_eq_true] at h
      exact PE.to (fun ρ h => by rw [evE]) (c_ite (okC t sd _ h.1.1) (okE a sd _ h.1.2) (okE b sd _ h.2))
    · cases h
  | .tup es, X, W, c, sd, e, h => by
    unfold ckE at h
    split at h
    · simp only [Bool.and_eq_true, decide_eq_true_eq] at h
      exact PE.to (fun ρ h => by rw [evE]) (c_tup (okEs es sd _ h.2) (few_of h.1))
    · cases h
  | .lst es, X, W, c, sd, e, h => by
    unfold ckE at h
    split at h
    · simp only [Bool.and_eq_true, decide_eq_true_eq] at h
      exact PE.to (fun ρ h => by rw [evE]) (c_lst (okEs es sd _ h.2) (few_of h.1))
    · cases h
  | .dict0, X, W, c, sd, e, h => by
    unfold ckE at h
    split at h
    · exact PE.to (fun ρ h => by rw [evE]) c_dict0
    · cases h
  | .dict1 a b, X, W, c, sd, e, h => by
    unfold ckE at h
    split at h
    · simp only [Bool.and_eq_true] at h
      exact PE.to (fun ρ h => by rw [evE]) (c_dict1 (by have := sd.un; omega) (okE a sd _ h.1) (okE b sd _ h.2))
    · cases h
  | .idx a b, X, W, c, sd, e, h => by
    unfold ckE at h
    split at h
    · simp only [Bool.and_eq_true] at h
      exact PE.to (fun ρ h => by rw [evE]) (c_idx (by have := sd.un; omega) (okE a sd _ h.1.2) (okE b sd _ h.2) (plain_of h.1.1))
    · cases h
  | .slc a lo hi, X, W, c, sd, e, h => by
    unfold ckE at h
    split at h
    · simp only [Bool.and_eq_true] at h
      exact PE.to (fun ρ h => by rw [evE]) (c_slc (okE a sd _ h.1.1) (okO lo sd _ h.1.2) (okO hi sd _ h.2))
    · cases h
  | .rev a, X, W, c, sd, e, h => by
    unfold ckE at h
    split at h
    · exact PE.to (fun ρ h => by rw [evE]; try rfl) (c_rev (okE a sd _ h))
    · cases h
  | .att a f, X, W, c, sd, e, h => by
    unfold ckE at h
    cases h
  | .call f es, X, W, c, sd, e, h => by
    unfold ckE at h
    split at h
    · simp only [Bool.and_eq_true, Bool.not_eq_true', decide_eq_true_eq] at h
      exact PE.to (fun ρ h => by rw [evE]) (c_call sd h.1.1.2 h.1.1.1.1 (sd.gl h.1.1.1.2) h.1.2 rfl (okEs es sd _ h.2) (ckEs_star h.2).1)
    · cases h
  | .bi b es, X, W, c, sd, e, h => by
    unfold ckE at h
    split at h
    · simp only [Bool.and_eq_true] at h
      obtain ⟨h1, h2, h3⟩ := sd.bn h.1
      obtain ⟨b1, b2, b3⟩ := bi_boot b
      have hs := (ckEs_star h.2).1
      rw [List.all_cons, Bool.and_eq_true] at hs
      exact PE.to (fun ρ h => by rw [evE]) (c_bi sd.calm h2 h3 (by rw [h1]; exact b1) (okEs es sd _ h.2) (by rw [h1]; exact b2) (by rw [h1]; exact b3) (star_cons hs.1) (bk_any hs.2))
    · cases h
  | .isi a ts, X, W, c, sd, e, h => by
    unfold ckE at h
    split at h
    · split at h
      · simp only [Bool.and_eq_true, decide_eq_true_eq] at h
        obtain ⟨h1, h2, h3⟩ := sd.bn h.1.1.1.1
        obtain ⟨g1, g2, g3⟩ := sd.bn h.1.1.2
        subst h1 g1
        exact PE.to (fun ρ h => by rw [evE]; try rfl) (c_isi (p3 := ⟨0, 0, 0, 0⟩) h2 h3 h.1.1.1.2 g2 g3 (okE a sd _ h.2) (star_cons h.1.2) (star_cons rfl) (bk_any rfl))
      · cases h
    · split at h
      · simp only [Bool.and_eq_true, decide_eq_true_eq] at h
        obtain ⟨h1, h2, h3⟩ := sd.bn h.1.1.1.1.1.1
        obtain ⟨g1, g2, g3⟩ := sd.bn h.1.1.1.2
        obtain ⟨f1, f2, f3⟩ := sd.bn h.1.1.2
        subst h1 g1 f1
        exact PE.to (fun ρ h => by rw [evE]; try rfl) (c_isiT h2 h3 h.1.1.1.1.1.2 h.1.1.1.1.2 g2 g3 f2 f3 (okE a sd _ h.2) (star_cons h.1.2) (star_cons rfl) (star_cons rfl) (star_cons rfl) (bk_any rfl))
      · cases h
    · cases h
  | .mt a m es, X, W, c, sd, e, h => by
    unfold ckE at h
    split at h
    · rename_i x n ap ys p
      simp only [Bool.and_eq_true, decide_eq_true_eq] at h
      obtain ⟨⟨⟨⟨⟨h1, h2⟩, h3⟩, h4⟩, h5⟩, h6⟩ := h
      subst h1
      cases ys with
      | nil =>
        cases es with
        | nil => exact PE.to (fun ρ h => by rw [evE]; simp only [evEs]; try rfl) (c_mt0 (mks sd.un m) (okE a sd _ h5) (base_of h2) h3)
        | cons _ _ => unfold ckEs at h6; cases h6
      | cons y ys =>
        have hs := (ckEs_star h6).1
        have hs' := hs
        rw [List.all_cons, Bool.and_eq_true] at hs'
        refine PE.to (fun ρ h => by rw [evE]; try rfl) (c_mt (mks sd.un m) (okE a sd _ h5) (okEs es sd _ h6) (base_of h2) ?_ h3 (star_cons hs'.1) (bk_any hs'.2))
        rw [bk_all hs]
        simp [keywordEach, backToKw]
        simp at h4
        omega
    · cases h
  | .lof i, X, W, c, sd, e, h => by
    unfold ckE at h
    split at h
    · split at h
      · rename_i a
        simp only [Bool.and_eq_true] at h
        obtain ⟨h1, h2, h3⟩ := sd.bn h.1.1.1
        obtain ⟨g1, g2, g3⟩ := sd.bn h.1.1.2
        subst h1 g1
        exact PE.to (fun ρ h => by rw [evE, evI]) (c_lrg1 sd.calm h2 h3 g2 g3 (okE a sd _ h.2) (star_cons h.1.2) (star_cons rfl))
      · cases h
    · split at h
      · rename_i a b
        simp only [Bool.and_eq_true] at h
        obtain ⟨h1, h2, h3⟩ := sd.bn h.1.1.1.1.1
        obtain ⟨g1, g2, g3⟩ := sd.bn h.1.1.1.1.2
        subst h1 g1
        exact PE.to (fun ρ h => by rw [evE, evI]) (c_lrg2 sd.calm h2 h3 g2 g3 (okE a sd _ h.1.2) (okE b sd _ h.2) (star_cons h.1.1.1.2) (star_cons h.1.1.2) (bk_any (by simp [h.1.1.2])) (star_cons rfl))
      · cases h
    · cases h
  | .trev a, X, W, c, sd, e, h => by
    unfold ckE at h
    split at h
    · simp only [Bool.and_eq_true] at h
      obtain ⟨h1, h2, h3⟩ := sd.bn h.1.1.1
      obtain ⟨g1, g2, g3⟩ := sd.bn h.1.1.2
      subst h1 g1
      exact PE.to (fun ρ h => by rw [evE]; try rfl) (c_trev sd.calm h2 h3 g2 g3 (okE a sd _ h.2) (star_cons h.1.2) (star_cons rfl))
    · cases h
  | .vls s i, X, W, c, sd, e, h => by
    unfold ckE at h
    split at h
    · simp only [Bool.and_eq_true, Bool.not_eq_true', decide_eq_true_eq] at h
      obtain ⟨⟨⟨⟨⟨⟨⟨h1, h2⟩, h3⟩, h4⟩, h5⟩, h6⟩, h7⟩, h8⟩ := h
      obtain ⟨g1, g2, g3⟩ := sd.bn h2
      subst g1 h1 h3
      exact PE.to (fun ρ h => by rw [evE]; try rfl) (c_sumV sd.calm g2 g3 (ok_v sd h5 h6 h7 h8) (base_of rfl) h4 (star_cons rfl))
    · cases h
  | .lc e t i cs, X, W, c, sd, x, h => by
    unfold ckE at h
    split at h
    · rename_i y tg iter ifs sc p
      simp only [Bool.and_eq_true] at h
      obtain ⟨⟨⟨⟨⟨h1, h2⟩, h3⟩, h4⟩, h5⟩, h6⟩ := h
      have ok0 : BlkOk c.N c.sc sc _ := blkOk_by h2
      have ok : BlkOk X.N X.env.scope sc (t.slots.map fun i => (c.N.getD i "", i)) := by
        rw [sd.N]
        exact ⟨ok0.kind, ok0.uniq, ok0.ix, fun y hy e => (ok0.free y hy e).elim (fun q => .inl (sd.rel.cell _ q)) (fun q => sd.rel.free _ q), ok0.own⟩
      have hg : ∀ (s : Shared) (H : L2.Hp) (C : Addr) (cl : List (Str × Addr)) (fp : List Addr), PG (X.blk s H sc (compEnvC sc cl C X.env) fp) tg (RG X t) := fun s H C cl fp => okT (sd.blk ok0.kind) t tg h4
      have ht : ∀ (s : Shared) (H : L2.Hp) (C : Addr) (cl : List (Str × Addr)) (fp : List Addr), PTs (X.blk s H sc (compEnvC sc cl C X.env) fp) ifs (RT X WF (evCs Z cs)) := fun s H C cl fp => okCs cs (sd.blk ok0.kind) ifs h6
      have he : ∀ (s : Shared) (H : L2.Hp) (C : Addr) (cl : List (Str × Addr)) (fp : List Addr), PE (X.blk s H sc (compEnvC sc cl C X.env) fp) y (RE X WF (evE Z e)) := fun s H C cl fp => okE e (sd.blk ok0.kind) y h5
      have go : ∀ {mi : MI}, PI X tg iter (RI X W mi) → PE X (.ListComp y [⟨tg, iter, ifs, 0⟩] sc p) (RE X W (mLc t mi (evCs Z cs) (evE Z e))) := fun hi => c_lc sd.calm sd.nd hi ok (own_slots t) hg ht he (fold_of h1)
      have goD : ∀ {J : Addr → Obj → List (V × V) → It} {f : Y.D × Y.D → Y.D} {j : Nat}, JD J f → PI X tg iter (iX X J (RE X W (mV j))) → PE X (.ListComp y [⟨tg, iter, ifs, 0⟩] sc p) (RE X W (mLc t (mD f j) (evCs Z cs) (evE Z e))) := fun jd hi => c_lcD jd sd.calm sd.nd hi ok (own_slots t) hg ht he (fold_of h1)
      have eq : ∀ ρ h, evE Z (.lc e t i cs) ρ h = mLc t (evI Z i) (evCs Z cs) (evE Z e) ρ h := fun ρ h => by rw [evE]; try rfl
      by_cases hsq : i.seq = true
      · exact PE.to eq (go (okI i sd tg iter hsq h3))
      · cases i with
        | var j =>
          unfold ckI at h3
          split at h3
          · simp only [Bool.and_eq_true, Bool.not_eq_true', decide_eq_true_eq] at h3
            have hv := ok_v sd (p := by assumption) h3.1.1.1 h3.1.1.2 h3.1.2 h3.2
            exact PE.both (goD jd_k (pi_keysX hv)) (go (ci_val hv)) fun ρ h => (var_or j ρ h).elim (fun q => .inl ((eq ρ h).trans (mLc_eq q))) (fun q => .inr ((eq ρ h).trans (mLc_eq q)))
          · cases h3
        | vals j =>
          unfold ckI at h3
          split at h3
          · simp only [Bool.and_eq_true, Bool.not_eq_true', decide_eq_true_eq] at h3
            obtain ⟨⟨⟨⟨⟨g1, g2⟩, g3⟩, g4⟩, g5⟩, g6⟩ := h3
            subst g1
            exact PE.to (fun ρ h => (eq ρ h).trans (mLc_eq (by rw [evI]; try rfl))) (goD jd_v (pi_valuesX (ok_v sd g3 g4 g5 g6) (base_of rfl) g2))
          · cases h3
        | items j =>
          unfold ckI at h3
          split at h3
          · simp only [Bool.and_eq_true, Bool.not_eq_true', decide_eq_true_eq] at h3
            obtain ⟨⟨⟨⟨⟨⟨g0, g1⟩, g2⟩, g3⟩, g4⟩, g5⟩, g6⟩ := h3
            obtain ⟨es, kk, tp, rfl⟩ := tup_of g0
            subst g1
            exact PE.to (fun ρ h => (eq ρ h).trans (mLc_eq (by rw [evI]; try rfl))) (goD jd_i (pi_itemsX (ok_v sd g3 g4 g5 g6) (base_of rfl) g2))
          · cases h3
        | _ => exact absurd rfl hsq
    · cases h
theorem okC : ∀ (m : C) {X : Cx} {W : WX} {c : Ct} (sd : Sd X W c k Z) (e : Expr), ckC c m e = true → PT X e (RT X W (evC Z m))
  | .and a b, X, W, c, sd, e, h => by
    unfold ckC at h
    split at h
    · simp only [Bool.and_eq_true] at h
      exact PT.to (fun ρ h => by rw [evC]) (ct_and (okC a sd _ h.1) (pw_and1 (okC b sd _ h.2))).pt
    · simp only [Bool.and_eq_true] at h
      exact PT.to (fun ρ h => by rw [evC]) (ct_and (okC a sd _ h.1) (okW b sd _ _ _ h.2)).pt
    · cases h
  | .or a b, X, W, c, sd, e, h => by
    unfold ckC at h
    split at h
    · simp only [Bool.and_eq_true] at h
      exact PT.to (fun ρ h => by rw [evC]) (ct_or (okC a sd _ h.1) (pw_or1 (okC b sd _ h.2))).pt
    · simp only [Bool.and_eq_true] at h
      exact PT.to (fun ρ h => by rw [evC]) (ct_or (okC a sd _ h.1) (okW b sd _ _ _ h.2)).pt
    · cases h
  | .not a, X, W, c, sd, e, h => by
    unfold ckC at h
    split at h
    · exact PT.to (fun ρ h => by rw [evC]) (ct_not (okC a sd _ h))
    · cases h
  | .tr a, X, W, c, sd, e, h => by
    unfold ckC at h
    split at h
    · exact PT.to (fun ρ h => by rw [evC, evE]; try rfl) ct_bad
    · split at h
      · simp only [Bool.and_eq_true] at h
        exact PT.to (fun ρ h => by rw [evC, evE]) (ct_cmp (cm_of sd.un h.1.1.1) (okE _ sd _ h.1.2) (okE _ sd _ h.2) (mark_of h.1.1.2))
      · cases h
    · split at h
      · simp only [Bool.and_eq_true] at h
        exact PT.to (fun ρ h => by rw [evC, evE]; try rfl) (ct_cmp2 (cm_of sd.un h.1.1.1.1.1) (cm_of sd.un h.1.1.1.1.2) (okE _ sd _ h.1.1.2) (okE _ sd _ h.1.2) (okE _ sd _ h.2) (marks_of h.1.1.1.2))
      · cases h
    · simp only [Bool.and_eq_true] at h
      exact PT.to (fun ρ h => by rw [evC]) (ct_tru (okE a sd _ h.2) (true_of h.1))
theorem okW : ∀ (m : C) {X : Cx} {W : WX} {c : Ct} (sd : Sd X W c k Z) (op : BoolOp) (vs : List Expr) (p : Pos), ckC c m (.BoolOp op vs p) = true → PW X (.BoolOp op vs p) (RT X W (evC Z m))
  | .and a b, X, W, c, sd, op, vs, p, h => by
    unfold ckC at h
    split at h
    · rename_i e1
      cases e1
      simp only [Bool.and_eq_true] at h
      rw [show evC Z (.and a b) = fun ρ h => (evC Z a ρ h).bind fun x h => if x then evC Z b ρ h else .ok false h from funext fun ρ => funext fun h => by rw [evC]]
      exact ct_and (okC a sd _ h.1) (pw_and1 (okC b sd _ h.2))
    · rename_i e1
      cases e1
      simp only [Bool.and_eq_true] at h
      rw [show evC Z (.and a b) = fun ρ h => (evC Z a ρ h).bind fun x h => if x then evC Z b ρ h else .ok false h from funext fun ρ => funext fun h => by rw [evC]]
      exact ct_and (okC a sd _ h.1) (okW b sd _ _ _ h.2)
    · cases h
  | .or a b, X, W, c, sd, op, vs, p, h => by
    unfold ckC at h
    split at h
    · rename_i e1
      cases e1
      simp only [Bool.and_eq_true] at h
      rw [show evC Z (.or a b) = fun ρ h => (evC Z a ρ h).bind fun x h => if x then .ok true h else evC Z b ρ h from funext fun ρ => funext fun h => by rw [evC]]
      exact ct_or (okC a sd _ h.1) (pw_or1 (okC b sd _ h.2))
    · rename_i e1
      cases e1
      simp only [Bool.and_eq_true] at h
      rw [show evC Z (.or a b) = fun ρ h => (evC Z a ρ h).bind fun x h => if x then .ok true h else evC Z b ρ h from funext fun ρ => funext fun h => by rw [evC]]
      exact ct_or (okC a sd _ h.1) (okW b sd _ _ _ h.2)
    · cases h
  | .not a, X, W, c, sd, op, vs, p, h => by
    unfold ckC at h
    cases h
  | .tr a, X, W, c, sd, op, vs, p, h => by
    cases a with
    | no =>
      rw [show evC Z (.tr .no) = fun _ _ => .bad from funext fun ρ => funext fun h => by rw [evC, evE]; try rfl]
      exact ⟨fun _ _ _ _ _ _ _ ⟨_, _, _, _, _, p⟩ => (show False from p).elim⟩
    | _ => simp [ckC, tShape] at h
theorem okEs : ∀ (ms : List E) {X : Cx} {W : WX} {c : Ct} (sd : Sd X W c k Z) (es : List Expr), ckEs c ms es = true → PA X es (RA X W (evEs Z ms))
  | [], X, W, c, sd, es, h => by
    rw [ckEs] at h
    have : es = [] := by simpa using h
    subst this
    exact PA.to (fun ρ h => by rw [evEs]) ca_nil
  | m :: ms, X, W, c, sd, es, h => by
    unfold ckEs at h
    split at h
    · simp only [Bool.and_eq_true] at h
      exact PA.to (fun ρ h => by rw [evEs]) (ca_cons (okE m sd _ h.1.2) (okEs ms sd _ h.2) (star_cons h.1.1))
    · cases h
theorem okO : ∀ (m : Option E) {X : Cx} {W : WX} {c : Ct} (sd : Sd X W c k Z) (e : Option Expr), ckO c m e = true → PO X e (RO X W (evO Z m))
  | none, X, W, c, sd, e, h => by
    rw [ckO] at h
    have : e = none := by simpa using h
    subst this
    exact PO.to (fun ρ h => by rw [evO]) co_none
  | some m, X, W, c, sd, e, h => by
    unfold ckO at h
    split at h
    · exact PO.to (fun ρ h => by rw [evO]; try rfl) (co_some (okE m sd _ h))
    · cases h
theorem okCs : ∀ (ms : List C) {X : Cx} {W : WX} {c : Ct} (sd : Sd X W c k Z) (es : List Expr), ckCs c ms es = true → PTs X es (RT X W (evCs Z ms))
  | [], X, W, c, sd, es, h => by
    rw [ckCs] at h
    have : es = [] := by simpa using h
    subst this
    exact PTs.to (fun ρ h => by rw [evCs]) pts_yes
  | m :: ms, X, W, c, sd, es, h => by
    unfold ckCs at h
    split at h
    · simp only [Bool.and_eq_true] at h
      have : ms = [] := by simpa using h.1
      subst this
      refine PTs.to (fun ρ h => ?_) (pts_1 (okC m sd _ h.2))
      rw [evCs]
      cases evC Z m ρ h with
      | ok b h' => simp only [Res.bind_ok]; cases b <;> simp [evCs]
      | exc _ _ _ => rfl
      | bad => rfl
    · cases h
theorem okI : ∀ (m : I) {X : Cx} {W : WX} {c : Ct} (sd : Sd X W c k Z) (tg e : Expr), m.seq = true → ckI c m tg e = true → PI X tg e (RI X W (evI Z m))
  | .no, X, W, c, sd, tg, e, hq, h => PI.to (fun ρ h => by rw [evI]) ci_bad
  | .val a, X, W, c, sd, tg, e, hq, h => by
    unfold ckI at h
    exact PI.to (fun ρ h => by rw [evI]) (ci_val (okE a sd _ h))
  | .var i, X, W, c, sd, tg, e, hq, h => by cases hq
  | .vals i, X, W, c, sd, tg, e, hq, h => by cases hq
  | .items i, X, W, c, sd, tg, e, hq, h => by cases hq
  | .rng a, X, W, c, sd, tg, e, hq, h => by
    unfold ckI at h
    split at h
    · simp only [Bool.and_eq_true] at h
      obtain ⟨h1, h2, h3⟩ := sd.bn h.1.1
      subst h1
      exact PI.to (fun ρ h => by rw [evI]) (ci_rng1 h2 h3 (okE a sd _ h.2) (star_cons h.1.2))
    · cases h
  | .rng2 a b, X, W, c, sd, tg, e, hq, h => by
    unfold ckI at h
    split at h
    · simp only [Bool.and_eq_true] at h
      obtain ⟨h1, h2, h3⟩ := sd.bn h.1.1.1.1
      subst h1
      exact PI.to (fun ρ h => by rw [evI]) (ci_rng2 h2 h3 (okE a sd _ h.1.2) (okE b sd _ h.2) (star_cons h.1.1.1.2) (star_cons h.1.1.2))
    · cases h
  | .enum a, X, W, c, sd, tg, e, hq, h => by
    unfold ckI at h
    split at h
    · simp only [Bool.and_eq_true] at h
      obtain ⟨h1, h2, h3⟩ := sd.bn h.1.1.2
      obtain ⟨es, kk, tp, rfl⟩ := tup_of h.1.1.1
      subst h1
      exact PI.to (fun ρ h => by rw [evI]) (ci_enum h2 h3 (okE a sd _ h.2) (star_cons h.1.2))
    · cases h
  | .zip a b, X, W, c, sd, tg, e, hq, h => by
    unfold ckI at h
    split at h
    · simp only [Bool.and_eq_true] at h
      obtain ⟨h1, h2, h3⟩ := sd.bn h.1.1.1.1.2
      obtain ⟨es, kk, tp, rfl⟩ := tup_of h.1.1.1.1.1
      subst h1
      exact PI.to (fun ρ h => by rw [evI]) (ci_zip h2 h3 (okE a sd _ h.1.2) (okE b sd _ h.2) (star_cons h.1.1.1.2) (star_cons h.1.1.2) (bk_any (by simp [h.1.1.2])))
    · cases h
  | .revd a, X, W, c, sd, tg, e, hq, h => by
    unfold ckI at h
    split at h
    · simp only [Bool.and_eq_true] at h
      obtain ⟨h1, h2, h3⟩ := sd.bn h.1.1
      subst h1
      exact PI.to (fun ρ h => by rw [evI]) (ci_rev h2 h3 (okE a sd _ h.2) (star_cons h.1.2))
    · cases h
end
end
end Y

set_option Elab.async false
set_option linter.all false
set_option maxRecDepth 100000
set_option maxHeartbeats 1000000
/-! The check is sound: statements, defs. -/
namespace Y
open PySem PySem.Spec PyProof.Rows L2 RT RZ

theorem sw_scope (tg : Expr) (e : Expr) (line : Nat) (env : PySem.Env) : swapsWithSole [tg] e line env = swapsWithSole [tg] e line (envS env.scope) := by
  show swapsWith e (some tg) line env = swapsWith e (some tg) line (envS env.scope)
  unfold swapsWith Env.kindOf Env.blockKind envS
  rfl
theorem st_scope (t : List Expr) (e : Expr) (env : PySem.Env) : swappedStores t e env = swappedStores t e (envS env.scope) := by
  unfold swappedStores Env.kindOf Env.blockKind envS
  rfl
theorem dr_scope (e : Expr) (line : Nat) (env : PySem.Env) : swapsWith e none line env = swapsWith e none line (envS env.scope) := by
  unfold swapsWith Env.kindOf Env.blockKind envS
  rfl
theorem sw_of {sc : Scope} {tg e : Expr} {line : Nat} {s : Sw} {env : PySem.Env} (he : env.scope = sc) (h : swOf sc tg e line = s) :
    (s = .lc → swapsWithSole [tg] e line env = pure true) ∧ (s = .plain → swapsWithSole [tg] e line env = pure false ∧ swappedStores [tg] e env = pure none) ∧ ∀ xs, s = .par xs → swapsWithSole [tg] e line env = pure false ∧ swappedStores [tg] e env = pure (some xs) := by
  rw [sw_scope, st_scope, he]
  unfold swOf at h
  split at h <;> subst h
  · rename_i e1; exact ⟨fun _ => e1, fun z => (nomatch z), fun _ z => (nomatch z)⟩
  · rename_i e1 e2; exact ⟨fun z => (nomatch z), fun _ => ⟨e1, e2⟩, fun _ z => (nomatch z)⟩
  · rename_i e1 e2; exact ⟨fun z => (nomatch z), fun z => (nomatch z), fun _ z => by cases z; exact ⟨e1, e2⟩⟩
  · exact ⟨fun z => (nomatch z), fun z => (nomatch z), fun _ z => (nomatch z)⟩
theorem drop_of {sc : Scope} {e : Expr} {line : Nat} {env : PySem.Env} (he : env.scope = sc) (h : dropOk sc e line = true) : swapsWith e none line env = pure false := by
  rw [dr_scope, he]
  unfold dropOk at h
  split at h
  · assumption
  · cases h
theorem sub_of {o i : Expr} {spos : Pos} {env : PySem.Env} (h : plainI i = true) : ∀ v, assign (.Subscript o i spos) env v = (do
      let ov ← holding [v] (eval o env)
      let iv ← holding [v, ov] (eval i env)
      standAt spos
      holding [v, ov, iv] (setItem ov iv v)
      release [v, ov, iv] []) := by
  intro v
  cases i <;> first | rfl | (simp [plainI] at h)
theorem asg_one {tg : Expr} {env : PySem.Env} (h : noStar tg = true) : (assignEach [tg] env).map (·.2) = [assign tg env] := by
  cases tg <;> first | rfl | (simp [noStar] at h)
section
variable {k : Nat} {Z : Sg}
theorem okSetLc {X : Cx} {W : WX} {c : Ct} (sd : Sd X W c k Z) {e : E} {t : T} {i : I} {cs : List C} {x : Expr} {n : Nat} {y : Str} {py spos : Pos} (h : ckE c (.lc e t i cs) x = true) (hy : X.N[n]? = some y) (hyl : X.env.scope.names.lookup y = some .local)
    (hsw : swapsWithSole [.Name y py] x spos.line X.env = pure true) : PS X (.Assign [.Name y py] x spos) (RSt X W (mAsg (.nm n) (evE Z (.lc e t i cs)))) := by
  unfold ckE at h
  split at h
  · rename_i y2 tg iter ifs sc p
    simp only [Bool.and_eq_true] at h
    obtain ⟨⟨⟨⟨⟨h1, h2⟩, h3⟩, h4⟩, h5⟩, h6⟩ := h
    have ok0 : BlkOk c.N c.sc sc _ := blkOk_by h2
    have ok : BlkOk X.N X.env.scope sc (t.slots.map fun i => (c.N.getD i "", i)) := by
      rw [sd.N]
      exact ⟨ok0.kind, ok0.uniq, ok0.ix, fun y hy e => (ok0.free y hy e).elim (fun q => .inl (sd.rel.cell _ q)) (fun q => sd.rel.free _ q), ok0.own⟩
    have hg : ∀ (s : Shared) (H : L2.Hp) (C : Addr) (cl : List (Str × Addr)) (fp : List Addr), PG (X.blk s H sc (compEnvC sc cl C X.env) fp) tg (RG X t) := fun s H C cl fp => okT (sd.blk ok0.kind) t tg h4
    have ht : ∀ (s : Shared) (H : L2.Hp) (C : Addr) (cl : List (Str × Addr)) (fp : List Addr), PTs (X.blk s H sc (compEnvC sc cl C X.env) fp) ifs (RT X WF (evCs Z cs)) := fun s H C cl fp => okCs cs (sd.blk ok0.kind) ifs h6
    have he : ∀ (s : Shared) (H : L2.Hp) (C : Addr) (cl : List (Str × Addr)) (fp : List Addr), PE (X.blk s H sc (compEnvC sc cl C X.env) fp) y2 (RE X WF (evE Z e)) := fun s H C cl fp => okE e (sd.blk ok0.kind) y2 h5
    have go : ∀ {mi : MI}, PI X tg iter (RI X W mi) → PS X (.Assign [.Name y py] (.ListComp y2 [⟨tg, iter, ifs, 0⟩] sc p) spos) (RSt X W (mAsg (.nm n) (mLc t mi (evCs Z cs) (evE Z e)))) := fun hi => c_setLc sd.calm sd.nd hy hyl hsw hi ok (own_slots t) hg ht he (fold_of h1)
    have goD : ∀ {J : Addr → Obj → List (V × V) → It} {f : Y.D × Y.D → Y.D} {j : Nat}, JD J f → PI X tg iter (iX X J (RE X W (mV j))) → PS X (.Assign [.Name y py] (.ListComp y2 [⟨tg, iter, ifs, 0⟩] sc p) spos) (RSt X W (mAsg (.nm n) (mLc t (mD f j) (evCs Z cs) (evE Z e)))) := fun jd hi => c_setLcD jd sd.calm sd.nd hy hyl hsw hi ok (own_slots t) hg ht he (fold_of h1)
    have eq : ∀ {mi : MI} ρ h, evI Z i ρ h = mi ρ h → mAsg (.nm n) (evE Z (.lc e t i cs)) ρ h = mAsg (.nm n) (mLc t mi (evCs Z cs) (evE Z e)) ρ h := fun ρ h q => by
      unfold mAsg
      rw [evE, ← mLc_eq q]; try rfl
    by_cases hsq : i.seq = true
    · exact PS.to (fun ρ h => eq ρ h rfl) (go (okI i sd tg iter hsq h3))
    · cases i with
      | var j =>
        unfold ckI at h3
        split at h3
        · simp only [Bool.and_eq_true, Bool.not_eq_true', decide_eq_true_eq] at h3
          have hv := ok_v sd (p := by assumption) h3.1.1.1 h3.1.1.2 h3.1.2 h3.2
          exact PS.both (goD jd_k (pi_keysX hv)) (go (ci_val hv)) fun ρ h => (var_or j ρ h).elim (fun q => .inl (eq ρ h q)) (fun q => .inr (eq ρ h q))
        · cases h3
      | vals j =>
        unfold ckI at h3
        split at h3
        · simp only [Bool.and_eq_true, Bool.not_eq_true', decide_eq_true_eq] at h3
          obtain ⟨⟨⟨⟨⟨g1, g2⟩, g3⟩, g4⟩, g5⟩, g6⟩ := h3
          subst g1
          exact PS.to (fun ρ h => eq ρ h (by rw [evI]; try rfl)) (goD jd_v (pi_valuesX (ok_v sd g3 g4 g5 g6) (base_of rfl) g2))
        · cases h3
      | items j =>
        unfold ckI at h3
        split at h3
        · simp only [Bool.and_eq_true, Bool.not_eq_true', decide_eq_true_eq] at h3
          obtain ⟨⟨⟨⟨⟨⟨g0, g1⟩, g2⟩, g3⟩, g4⟩, g5⟩, g6⟩ := h3
          obtain ⟨es, kk, tp, rfl⟩ := tup_of g0
          subst g1
          exact PS.to (fun ρ h => eq ρ h (by rw [evI]; try rfl)) (goD jd_i (pi_itemsX (ok_v sd g3 g4 g5 g6) (base_of rfl) g2))
        · cases h3
      | _ => exact absurd rfl hsq
  · cases h
mutual
theorem okS : ∀ (m : S) {X : Cx} {W : WX} {c : Ct} (sd : Sd X W c k Z) (hsc : X.env.scope = c.sc) (st : Stmt), ckS c m st = true → PS X st (RSt X W (evS Z m))
  | .no, X, W, c, sd, hsc, st, h => PS.to (fun ρ h => by rw [evS]) cs_bad
  | .asg t e, X, W, c, sd, hsc, st, h => by
    have eq : ∀ ρ h, evS Z (.asg t e) ρ h = mAsg t (evE Z e) ρ h := fun ρ h => by rw [evS]; try rfl
    unfold ckS at h
    split at h
    · rename_i tg x p
      split at h
      · rename_i e1
        simp only [Bool.and_eq_true] at h
        obtain ⟨g1, g2⟩ := (sw_of hsc e1).2.1 rfl
        exact PS.to eq (c_asg (okE e sd _ h.2) (okT sd t _ h.1.2) g1 g2 (asg_one h.1.1))
      · rename_i e1
        have g1 := (sw_of hsc e1).1 rfl
        split at h
        · split at h
          · simp only [Bool.and_eq_true, decide_eq_true_eq] at h
            exact PS.to eq (okSetLc sd h.2 (by rw [sd.N]; exact h.1.1) (by rw [hsc]; exact h.1.2) g1)
          · cases h
        · cases h
      · rename_i xs e1
        obtain ⟨g1, g2⟩ := (sw_of hsc e1).2.2 xs rfl
        split at h
        · simp only [Bool.and_eq_true, decide_eq_true_eq] at h
          obtain ⟨⟨⟨⟨⟨⟨h1, h2⟩, h3⟩, h4⟩, h5⟩, h6⟩, h7⟩ := h
          subst h1
          exact PS.to (fun ρ h => by rw [eq]; unfold mAsg; rw [evE]) (c_par sd.calm sd.nd (by rw [sd.N]; exact h2) (by rw [sd.N]; exact h3) h4 (by rw [hsc]; exact h5) (by rw [hsc]; exact h6) (okEs _ sd _ h7) g2 g1)
        · simp only [Bool.and_eq_true, decide_eq_true_eq] at h
          obtain ⟨⟨⟨⟨⟨⟨⟨⟨⟨⟨h1, h2⟩, h3⟩, h4⟩, h5⟩, h6⟩, h7⟩, h8⟩, h9⟩, h10⟩, h11⟩ := h
          subst h1
          exact PS.to (fun ρ h => by rw [eq]; unfold mAsg; rw [evE]) (c_par3 sd.calm sd.nd (by rw [sd.N]; exact h2) (by rw [sd.N]; exact h3) (by rw [sd.N]; exact h4) h5 h6 h7 (by rw [hsc]; exact h8) (by rw [hsc]; exact h9) (by rw [hsc]; exact h10) (okEs _ sd _ h11) g2 g1)
        · cases h
      · cases h
    · cases h
  | .aug i o e, X, W, c, sd, hsc, st, h => by
    unfold ckS at h
    split at h
    · simp only [Bool.and_eq_true, decide_eq_true_eq] at h
      exact PS.to (fun ρ h => by rw [evS]; try rfl) (c_aug sd.nd (by rw [sd.N]; exact h.1.1.1) (sd.loc h.1.1.2) (okE e sd _ h.2) (aug_of h.1.2) (sd.fn _ h.1.1.2))
    · cases h
  | .sto a b e, X, W, c, sd, hsc, st, h => by
    unfold ckS at h
    split at h
    · split at h
      · rename_i e1
        simp only [Bool.and_eq_true] at h
        obtain ⟨g1, g2⟩ := (sw_of hsc e1).2.1 rfl
        exact PS.to (fun ρ h => by rw [evS]; try rfl) (c_sto (by have := sd.un; omega) (okE a sd _ h.1.1.2) (okE b sd _ h.1.2) (okE e sd _ h.2) (sub_of h.1.1.1) g1 g2 rfl)
      · cases h
    · cases h
  | .fld _ _ _, X, W, c, sd, hsc, st, h => by unfold ckS at h; cases h
  | .ex e, X, W, c, sd, hsc, st, h => by
    unfold ckS at h
    split at h
    · simp only [Bool.and_eq_true] at h
      exact PS.to (fun ρ h => by rw [evS]) (c_ex (okE e sd _ h.2) (drop_of hsc h.1))
    · cases h
  | .iff t a b, X, W, c, sd, hsc, st, h => by
    unfold ckS at h
    split at h
    · simp only [Bool.and_eq_true] at h
      exact PS.to (fun ρ h => by rw [evS]) (c_iff (okC t sd _ h.1.1) (okSs a sd hsc _ h.1.2) (okSs b sd hsc _ h.2))
    · cases h
  | .whl t a, X, W, c, sd, hsc, st, h => by
    unfold ckS at h
    split at h
    · simp only [Bool.and_eq_true] at h
      exact PS.to (fun ρ h => by rw [evS, sd.wh]) (c_whl (ps_while sd.po) (okC t sd _ h.1) (okSs a sd hsc _ h.2))
    · cases h
  | .for_ t i b, X, W, c, sd, hsc, st, h => by
    unfold ckS at h
    split at h
    · rename_i tg iter body p
      simp only [Bool.and_eq_true] at h
      obtain ⟨⟨⟨h1, h3⟩, h4⟩, h5⟩ := h
      have hg := okT sd t tg h4
      have hb := okSs b sd hsc body h5
      have eq : ∀ ρ h, evS Z (.for_ t i b) ρ h = mFor t (evI Z i) (evSs Z b) ρ h := fun ρ h => by rw [evS]; try rfl
      have go : ∀ {mi : MI}, PI X tg iter (RI X W mi) → PS X (.For tg iter body [] p) (RSt X W (mFor t mi (evSs Z b))) := fun hi => c_for sd.po sd.calm hi hg hb (fold_of h1)
      have goD : ∀ {J : Addr → Obj → List (V × V) → It} {f : Y.D × Y.D → Y.D} {j : Nat}, JD J f → PI X tg iter (iX X J (RE X W (mV j))) → PS X (.For tg iter body [] p) (RSt X W (mFor t (mD f j) (evSs Z b))) := fun jd hi => c_forD jd sd.po sd.calm hi hg hb (fold_of h1)
      by_cases hsq : i.seq = true
      · exact PS.to eq (go (okI i sd tg iter hsq h3))
      · cases i with
        | var j =>
          unfold ckI at h3
          split at h3
          · simp only [Bool.and_eq_true, Bool.not_eq_true', decide_eq_true_eq] at h3
            have hv := ok_v sd (p := by assumption) h3.1.1.1 h3.1.1.2 h3.1.2 h3.2
            exact PS.both (goD jd_k (pi_keysX hv)) (go (ci_val hv)) fun ρ h => (var_or j ρ h).elim (fun q => .inl ((eq ρ h).trans (mFor_eq q))) (fun q => .inr ((eq ρ h).trans (mFor_eq q)))
          · cases h3
        | vals j =>
          unfold ckI at h3
          split at h3
          · simp only [Bool.and_eq_true, Bool.not_eq_true', decide_eq_true_eq] at h3
            obtain ⟨⟨⟨⟨⟨g1, g2⟩, g3⟩, g4⟩, g5⟩, g6⟩ := h3
            subst g1
            exact PS.to (fun ρ h => (eq ρ h).trans (mFor_eq (by rw [evI]; try rfl))) (goD jd_v (pi_valuesX (ok_v sd g3 g4 g5 g6) (base_of rfl) g2))
          · cases h3
        | items j =>
          unfold ckI at h3
          split at h3
          · simp only [Bool.and_eq_true, Bool.not_eq_true', decide_eq_true_eq] at h3
            obtain ⟨⟨⟨⟨⟨⟨g0, g1⟩, g2⟩, g3⟩, g4⟩, g5⟩, g6⟩ := h3
            obtain ⟨es, kk, tp, rfl⟩ := tup_of g0
            subst g1
            exact PS.to (fun ρ h => (eq ρ h).trans (mFor_eq (by rw [evI]; try rfl))) (goD jd_i (pi_itemsX (ok_v sd g3 g4 g5 g6) (base_of rfl) g2))
          · cases h3
        | _ => exact absurd rfl hsq
    · cases h
  | .ret e, X, W, c, sd, hsc, st, h => by
    unfold ckS at h
    split at h
    · exact PS.to (fun ρ h => by rw [evS]) (c_ret (okE e sd _ h))
    · cases h
  | .rs _ _, X, W, c, sd, hsc, st, h => by unfold ckS at h; cases h
  | .tr _ _, X, W, c, sd, hsc, st, h => by unfold ckS at h; cases h
  | .brk, X, W, c, sd, hsc, st, h => by
    unfold ckS at h
    split at h
    · exact PS.to (fun ρ h => by rw [evS]) c_brk
    · cases h
  | .cnt, X, W, c, sd, hsc, st, h => by
    unfold ckS at h
    split at h
    · exact PS.to (fun ρ h => by rw [evS]) c_cnt
    · cases h
  | .pss, X, W, c, sd, hsc, st, h => by
    unfold ckS at h
    split at h
    · exact PS.to (fun ρ h => by rw [evS]) c_pss
    · cases h
theorem okSs : ∀ (ms : List S) {X : Cx} {W : WX} {c : Ct} (sd : Sd X W c k Z) (hsc : X.env.scope = c.sc) (st : List Stmt), ckSs c ms st = true → PSs X st (RSt X W (evSs Z ms))
  | [], X, W, c, sd, hsc, st, h => by
    rw [ckSs] at h
    have : st = [] := by simpa using h
    subst this
    exact PSs.to (fun ρ h => by rw [evSs]) cs_nil
  | m :: ms, X, W, c, sd, hsc, st, h => by
    unfold ckSs at h
    split at h
    · simp only [Bool.and_eq_true] at h
      exact PSs.to (fun ρ h => by rw [evSs]) (cs_cons (okS m sd hsc _ h.1) (okSs ms sd hsc _ h.2))
    · cases h
end
end
end Y

set_option Elab.async false
set_option linter.all false
set_option maxRecDepth 100000
set_option maxHeartbeats 1000000
/-! Defs. -/
namespace Y
open PySem PySem.Spec PyProof.Rows L2 RT RZ

/-- a def of the text: its name, its place, its names by slot, its parameters, its mini text -/
structure Row where
  f : String
  st : Stmt
  N : List Str
  ps : List Str
  b : List S
def scK (N P : List Str) (sc : Scope) : Bool :=
  decide (sc.kind = .function) && !sc.isCoroutine && !sc.isGenerator && decide N.Nodup && decide (N.take P.length = P) && P.all (fun x => locB sc x) && sc.names.all (fun y => !decide (y.2 = .free))
theorem scK_of {N P : List Str} {sc : Scope} (h : scK N P sc = true) : FnScope N P sc := by
  unfold scK at h
  simp only [Bool.and_eq_true, Bool.not_eq_true', decide_eq_true_eq, List.all_eq_true, decide_eq_false_iff_not] at h
  obtain ⟨⟨⟨⟨⟨⟨h1, h2⟩, h3⟩, h4⟩, h5⟩, h6⟩, h7⟩ := h
  refine ⟨h1, h2, h3, h4, h5, fun x hx => ?_, h7⟩
  have := h6 x hx
  unfold locB at this
  split at this
  · exact .inl (by assumption)
  · exact .inr (by assumption)
  · cases this
def fl (rows : List Row) : List (String × Nat) := rows.map fun r => (r.f, r.ps.length)
def tbl (rows : List Row) : Tbl := fun f => (rows.find? fun r => r.f == f).map fun r => .fn r.ps.length r.N.length r.b
def Row.ck (B : List Str) (G : List String) (F : List (String × Nat)) (r : Row) : Bool := scK r.N r.ps (defScope r.st) && ckSs ⟨r.N, defScope r.st, B, F, G⟩ r.b (defBody r.st)
theorem fl_get : ∀ {rows : List Row} {f : String} {n : Nat}, (fl rows).lookup f = some n → ∃ r ∈ rows, r.f = f ∧ n = r.ps.length ∧ tbl rows f = some (.fn r.ps.length r.N.length r.b)
  | [], _, _, h => by simp [fl] at h
  | r :: rows, f, n, h => by
    rw [fl, List.map_cons, List.lookup] at h
    by_cases e : f = r.f
    · subst e
      simp at h
      exact ⟨r, List.mem_cons_self .., rfl, h.symm, by simp [tbl]⟩
    · have eb : (f == r.f) = false := beq_eq_false_iff_ne.mpr e
      rw [eb] at h
      obtain ⟨q, h1, h2, h3, h4⟩ := fl_get (rows := rows) h
      have eb' : (r.f == f) = false := beq_eq_false_iff_ne.mpr (Ne.symm e)
      exact ⟨q, List.mem_cons_of_mem _ h1, h2, h3, by rw [← h4]; simp [tbl, List.find?_cons, eb']⟩
/-- what is known of the module behind its top -/
structure Gd (K : Fg) (mg : Str → Option Value) (B : List Str) (G : List String) (Gv : String → Option D) (rows : List Row) : Prop where
  bt : ∀ x ∈ B, mg x = none
  gs : ∀ n ∈ G, ∃ u v d, mg (Str.ofString n) = some u ∧ RelV v u ∧ Gv n = some d ∧ ∀ φ H, Tr K φ H d v
  fs : ∀ r ∈ rows, ∃ fa fd, Fun K (Str.ofString r.f) (Str.ofString r.f) r.st fa fd ∧ Binds K fd r.ps [] ∧ mg (Str.ofString r.f) = some (.ref fa)
section
variable {P : Program} {w : World} {K : Fg} {mg : Str → Option Value} {base : Heap} {B : List Str} {G : List String} {Gv : String → Option D} {rows : List Row}
noncomputable abbrev Zk (rows : List Row) (Gv : String → Option D) (k : Nat) : Sg := ⟨callN (tbl rows) Gv whlC k, whlC, Gv⟩
theorem TrS.start {N : List Str} {φ : List Addr} {H : L2.Hp} {ds : List D} {vs : List V} (t : TrL K φ H ds vs) : TrS K φ H (Y.start ds.length N.length ds) (L2.start N vs) := by
  refine ⟨by simp [Y.start, L2.start, t.length], fun i d e => ?_⟩
  unfold Y.start at e
  by_cases hi : i < ds.length
  · rw [List.getElem?_append_left (by simpa using hi), List.getElem?_map, Option.map_eq_some_iff] at e
    obtain ⟨d', e1, e2⟩ := e
    cases e2
    obtain ⟨v, h1, h2⟩ := t.get e1
    refine ⟨v, ?_, h2⟩
    unfold L2.start
    rw [List.getElem?_append_left (by rw [List.length_map, ← t.length]; exact hi), List.getElem?_map, h1]
    rfl
  · rw [List.getElem?_append_right (by simpa using hi), List.getElem?_replicate] at e
    split at e <;> cases e
theorem fin_post {φ : List Addr} {H : L2.Hp} {h : Y.Hp} {r : RS} {E : XK} {Q : VK} (rh : RH K ⟨mg, P, w⟩ φ h H) (p : PostE K ⟨mg, P, w⟩ φ H (fin h r) E Q) : PostS K ⟨mg, P, w⟩ φ H r (fun cls d _ H' => E cls d H') { nx := fun _ H' => Q .non H', rt := Q } := by
  cases r with
  | nx ρ' h' => exact fun φ' H' σ' b t => left_ok rh p b .non
  | rt d h' => exact fun φ' H' v b t => left_ok rh p b t
  | bk ρ' h' => exact (show False from p).elim
  | ct ρ' h' => exact (show False from p).elim
  | ex c fs ρ' h' => exact fun φ' H' σ' cls dx b ts t => leftE_ok rh p b t
  | bad => exact p
/-- the context of a def's body -/
theorem sd_def {st : Stmt} {N ps : List Str} {qual : Str} {f : Addr} {cdv : Value} {A : Around} {outer : List PySem.Env} {s : Shared} {H : L2.Hp} {E : XK} {k : Nat} (S : FnScope N ps (defScope st)) (hr : Room k (A.deeper (envOfC qual (defScope st) s.heap.objs.size f cdv))) (gd : Gd K mg B G Gv rows)
    (ih : ∀ f n, (fl rows).lookup f = some n → ∃ fa fd ps, mg (Str.ofString f) = some (.ref fa) ∧ PySem.W.keepIn K (.ref fa) = true ∧ Binds K fd ps [] ∧ FnOk P w K mg base (L2.CX P w) k fa fd ps (RdF K ⟨mg, P, w⟩ n (callN (tbl rows) Gv whlC k f))) :
    Sd (cxOf (L2.CX P w) P w K mg base N qual (defScope st) f cdv A outer s H E) (fun cls d _ H' => E cls d H') ⟨N, defScope st, B, fl rows, G⟩ k (Zk rows Gv k) where
  N := rfl
  nd := S.nd
  rel := Rl.refl _
  kind := S.kind
  calm := rfl
  tk := takes_of rfl rfl rfl rfl
  room := hr
  po := passes_of rfl
  fn := fun _ _ => .inl rfl
  bt := gd.bt
  gs := gd.gs
  fs := ih
  wh := rfl
theorem all_ok (gd : Gd K mg B G Gv rows) (hck : rows.all (Row.ck B G (fl rows)) = true) : ∀ (k : Nat) (f : String) (n : Nat), (fl rows).lookup f = some n →
    ∃ fa fd ps, mg (Str.ofString f) = some (.ref fa) ∧ PySem.W.keepIn K (.ref fa) = true ∧ Binds K fd ps [] ∧ FnOk P w K mg base (L2.CX P w) k fa fd ps (RdF K ⟨mg, P, w⟩ n (callN (tbl rows) Gv whlC k f)) := by
  intro k
  induction k with
  | zero =>
    intro f n hf
    obtain ⟨r, hr, rfl, rfl, ht⟩ := fl_get hf
    obtain ⟨fa, fd, F, b, m⟩ := gd.fs r hr
    refine ⟨fa, fd, r.ps, m, F.kp, b, ⟨fun vs H Q E h => h.1, fun A outer s H args us vs Q E _ _ _ _ h => ?_⟩⟩
    obtain ⟨_, φ, h, ds, _, _, p⟩ := h
    exact (show False from p).elim
  | succ k ih =>
    intro f n hf
    obtain ⟨r, hr, rfl, rfl, ht⟩ := fl_get hf
    obtain ⟨fa, fd, F, b, m⟩ := gd.fs r hr
    rw [List.all_eq_true] at hck
    have hc := hck r hr
    unfold Row.ck at hc
    rw [Bool.and_eq_true] at hc
    have S := scK_of hc.1
    refine ⟨fa, fd, r.ps, m, F.kp, b, F.okX S (fun vs H Q E h => h.1) fun cdv A outer s H vs Q E hroom hsp => ?_⟩
    obtain ⟨hl, φ, h, ds, rh, tl, p⟩ := hsp
    have sd := sd_def (H := H) (outer := outer) (E := E) S hroom gd ih
    refine ⟨_, okSs r.b sd rfl (defBody r.st) hc.2, φ, Y.start r.ps.length r.N.length ds, h, rh, ?_, ?_⟩
    · have := TrS.start (N := r.N) tl
      rwa [show ds.length = r.ps.length by rw [tl.length, hl]] at this
    · have e : callN (tbl rows) Gv whlC (k + 1) r.f ds h = fin h (evSs (Zk rows Gv k) r.b (Y.start r.ps.length r.N.length ds) h) := by
        rw [callN, ht]
        simp only
        rw [if_pos (by rw [tl.length, hl])]
      rw [e] at p
      exact fin_post rh p
end
end Y

set_option Elab.async false
set_option linter.all false
set_option maxRecDepth 100000
set_option maxHeartbeats 1000000
/-! The law's first row, the law's def. -/
namespace Y
open PySem PySem.Spec PyProof.Rows L2 RT RZ

/-- the text of the law's helper that makes the hand -/
structure IsHand (st : Stmt) (sc : Scope) : Prop where
  body : ∃ p1 p2 p3 p4 p5 p6 p7 p8 p9 p10 p11 p12 p13 p14 k1 k2 k3 k4, defBody st = [.Return (some (.List [.ListComp (.Call (.Name "int" p1) [.Name "cell" p2] [] p3) [⟨.Name "cell" p4, .Subscript (.Name "script" p5) (.Slice none (some (.Constant (.int 63) k1 p6)) none p7) p8, [], 0⟩] sc p9,
    .Constant (.int 0) k2 p10, .Constant (.int 0) k3 p11, .Constant (.int 0) k4 p12] p13)) p14]
  ok : (scK ["script", "cell"] ["script"] (defScope st) && L2.blkC ["script", "cell"] (defScope st) sc [("cell", 1)] && visB (defScope st) "script" && locB sc "cell" && visB sc "cell" && glB sc "int") = true
def spHand (K : Fg) : Sp := fun vs H Q _ => ∃ (a : Addr) (ns : List Int), vs = [.ref a] ∧ SqL K H a (ns.map V.int) ∧ ns.length ≤ 63 ∧ ∀ (H' : L2.Hp) (c l : Addr), (∀ b o, H b = some o → H' b = some o) → H c = none → H l = none → H' c = some (.lst (ns.map V.int)) → H' l = some (.lst [.ref c, .int 0, .int 0, .int 0]) → Q (.ref l) H'
theorem visR {a b : Scope} (r : Rl a b) {x : Str} (h : visB a x = true) : b.names.lookup x = some .local ∨ b.names.lookup x = some .cell ∨ b.names.lookup x = some .free := by
  unfold visB at h
  split at h
  · exact .inl (r.loc _ (by assumption))
  · exact .inr (.inl (r.cell _ (by assumption)))
  · rename_i e
    rcases r.free _ e with q | q
    · exact .inr (.inl q)
    · exact .inr (.inr q)
  · cases h
theorem locR {a b : Scope} (r : Rl a b) {x : Str} (h : locB a x = true) : b.names.lookup x = some .local ∨ b.names.lookup x = some .cell := by
  unfold locB at h
  split at h
  · exact .inl (r.loc _ (by assumption))
  · exact .inr (r.cell _ (by assumption))
  · cases h
theorem glR {a b : Scope} (r : Rl a b) {x : Str} (h : glB a x = true) : b.names.lookup x = some .globalImplicit := by
  unfold glB at h
  split at h
  · exact r.gl _ (by assumption)
  · cases h
section
variable {P : Program} {w : World} {K : Fg} {mg : Str → Option Value} {base : Heap}
theorem cut63 (ns : List Int) (h : ns.length ≤ 63) : cutV (ns.map V.int) none (some 63) = ns.map V.int := by
  unfold cutV
  rw [HT.sIx_none, show HT.sIx (ns.map V.int).length (ns.map V.int).length (some 63) = min 63 (ns.map V.int).length from HT.sIx_nat _ _ 63, List.drop_zero, List.length_map, Nat.min_eq_right h, Nat.sub_zero]
  exact List.take_of_length_le (by rw [List.length_map]; exact Nat.le_refl _)
theorem ok_hand {x qual : Str} {st : Stmt} {sc : Scope} {f : Addr} {fd : FuncData} {k : Nat} (F : Fun K x qual st f fd) (S : IsHand st sc) (mi : mg "int" = none) : FnOk P w K mg base (L2.CX P w) (k + 1) f fd ["script"] (spHand K) := by
  have ok := S.ok
  simp only [Bool.and_eq_true] at ok
  obtain ⟨⟨⟨⟨⟨o1, o2⟩, o3⟩, o4⟩, o5⟩, o6⟩ := ok
  have fs := scK_of o1
  obtain ⟨p1, p2, p3, p4, p5, p6, p7, p8, p9, p10, p11, p12, p13, p14, k1, k2, k3, k4, hb⟩ := S.body
  refine F.okX fs (fun vs H Q E h => ?_) fun cdv A outer s H vs Q E hr hsp => ?_
  · obtain ⟨a, ns, rfl, _⟩ := h; rfl
  obtain ⟨a, ns, rfl, hS, hl, q⟩ := hsp
  rw [hb]
  refine ⟨_, pss_one (ps_ret (pe_lst (pa_cons (pe_lc (own := [("cell", 1)]) (g := gName 1) (tt := tYes) rfl fs.nd (pi_list (pe_slice sl_list (pe_var (i := 0) rfl (visR (Rl.refl _) o3) (by decide) (by decide)) po_none (po_some pe_int))) (blkOk_by o2)
    (fun _ _ _ _ _ => pg_name (i := 1) fs.nd rfl (locR (Rl.relabel sc _) o4) (by
      unfold locB at o4
      split at o4
      · exact .inr ((Rl.relabel sc _).loc _ (by assumption))
      · rename_i e; exact .inl (by show (sc.names.lookup (Str.ofString "cell") == some NameKind.cell) = true; rw [e]; rfl)
      · cases o4)) (fun _ _ _ _ _ => pts_nil)
    (fun _ _ _ _ _ => pe_callTy call_int1 (glR (Rl.relabel sc _) o6) mi (by rfl) (pa_cons (pe_var (i := 1) rfl (visR (Rl.relabel sc _) o5) (by decide) (by decide)) pa_nil))) (pa_cons pe_int (pa_cons pe_int (pa_cons pe_int pa_nil)))))), ?_⟩
  refine ⟨.ref a, rfl, 63, rfl, a, ns.map V.int, rfl, hS, fun c hc => ⟨c, rfl, ⟨_, .inl (.inl upd_same)⟩, fun D hD => ?_⟩⟩
  rw [cut63 ns hl] at hD ⊢
  have hcD : D ≠ c := fun z => by rw [z, upd_same] at hD; cases hD
  have hD' : H D = none := by rw [upd_ne hcD] at hD; exact hD
  refine lc_list (xs := ns.map V.int) (fun i H' => (∀ b o, H b = some o → H' b = some o) ∧ H' c = some (.lst (ns.map V.int)) ∧ H' D = some (.lst ((ns.take i).map V.int))) ⟨fun b o e => ?_, ?_, ?_⟩ (fun i H' _ p => .inl (.inl p.2.1)) (fun i y H' hy p => ?_) fun H' p => ?_
  · rw [upd_ne (ne_of_none e hD'), upd_ne (ne_of_none e hc)]; exact e
  · rw [upd_ne hcD.symm, upd_same]
  · rw [upd_same]; rfl
  · rw [List.getElem?_map, Option.map_eq_some_iff] at hy
    obtain ⟨n, hn, rfl⟩ := hy
    refine ⟨rfl, ?_⟩
    unfold tYes
    simp only [↓reduceIte]
    refine ⟨V.int n, rfl, .inl ⟨n, rfl, _, p.2.2, ?_, fun b o e => ?_, ?_, ?_⟩⟩
    · rw [List.length_map, List.length_take, sizeLine_eq]; omega
    · rw [upd_ne (ne_of_none e hD')]; exact p.1 b o e
    · rw [upd_ne hcD.symm]; exact p.2.1
    · rw [upd_same, List.take_add_one, hn, List.map_append]; rfl
  · rw [List.length_map, List.take_length] at p
    refine ⟨by show 4 ≤ sizeLine; decide, fun l hl' => ?_⟩
    refine q _ D l (fun b o e => ?_) hD' ?_ ?_ upd_same
    · rw [upd_ne (ne_of_none (p.1 b o e) hl')]; exact p.1 b o e
    · cases e : H l with
      | none => rfl
      | some o => rw [p.1 l o e] at hl'; cases hl'
    · rw [upd_ne (ne_of_none p.2.2 hl')]; exact p.2.2
/-! ### the law -/
def h0 (ns : List Int) : Y.Hp := [.lst (ns.map .int), .lst [.ref 0, .int 0, .int 0, .int 0]]
def ρ0 (N i : Nat) : Y.Env := (List.replicate N none).set i (some (.ref 1))
def spLaw (K : Fg) : Sp := fun vs H Q _ => ∃ (a : Addr) (ns : List Int), vs = [.ref a] ∧ SqL K H a (ns.map V.int) ∧ ns.length ≤ 63 ∧ ∀ H', Q (.bl true) H'
theorem h0_rh {H' : L2.Hp} {c l : Addr} {ns : List Int} {m : Nm} (h1 : H' c = some (.lst (ns.map V.int))) (h2 : H' l = some (.lst [.ref c, .int 0, .int 0, .int 0])) : RH K m [c, l] (h0 ns) H' := by
  have ne : c ≠ l := fun z => by
    subst z
    rw [h1] at h2
    cases ns with
    | nil => cases h2
    | cons n r => simp at h2
  have intsT : ∀ ns : List Int, TrL K [c, l] H' (ns.map .int) (ns.map V.int) := fun ns => by
    induction ns with
    | nil => exact .nil
    | cons n r ih => exact .cons (.int n) ih
  refine ⟨rfl, by simp [ne], fun n o a hn ha => ?_⟩
  match n, hn, ha with
  | 0, hn, ha => cases hn; cases ha; exact .lst h1 (intsT ns)
  | 1, hn, ha => cases hn; cases ha; exact .lst h2 (.cons (.ref rfl) (.cons (.int 0) (.cons (.int 0) (.cons (.int 0) .nil))))
  | n + 2, hn, ha => simp [h0] at hn
theorem ok_law {B : List Str} {G : List String} {Gv : String → Option D} {rows : List Row} {k : Nat} {stL stH : Stmt} {scH : Scope} {fL fH : Addr} {fdL fdH : FuncData} {N : List Str} {i : Nat} {b : List S} {rest : List Stmt} {p1 p2 p3 p4 p5 : Pos}
    (gd : Gd K mg B G Gv rows) (hck : rows.all (Row.ck B G (fl rows)) = true) (FL : Fun K "law" "law" stL fL fdL) (FH : Fun K "_law_hand" "_law_hand" stH fH fdH) (bH : Binds K fdH ["script"] []) (mH : mg "_law_hand" = some (.ref fH)) (sH : IsHand stH scH) (mi : mg "int" = none)
    (hL : (scK N ["script"] (defScope stL) && decide (N[0]? = some (Str.ofString "script")) && visB (defScope stL) "script" && decide (N[i]? = some (Str.ofString "hand")) && locB (defScope stL) "hand" && glB (defScope stL) "_law_hand" && ckSs ⟨N, defScope stL, B, fl rows, G⟩ b rest) = true)
    (hB : defBody stL = .Assign [.Name "hand" p1] (.Call (.Name "_law_hand" p2) [.Name "script" p3] [] p4) p5 :: rest)
    (law : ∀ ns : List Int, ns.length ≤ 63 → ∃ h', evSs (Zk rows Gv (k + 1)) b (ρ0 N.length i) (h0 ns) = .rt (.bl true) h') :
    FnOk P w K mg base (L2.CX P w) (k + 2) fL fdL ["script"] (spLaw K) := by
  simp only [Bool.and_eq_true, decide_eq_true_eq] at hL
  obtain ⟨⟨⟨⟨⟨⟨o1, o2⟩, o3⟩, o4⟩, o5⟩, o6⟩, o7⟩ := hL
  have S := scK_of o1
  refine FL.okX S (fun vs H Q E h => ?_) fun cdv A outer s H vs Q E hr hsp => ?_
  · obtain ⟨a, ns, rfl, _⟩ := h; rfl
  obtain ⟨a, ns, rfl, hS, hl, q⟩ := hsp
  have sd := sd_def (P := P) (w := w) (base := base) (H := H) (outer := outer) (E := E) S hr gd (all_ok gd hck (k + 1))
  rw [hB]
  refine ⟨_, pss_cons (ps_set (i := i) S.nd o4 (sd.loc o5) (pe_callS (ok_hand (k := k) FH sH mi) hr (sd.gl o6) mH FH.kp bH (fun σ => passAt sd.tk σ) (pa_cons (pe_var (i := 0) o2 (sd.vis o3) (by decide) (by decide)) pa_nil)) (hf := .inl rfl)) (okSs b sd rfl rest o7), ?_⟩
  have hpl : 1 ≤ N.length := (List.getElem?_eq_some_iff.mp o2).1
  refine ⟨.ref a, ?_, a, ns, rfl, hS, hl, fun H' c l sm hc hl' h1 h2 => ?_⟩
  · rfl
  obtain ⟨h', e⟩ := law ns hl
  refine ⟨[c, l], ρ0 N.length i, h0 ns, h0_rh h1 h2, ⟨?_, fun j d ej => ?_⟩, ?_⟩
  · simp only [ρ0, L2.start, List.length_set, List.length_replicate, List.length_append, List.length_map, List.length_cons, List.length_nil]
    omega
  · unfold ρ0 at ej
    by_cases hj : j = i
    · subst hj
      have hlj : j < (List.replicate N.length (none : Option D)).length := by
        have := (List.getElem?_eq_some_iff.mp ej).1
        simpa using this
      rw [List.getElem?_set_self hlj] at ej
      cases ej
      refine ⟨.ref l, List.getElem?_set_self ?_, .ref rfl⟩
      simp only [L2.start, List.length_replicate, List.length_append, List.length_map, List.length_cons, List.length_nil] at hlj ⊢
      omega
    · rw [List.getElem?_set_ne (Ne.symm hj), List.getElem?_replicate] at ej
      split at ej <;> cases ej
  · rw [e]
    intro φ' H2 v b t
    obtain rfl := t.of_bl
    exact q H2
end
end Y

set_option linter.all false
set_option maxRecDepth 100000
set_option maxHeartbeats 1000000
/-! The run of the mini level, row by row, for simp. -/
namespace Y
open PySem (Str)
section
variable (Z : Sg) (ρ : Env) (h : Hp)
@[simp] theorem r_c (d : D) : evE Z (.c d) ρ h = .ok d h := by rw [evE]
theorem r_v (i : Nat) : evE Z (.v i) ρ h = (match ρ[i]? with | some (some d) => .ok d h | _ => .bad) := by rw [evE]; try rfl
@[simp] theorem r_v0 (x : D) (r : Env) : evE Z (.v 0) (some x :: r) h = .ok x h := by rw [evE]; try rfl
@[simp] theorem r_v1 (a : Option D) (x : D) (r : Env) : evE Z (.v 1) (a :: some x :: r) h = .ok x h := by rw [evE]; try rfl
@[simp] theorem r_v2 (a b : Option D) (x : D) (r : Env) : evE Z (.v 2) (a :: b :: some x :: r) h = .ok x h := by rw [evE]; try rfl
@[simp] theorem r_v3 (a b c : Option D) (x : D) (r : Env) : evE Z (.v 3) (a :: b :: c :: some x :: r) h = .ok x h := by rw [evE]; try rfl
@[simp] theorem r_v4 (a b c d : Option D) (x : D) (r : Env) : evE Z (.v 4) (a :: b :: c :: d :: some x :: r) h = .ok x h := by rw [evE]; try rfl
@[simp] theorem r_v5 (a b c d e : Option D) (x : D) (r : Env) : evE Z (.v 5) (a :: b :: c :: d :: e :: some x :: r) h = .ok x h := by rw [evE]; try rfl
@[simp] theorem r_v6 (a b c d e f : Option D) (x : D) (r : Env) : evE Z (.v 6) (a :: b :: c :: d :: e :: f :: some x :: r) h = .ok x h := by rw [evE]; try rfl
@[simp] theorem r_v7 (a b c d e f g : Option D) (x : D) (r : Env) : evE Z (.v 7) (a :: b :: c :: d :: e :: f :: g :: some x :: r) h = .ok x h := by rw [evE]; try rfl
@[simp] theorem r_v8 (a b c d e f g i : Option D) (x : D) (r : Env) : evE Z (.v 8) (a :: b :: c :: d :: e :: f :: g :: i :: some x :: r) h = .ok x h := by rw [evE]; try rfl
@[simp] theorem r_v9 (a b c d e f g i j : Option D) (x : D) (r : Env) : evE Z (.v 9) (a :: b :: c :: d :: e :: f :: g :: i :: j :: some x :: r) h = .ok x h := by rw [evE]; try rfl
@[simp] theorem r_v10 (a b c d e f g i j k : Option D) (x : D) (r : Env) : evE Z (.v 10) (a :: b :: c :: d :: e :: f :: g :: i :: j :: k :: some x :: r) h = .ok x h := by rw [evE]; try rfl
@[simp] theorem r_g (x : String) : evE Z (.g x) ρ h = ofO (Z.G x) h := by rw [evE]
@[simp] theorem r_bin (o : Op) (a b : E) : evE Z (.bin o a b) ρ h = (evE Z a ρ h).bind fun x h => (evE Z b ρ h).bind fun y h => binop o x y h := by rw [evE]
@[simp] theorem r_neg (a : E) : evE Z (.neg a) ρ h = (evE Z a ρ h).bind fun x h => (match x with | .int i => .ok (.int (-i)) h | _ => .bad) := by rw [evE]; try rfl
@[simp] theorem r_not (a : C) : evE Z (.not a) ρ h = (evC Z a ρ h).bind fun b h => .ok (.bl (!b)) h := by rw [evE]
@[simp] theorem r_cmp (o : Cm) (a b : E) : evE Z (.cmp o a b) ρ h = (evE Z a ρ h).bind fun x h => (evE Z b ρ h).bind fun y h => compareR o x y h := by rw [evE]
@[simp] theorem r_cmp2 (o p : Cm) (a b c : E) : evE Z (.cmp2 o p a b c) ρ h = (evE Z a ρ h).bind fun x h => (evE Z b ρ h).bind fun y h => (match compare o x y h with | some true => (evE Z c ρ h).bind fun z h => compareR p y z h | some false => .ok (.bl false) h | none => .bad) := by rw [evE]; try rfl
@[simp] theorem r_and (a b : E) : evE Z (.and a b) ρ h = (evE Z a ρ h).bind fun x h => (match x with | .bl true => evE Z b ρ h | .bl false => .ok (.bl false) h | _ => .bad) := by rw [evE]; try rfl
@[simp] theorem r_or (a b : E) : evE Z (.or a b) ρ h = (evE Z a ρ h).bind fun x h => (match x with | .bl true => .ok (.bl true) h | .bl false => evE Z b ρ h | _ => .bad) := by rw [evE]; try rfl
@[simp] theorem r_ite (t : C) (a b : E) : evE Z (.ite t a b) ρ h = (evC Z t ρ h).bind fun c h => if c then evE Z a ρ h else evE Z b ρ h := by rw [evE]
@[simp] theorem r_tup (es : List E) : evE Z (.tup es) ρ h = (evEs Z es ρ h).bind fun ds h => .ok (.tup ds) h := by rw [evE]
@[simp] theorem r_lst (es : List E) : evE Z (.lst es) ρ h = (evEs Z es ρ h).bind fun ds h => new (.lst ds) h := by rw [evE]
@[simp] theorem r_dict0 : evE Z .dict0 ρ h = new (.dict []) h := by rw [evE]
@[simp] theorem r_dict1 (k v : E) : evE Z (.dict1 k v) ρ h = (evE Z k ρ h).bind fun x h => (evE Z v ρ h).bind fun y h => if keyOk x then new (.dict [(x, y)]) h else .bad := by rw [evE]
@[simp] theorem r_idx (a b : E) : evE Z (.idx a b) ρ h = (evE Z a ρ h).bind fun x h => (evE Z b ρ h).bind fun y h => index x y h := by rw [evE]
@[simp] theorem r_call (x : String) (es : List E) : evE Z (.call x es) ρ h = (evEs Z es ρ h).bind fun ds h => Z.F x ds h := by rw [evE]
@[simp] theorem r_bi (x : Bi) (es : List E) : evE Z (.bi x es) ρ h = (evEs Z es ρ h).bind fun ds h => builtin x ds h := by rw [evE]
@[simp] theorem r_isi (a : E) (ts : List String) : evE Z (.isi a ts) ρ h = (evE Z a ρ h).bind fun x h => (match isAny x h ts with | some b => .ok (.bl b) h | none => .bad) := by rw [evE]; try rfl
@[simp] theorem r_mt (a : E) (m : Me) (es : List E) : evE Z (.mt a m es) ρ h = (evE Z a ρ h).bind fun x h => (match kindOf x h with | some k => if has k m then (evEs Z es ρ h).bind fun ds h => method k x m ds h else .bad | none => .bad) := by rw [evE]; try rfl
@[simp] theorem r_lof (i : I) : evE Z (.lof i) ρ h = (evI Z i ρ h).bind fun s h => new (.lst s.ds) h := by rw [evE]
theorem r_lc (e : E) (t : T) (i : I) (cs : List C) : evE Z (.lc e t i cs) ρ h = (evI Z i ρ h).bind fun s h => if line < s.ds.length then .bad else
    ((lcL t s.g (fun ρ h => evCs Z cs ρ h) (fun ρ h => evE Z e ρ h) (forget ρ t.slots) s.ds (locked s h)).bind fun ds h => new (.lst ds) h).unlock s := by rw [evE]
@[simp] theorem r_cand (a b : C) : evC Z (.and a b) ρ h = (evC Z a ρ h).bind fun x h => if x then evC Z b ρ h else .ok false h := by rw [evC]
@[simp] theorem r_cor (a b : C) : evC Z (.or a b) ρ h = (evC Z a ρ h).bind fun x h => if x then .ok true h else evC Z b ρ h := by rw [evC]
@[simp] theorem r_cnot (a : C) : evC Z (.not a) ρ h = (evC Z a ρ h).bind fun x h => .ok (!x) h := by rw [evC]
@[simp] theorem r_ctr (e : E) : evC Z (.tr e) ρ h = (evE Z e ρ h).bind truthR := by rw [evC]
@[simp] theorem r_nil : evEs Z [] ρ h = .ok [] h := by rw [evEs]
@[simp] theorem r_cons (e : E) (es : List E) : evEs Z (e :: es) ρ h = (evE Z e ρ h).bind fun x h => (evEs Z es ρ h).bind fun xs h => .ok (x :: xs) h := by rw [evEs]
@[simp] theorem r_cs0 : evCs Z [] ρ h = .ok true h := by rw [evCs]
@[simp] theorem r_cs1 (c : C) : evCs Z [c] ρ h = (evC Z c ρ h).bind fun x h => if x then .ok true h else .ok false h := by rw [evCs]; simp [evCs]
@[simp] theorem i_val (e : E) : evI Z (.val e) ρ h = (evE Z e ρ h).bind fun x h => ofO (seqOf x h) h := by rw [evI]
@[simp] theorem i_rng (a : E) : evI Z (.rng a) ρ h = (evE Z a ρ h).bind fun x h => ofO (range1 x) h := by rw [evI]
@[simp] theorem i_rng2 (a b : E) : evI Z (.rng2 a b) ρ h = (evE Z a ρ h).bind fun x h => (evE Z b ρ h).bind fun y h => ofO (range2 x y) h := by rw [evI]
@[simp] theorem s_asg (t : T) (e : E) : evS Z (.asg t e) ρ h = (evE Z e ρ h).into ρ fun d h => (match bindT t d ρ h with | some ρ' => .nx ρ' h | none => .bad) := by rw [evS]; try rfl
@[simp] theorem s_sto (a b e : E) : evS Z (.sto a b e) ρ h = ((evE Z e ρ h).bind fun d h => (evE Z a ρ h).bind fun x h => (evE Z b ρ h).bind fun y h => (match store x y d h with | some h' => .ok () h' | none => .bad)).into ρ fun _ h => .nx ρ h := by rw [evS]; try rfl
@[simp] theorem s_ex (e : E) : evS Z (.ex e) ρ h = (evE Z e ρ h).into ρ fun _ h => .nx ρ h := by rw [evS]
@[simp] theorem s_iff (c : C) (a b : List S) : evS Z (.iff c a b) ρ h = (evC Z c ρ h).into ρ fun t h => if t then evSs Z a ρ h else evSs Z b ρ h := by rw [evS]
@[simp] theorem s_ret (e : E) : evS Z (.ret e) ρ h = (evE Z e ρ h).into ρ fun d h => .rt d h := by rw [evS]
@[simp] theorem s_nil : evSs Z [] ρ h = .nx ρ h := by rw [evSs]
theorem s_cons (s : S) (ss : List S) : evSs Z (s :: ss) ρ h = (evS Z s ρ h).seq fun ρ h => evSs Z ss ρ h := by rw [evSs]
theorem s_for (t : T) (i : I) (b : List S) : evS Z (.for_ t i b) ρ h = (evI Z i ρ h).into ρ fun s h => (forL t s.g (fun ρ h => evSs Z b ρ h) s.ds ρ (locked s h)).unlock s := by rw [evS]
theorem s_whl (c : C) (b : List S) : evS Z (.whl c b) ρ h = Z.W (fun ρ h => evC Z c ρ h) (fun ρ h => evSs Z b ρ h) ρ h := by rw [evS]
end
/-! ints -/
@[simp] theorem cR_lt (i j : Int) (h : Hp) : compareR .lt (.int i) (.int j) h = .ok (.bl (decide (i < j))) h := rfl
@[simp] theorem cR_le (i j : Int) (h : Hp) : compareR .le (.int i) (.int j) h = .ok (.bl (decide (i ≤ j))) h := rfl
@[simp] theorem cR_gt (i j : Int) (h : Hp) : compareR .gt (.int i) (.int j) h = .ok (.bl (decide (j < i))) h := rfl
@[simp] theorem cR_ge (i j : Int) (h : Hp) : compareR .ge (.int i) (.int j) h = .ok (.bl (decide (j ≤ i))) h := rfl
@[simp] theorem cR_eq (i j : Int) (h : Hp) : compareR .eq (.int i) (.int j) h = .ok (.bl (decide (i = j))) h := by simp [compareR, compare, eq?, D.pure, D.depth, D.eqv]
@[simp] theorem cR_ne (i j : Int) (h : Hp) : compareR .ne (.int i) (.int j) h = .ok (.bl (!decide (i = j))) h := by simp [compareR, compare, eq?, D.pure, D.depth, D.eqv]
@[simp] theorem tR_bl (b : Bool) (h : Hp) : truthR (.bl b) h = .ok b h := rfl
@[simp] theorem b_add (i j : Int) (h : Hp) : binop .add (.int i) (.int j) h = .ok (.int (i + j)) h := rfl
@[simp] theorem b_sub (i j : Int) (h : Hp) : binop .sub (.int i) (.int j) h = .ok (.int (i - j)) h := rfl
@[simp] theorem bi_int (i : Int) (h : Hp) : builtin .int [.int i] h = .ok (.int i) h := rfl
theorem abs_eq (i : Int) : (if i < 0 then -i else i) = ((i.natAbs : Nat) : Int) := by split <;> omega
@[simp] theorem bi_abs (i : Int) (h : Hp) : builtin .abs [.int i] h = .ok (.int i.natAbs) h := by simp only [builtin, abs_eq]
@[simp] theorem bindT_nm (i : Nat) (d : D) (ρ : Env) (h : Hp) : bindT (.nm i) d ρ h = some (ρ.set i (some d)) := rfl
@[simp] theorem bindT_2 (i j : Nat) (d e : D) (ρ : Env) (h : Hp) : bindT (.tp [.nm i, .nm j]) (.tup [d, e]) ρ h = some ((ρ.set i (some d)).set j (some e)) := rfl
@[simp] theorem ix_t0 (a : D) (r : List D) (h : Hp) : index (.tup (a :: r)) (.int 0) h = .ok a h := by simp [index, item, place]
@[simp] theorem ix_t1 (a b : D) (r : List D) (h : Hp) : index (.tup (a :: b :: r)) (.int 1) h = .ok b h := by
  have e : place (a :: b :: r).length 1 = some 1 := by
    unfold place
    rw [if_pos (by decide), if_pos (by simp; omega)]
    rfl
  show ofO ((place (a :: b :: r).length 1).bind fun j => (a :: b :: r)[j]?) h = _
  rw [e]
  rfl
@[simp] theorem slots_nm (i : Nat) : (Y.T.nm i).slots = [i] := rfl
@[simp] theorem slots_2 (i j : Nat) : (Y.T.tp [.nm i, .nm j]).slots = [i, j] := rfl
@[simp] theorem forget_1 (ρ : Env) (i : Nat) : forget ρ [i] = ρ.set i none := rfl
@[simp] theorem forget_2 (ρ : Env) (i j : Nat) : forget ρ [i, j] = (ρ.set j none).set i none := rfl
end Y

set_option linter.all false
set_option maxRecDepth 100000
set_option maxHeartbeats 1000000
/-! Plain laws of the mini level: the defs that many laws share. -/
namespace Y
open PySem (Str)

section
variable {T : Tbl} {G : String → Option D} {W : Wh} {k : Nat} {h : Hp}
theorem call_fn {f : String} {n m : Nat} {b : List S} {ds : List D} (ht : T f = some (.fn n m b)) (hl : ds.length = n) : callN T G W (k + 1) f ds h = fin h (evSs ⟨callN T G W k, W, G⟩ b (start n m ds) h) := by
  rw [callN, ht]; simp only; rw [if_pos hl]
/-! ### what is left: nothing new -/
theorem elder_refl : elder h h = true := by simp [elder]
theorem left_flat {d : D} (hd : news h.length d [] = []) (hr : ren h.length [] d = d) : left h d h = .ok d h := by
  unfold left
  simp [hd, hr, elder_refl]
@[simp] theorem fin_int {i : Int} : fin h (.rt (.int i) h) = .ok (.int i) h := left_flat rfl rfl
@[simp] theorem fin_bl {i : Bool} : fin h (.rt (.bl i) h) = .ok (.bl i) h := left_flat rfl rfl
@[simp] theorem fin_non : fin h (.nx ρ h) = .ok .non h := left_flat rfl rfl
@[simp] theorem fin_frac {i j : Int} : fin h (.rt (.tup [.int i, .int j]) h) = .ok (.tup [.int i, .int j]) h := left_flat rfl rfl
end
def m_is_integer : List S := [
  .ret (.and (.isi (.v 0) ["int"]) (.not (.tr (.isi (.v 0) ["bool"]))))]
theorem s_is_integer {T : Tbl} {G : String → Option D} {W : Wh} {k : Nat} {h : Hp} {i : Int} (ht : T "is_integer" = some (.fn 1 1 m_is_integer)) : callN T G W (k + 1) "is_integer" [.int i] h = .ok (.bl true) h := by
  rw [call_fn ht rfl]
  simp [m_is_integer, evSs, evS, evE, evC, start, isAny, isA, truthR, truth]
def m_is_within : List S := [
  .ret (.and (.call "is_integer" [.v 0]) (.cmp2 .le .le (.v 1) (.v 0) (.v 2)))]
theorem s_is_within {T : Tbl} {G : String → Option D} {W : Wh} {k : Nat} {h : Hp} {i a b : Int} (ht : T "is_within" = some (.fn 3 3 m_is_within)) (h1 : T "is_integer" = some (.fn 1 1 m_is_integer)) : callN T G W (k + 2) "is_within" [.int i, .int a, .int b] h = .ok (.bl (decide (a ≤ i ∧ i ≤ b))) h := by
  rw [call_fn ht rfl]
  simp only [m_is_within, evSs, evS, evE, evEs, start, List.map, List.replicate]
  by_cases h1' : a ≤ i <;> simp [s_is_integer h1, compare, compareR, cmpI, h1']

/-! ### fractions -/
theorem mulOk_of {i j : Int} (hi : i.natAbs < 2 ^ 64) (hj : j.natAbs < 2 ^ 64) : mulOk i j = true := by
  have a : ∀ n : Nat, n < 2 ^ 64 → n.log2 < 1000000 := fun n h => by
    by_cases e : n = 0
    · subst e; decide
    · exact Nat.lt_trans ((Nat.log2_lt e).mpr h) (by decide)
  unfold mulOk
  rw [decide_eq_true (a _ hi), decide_eq_true (a _ hj)]
  rfl
theorem divOk_of {j : Int} (h0 : 0 < j) (hj : j.natAbs < 2 ^ 64) : divOk j = true := by
  have a : j.natAbs.log2 < 9000 := by
    have e : j.natAbs ≠ 0 := by omega
    exact Nat.lt_trans ((Nat.log2_lt e).mpr hj) (by decide)
  unfold divOk
  rw [decide_eq_true a, decide_eq_true h0]
  rfl
def m_divisor : List S := [
  .whl (.tr (.cmp .gt (.v 1) (.c (.int 0)))) [
    .asg (.tp [.nm 0, .nm 1]) (.tup [.v 1, .bin .mod (.v 0) (.v 1)])],
  .ret (.v 0)]
/-- the turns of Euclid's while, the slots told by f -/
theorem w_gcd {test : Env → Hp → Res Bool} {body : Env → Hp → RS} {h : Hp} (f : Int → Int → Env) (ht : ∀ a b, test (f a b) h = .ok (decide (0 < b)) h) (hb : ∀ a b, 0 < b → body (f a b) h = .nx (f b (a % b)) h) : ∀ (b a : Nat), whlC test body (f a b) h = .nx (f (Nat.gcd a b) 0) h := by
  intro b
  induction b using Nat.strongRecOn with
  | _ b ih =>
    intro a
    rw [whlC_turn, ht]
    by_cases e : b = 0
    · subst e; simp
    · have hb0 : 0 < b := by omega
      have hb' : (0 : Int) < b := by omega
      have e2 : ((a : Int) % (b : Int)) = ((a % b : Nat) : Int) := by omega
      have g : Nat.gcd b (a % b) = Nat.gcd a b := by rw [Nat.gcd_comm a b, Nat.gcd_rec b a, Nat.gcd_comm]
      have := ih (a % b) (Nat.mod_lt a hb0) b
      rw [g] at this
      rw [decide_eq_true hb']
      simp only [hb _ _ hb', e2]
      exact this
theorem s_divisor {T : Tbl} {G : String → Option D} {k : Nat} {h : Hp} {a b : Nat} (ht : T "divisor" = some (.fn 2 2 m_divisor)) : callN T G whlC (k + 1) "divisor" [.int a, .int b] h = .ok (.int (Nat.gcd a b)) h := by
  rw [call_fn ht rfl]
  simp only [m_divisor, start, List.map, List.replicate, List.append_nil, Nat.sub_self]
  rw [evSs, evS]
  dsimp only
  rw [w_gcd (fun a b => [some (.int a), some (.int b)]) (fun a b => by simp [evC, evE, compareR, compare, cmpI, truthR, truth]) (fun a b hb => by simp [evSs, evS, evE, evEs, bindT, bindTs, items?, binop, hb])]
  simp [evSs, evS, evE]
/-- lowest terms -/
def lo (t b : Int) : Int × Int := (t / (Nat.gcd t.natAbs b.natAbs : Nat), b / (Nat.gcd t.natAbs b.natAbs : Nat))
abbrev fr (p : Int × Int) : D := .tup [.int p.1, .int p.2]
def m_made : List S := [
  .asg (.nm 2) (.call "divisor" [.bi .abs [.v 0], .v 1]),
  .ret (.tup [.bin .fdiv (.v 0) (.v 2), .bin .fdiv (.v 1) (.v 2)])]
structure FT (T : Tbl) : Prop where
  divisor : T "divisor" = some (.fn 2 2 m_divisor)
  made : T "made" = some (.fn 2 3 m_made)
theorem gcd_lt {t b : Int} (hb : 0 < b) (hl : b.natAbs < 2 ^ 64) : divOk ((Nat.gcd t.natAbs b.natAbs : Nat) : Int) = true := by
  have h1 : 0 < Nat.gcd t.natAbs b.natAbs := Nat.gcd_pos_of_pos_right _ (by omega)
  have h2 : Nat.gcd t.natAbs b.natAbs ≤ b.natAbs := Nat.gcd_le_right _ (by omega)
  exact divOk_of (by omega) (by rw [Int.natAbs_natCast]; omega)
theorem s_made {T : Tbl} {G : String → Option D} {k : Nat} {h : Hp} {t b : Int} (F : FT T) (hb : 0 < b) (hl : b.natAbs < 2 ^ 64) : callN T G whlC (k + 2) "made" [.int t, .int b] h = .ok (fr (lo t b)) h := by
  rw [call_fn F.made rfl]
  have e : (b : Int) = ((b.natAbs : Nat) : Int) := by omega
  have d := s_divisor (G := G) (k := k) (h := h) (a := t.natAbs) (b := b.natAbs) F.divisor
  rw [← e] at d
  simp [m_made, start, evSs, evS, evE, evEs, builtin, abs_eq, d, bindT, binop, gcd_lt hb hl, lo]
def m__law_low : List S := [
  .asg (.tp [.nm 2, .nm 3]) (.tup [.bi .abs [.v 0], .bi .abs [.v 1]]),
  .whl (.tr (.cmp .gt (.v 3) (.c (.int 0)))) [
    .asg (.tp [.nm 2, .nm 3]) (.tup [.v 3, .bin .mod (.bi .int [.v 2]) (.v 3)])],
  .asg (.nm 2) (.ite (.tr (.cmp .gt (.v 1) (.c (.int 0)))) (.v 2) (.bin .sub (.c (.int 0)) (.v 2))),
  .ret (.tup [.bin .fdiv (.bi .int [.v 0]) (.v 2), .bin .fdiv (.bi .int [.v 1]) (.v 2)])]
theorem s_low {T : Tbl} {G : String → Option D} {k : Nat} {h : Hp} {t b : Int} (ht : T "_law_low" = some (.fn 2 4 m__law_low)) (hb : 0 < b) (hl : b.natAbs < 2 ^ 64) : callN T G whlC (k + 1) "_law_low" [.int t, .int b] h = .ok (fr (lo t b)) h := by
  rw [call_fn ht rfl]
  simp only [m__law_low, start, List.map, List.replicate]
  rw [evSs, evS]
  simp only [evE, evEs, builtin, abs_eq, Res.bind_ok, Res.into_ok]
  simp only [List.cons_append, List.nil_append, List.append_nil, List.getElem?_cons_zero, List.getElem?_cons_succ, Res.bind_ok, Res.into_ok, bindT, bindTs, items?, List.set, RS.seq_nx, builtin, abs_eq]
  rw [evSs, evS]
  dsimp only
  rw [w_gcd (fun x y => [some (.int t), some (.int b), some (.int x), some (.int y)]) (fun a b => by simp [evC, evE, compareR, compare, cmpI, truthR, truth]) (fun a b hb => by simp [evSs, evS, evE, evEs, bindT, bindTs, items?, binop, hb, builtin])]
  simp [evSs, evS, evE, evC, evEs, builtin, compareR, compare, cmpI, truthR, truth, hb, bindT, binop, gcd_lt hb hl, lo]
end Y

set_option linter.all false
set_option maxRecDepth 100000
set_option maxHeartbeats 1000000
/-! The law's draws. -/
namespace Y
open PySem (Str)

def m__law_mixed : List S := [
  .asg (.nm 2) (.bin .mod (.bi .int [.bin .mul (.bin .add (.bin .add (.bin .mod (.bi .int [.v 0]) (.c (.int 2147483647))) (.bin .mul (.c (.int 7919)) (.v 1))) (.c (.int 1))) (.c (.int 48271))]) (.c (.int 2147483647))),
  .asg (.nm 2) (.bin .mod (.bi .int [.bin .mul (.v 2) (.bin .add (.bin .fdiv (.v 2) (.c (.int 1009))) (.c (.int 69621)))]) (.c (.int 2147483647))),
  .ret (.bin .fdiv (.bin .mod (.bi .int [.bin .mul (.v 2) (.bin .add (.bin .fdiv (.v 2) (.c (.int 2003))) (.c (.int 40692)))]) (.c (.int 2147483399))) (.c (.int 16)))]
theorem bind_mul {i j : Int} {h : Hp} (hi : i.natAbs < 2 ^ 64) (hj : j.natAbs < 2 ^ 64) : binop .mul (.int i) (.int j) h = .ok (.int (i * j)) h := by
  simp [binop, mulOk_of hi hj]
theorem bind_fdiv {i j : Int} {h : Hp} (h0 : 0 < j) (hj : j.natAbs < 2 ^ 64) : binop .fdiv (.int i) (.int j) h = .ok (.int (i / j)) h := by
  simp [binop, divOk_of h0 hj]
theorem bind_mod {i j : Int} {h : Hp} (h0 : 0 < j) : binop .mod (.int i) (.int j) h = .ok (.int (i % j)) h := by
  simp [binop, h0]
theorem s_mixed {T : Tbl} {G : String → Option D} {W : Wh} {k : Nat} {h : Hp} {c t : Int} (ht : T "_law_mixed" = some (.fn 2 3 m__law_mixed)) (h0 : 0 ≤ t) (h1 : t < 2 ^ 40) : ∃ r, callN T G W (k + 1) "_law_mixed" [.int c, .int t] h = .ok (.int r) h := by
  rw [call_fn ht rfl]
  have a1 := Int.emod_nonneg c (show (2147483647 : Int) ≠ 0 by decide)
  have a2 := Int.emod_lt_of_pos c (show (0 : Int) < 2147483647 by decide)
  simp [m__law_mixed, s_cons, start, bind_mod]
  rw [bind_mul (by decide) (by omega)]
  simp
  rw [bind_mul (by omega) (by decide)]
  simp [bind_mod]
  generalize hn : (c % 2147483647 + 7919 * t + 1) * 48271 % 2147483647 = n
  have b1 : 0 ≤ n := by rw [← hn]; exact Int.emod_nonneg _ (by decide)
  have b2 : n < 2147483647 := by rw [← hn]; exact Int.emod_lt_of_pos _ (by decide)
  rw [bind_fdiv (by decide) (by decide)]
  simp
  rw [bind_mul (by omega) (by omega)]
  simp [bind_mod]
  generalize hm : n * (n / 1009 + 69621) % 2147483647 = m
  have c1 : 0 ≤ m := by rw [← hm]; exact Int.emod_nonneg _ (by decide)
  have c2 : m < 2147483647 := by rw [← hm]; exact Int.emod_lt_of_pos _ (by decide)
  rw [bind_fdiv (by decide) (by decide)]
  simp
  rw [bind_mul (by omega) (by omega)]
  simp [bind_mod]
  rw [bind_fdiv (by decide) (by decide)]
  simp

/-! ### heaps -/
theorem elder_set {h : Hp} {p : Nat} {o : Ob} (f : o.flat h.length = true) : elder h (h.set p o) = true := by
  unfold elder
  rw [List.all_eq_true]
  intro i hi
  have hi' := List.mem_range.mp hi
  by_cases e : p = i
  · subst e
    rw [List.getElem?_set_self hi']
    simp [f]
  · rw [List.getElem?_set_ne e]
    simp
theorem fin_int_set {h : Hp} {p : Nat} {o : Ob} {i : Int} (f : o.flat h.length = true) : fin h (.rt (.int i) (h.set p o)) = .ok (.int i) (h.set p o) := by
  show left h (.int i) (h.set p o) = _
  unfold left
  simp [news, ren, elder_set f]
  rw [List.take_of_length_le (by simp)]
/-- the hand stands at p, its cells at c; at most n draws are behind -/
def Hand (h : Hp) (p c n : Nat) : Prop := c ≠ p ∧ ∃ (ns : List Int) (a l t : Int), h[p]? = some (.lst [.ref c, .int a, .int l, .int t]) ∧ h[c]? = some (.lst (ns.map .int)) ∧ 0 ≤ t ∧ t ≤ n
def m__law_draw : List S := [
  .sto (.v 0) (.c (.int 3)) (.bin .add (.idx (.v 0) (.c (.int 3))) (.c (.int 1))),
  .iff (.tr (.cmp .gt (.idx (.v 0) (.c (.int 2))) (.c (.int 0)))) [
    .asg (.nm 2) (.bin .mod (.bi .int [.idx (.v 0) (.c (.int 2))]) (.v 1)),
    .sto (.v 0) (.c (.int 2)) (.bin .fdiv (.idx (.v 0) (.c (.int 2))) (.v 1)),
    .ret (.v 2)] [],
  .asg (.tp [.nm 3, .nm 4]) (.tup [.idx (.v 0) (.c (.int 0)), .idx (.v 0) (.c (.int 1))]),
  .sto (.v 0) (.c (.int 1)) (.bin .add (.v 4) (.c (.int 1))),
  .iff (.tr (.cmp .eq (.bi .len [.v 3]) (.c (.int 0)))) [
    .ret (.bin .mod (.bi .int [.call "_law_mixed" [.c (.int 0), .idx (.v 0) (.c (.int 3))]]) (.v 1))] [],
  .asg (.nm 5) (.idx (.v 3) (.bin .mod (.bi .int [.v 4]) (.bi .len [.v 3]))),
  .iff (.and (.tr (.cmp .lt (.v 4) (.bi .len [.v 3]))) (.tr (.cmp .ge (.bi .abs [.v 5]) (.bin .pow (.c (.int 10)) (.c (.int 18)))))) [
    .sto (.v 0) (.c (.int 2)) (.bin .fdiv (.bi .abs [.v 5]) (.v 1)),
    .ret (.bin .mod (.bi .int [.bi .abs [.v 5]]) (.v 1))] [],
  .ret (.bin .mod (.bi .int [.call "_law_mixed" [.v 5, .idx (.v 0) (.c (.int 3))]]) (.v 1))]
theorem s_draw {T : Tbl} {G : String → Option D} {W : Wh} {k : Nat} {h : Hp} {p c n : Nat} {m : Int} (ht : T "_law_draw" = some (.fn 2 6 m__law_draw)) (hx : T "_law_mixed" = some (.fn 2 3 m__law_mixed)) (hh : Hand h p c n) (hn : n < 2 ^ 39) (h0 : 0 < m) (h1 : m.natAbs < 2 ^ 64) :
    ∃ r h', callN T G W (k + 2) "_law_draw" [.ref p, .int m] h = .ok (.int r) h' ∧ 0 ≤ r ∧ r < m ∧ Hand h' p c (n + 1) ∧ h'.length = h.length ∧ ∀ q, q ≠ p → h'[q]? = h[q]? := by
  obtain ⟨hc, ns, a, l, t, hp, hcl, t0, t1⟩ := hh
  have lp : p < h.length := (List.getElem?_eq_some_iff.mp hp).1
  have lc : c < h.length := (List.getElem?_eq_some_iff.mp hcl).1
  have sp : ∀ X, (h.set p X)[p]? = some X := fun X => List.getElem?_set_self lp
  have sc : ∀ X, (h.set p X)[c]? = some (.lst (ns.map .int)) := fun X => (List.getElem?_set_ne (Ne.symm hc)).trans hcl
  have ln : ∀ X, builtin .len [.ref c] (h.set p X) = .ok (.int ns.length) (h.set p X) := fun X => by simp [builtin, lenOf, sc]
  have fl : ∀ a l t : Int, (Ob.lst [.ref c, .int a, .int l, .int t]).flat h.length = true := fun a l t => by simp [Ob.flat, D.underL, D.under, lc]
  have done : ∀ (r a l t' : Int), t' = t + 1 → 0 ≤ r → r < m → ∃ r' h', fin h (.rt (.int r) (h.set p (.lst [.ref c, .int a, .int l, .int t']))) = .ok (.int r') h' ∧ 0 ≤ r' ∧ r' < m ∧ Hand h' p c (n + 1) ∧ h'.length = h.length ∧ ∀ q, q ≠ p → h'[q]? = h[q]? := by
    intro r a l t' e r0 r1
    exact ⟨r, _, fin_int_set (fl a l t'), r0, r1, ⟨hc, ns, a, l, t', sp _, sc _, by omega, by omega⟩, by simp, fun q hq => List.getElem?_set_ne (Ne.symm hq)⟩
  have md : ∀ x : Int, 0 ≤ x % m ∧ x % m < m := fun x => ⟨Int.emod_nonneg _ (by omega), Int.emod_lt_of_pos _ h0⟩
  rw [call_fn ht rfl]
  simp only [m__law_draw, start, List.map, List.replicate]
  rw [s_cons]
  simp [index, hp, item, place, store]
  rw [s_cons]
  simp only [s_iff, r_ctr, r_cmp, r_idx, r_v0, r_c, Res.bind_ok, index, sp, item, place]
  by_cases hl : 0 < l
  · simp [hl, s_cons, index, sp, item, place, bind_mod h0, bind_fdiv h0 h1, store]
    exact done _ _ _ _ rfl (md _).1 (md _).2
  · simp [hl]
    rw [s_cons]
    simp [index, sp, item, place]
    rw [s_cons]
    simp [index, sp, item, place, store]
    rw [s_cons]
    by_cases hz : ns.length = 0
    · have : ns = [] := List.length_eq_zero_iff.mp hz
      subst this
      obtain ⟨r, hr⟩ := s_mixed (G := G) (W := W) (k := k) (h := h.set p (.lst [.ref c, .int (a + 1), .int l, .int (t + 1)])) (c := 0) (t := t + 1) hx (by omega) (by omega)
      simp [ln, index, sp, item, place, hr, bind_mod h0, s_cons]
      exact done _ _ _ _ rfl (md _).1 (md _).2
    · have hz' : 0 < ns.length := by omega
      have hzi : (0 : Int) < ns.length := by omega
      have hne : ns ≠ [] := fun z => hz (by simp [z])
      simp [ln, hne]
      rw [s_cons]
      have i0 := Int.emod_nonneg a (show (ns.length : Int) ≠ 0 by omega)
      have i1 := Int.emod_lt_of_pos a hzi
      have ix : index (.ref c) (.int (a % ns.length)) (h.set p (.lst [.ref c, .int (a + 1), .int l, .int (t + 1)])) = .ok (.int (ns[(a % ns.length).toNat]'(by omega))) (h.set p (.lst [.ref c, .int (a + 1), .int l, .int (t + 1)])) := by
        have e : place (ns.map D.int).length (a % ns.length) = some (a % ns.length).toNat := by
          unfold place
          rw [if_pos i0, List.length_map, if_pos i1]
        simp only [index, sc, item, e, Option.bind_some, List.getElem?_map]
        rw [List.getElem?_eq_getElem (by omega)]
        rfl
      simp [ln, bind_mod hzi, ix]
      generalize ns[(a % ns.length).toNat]'(by omega) = v
      rw [s_cons]
      have pw : binop .pow (.int 10) (.int 18) (h.set p (.lst [.ref c, .int (a + 1), .int l, .int (t + 1)])) = .ok (.int (10 ^ 18)) (h.set p (.lst [.ref c, .int (a + 1), .int l, .int (t + 1)])) := by simp [binop]
      obtain ⟨r, hr⟩ := s_mixed (G := G) (W := W) (k := k) (h := h.set p (.lst [.ref c, .int (a + 1), .int l, .int (t + 1)])) (c := v) (t := t + 1) hx (by omega) (by omega)
      have fin2 : ∃ r' h', fin h (RS.rt (.int (r % m)) (h.set p (.lst [.ref c, .int (a + 1), .int l, .int (t + 1)]))) = .ok (.int r') h' ∧ 0 ≤ r' ∧ r' < m ∧ Hand h' p c (n + 1) ∧ h'.length = h.length ∧ ∀ q, q ≠ p → h'[q]? = h[q]? := done _ _ _ _ rfl (md _).1 (md _).2
      by_cases q1 : a < ns.length
      · by_cases q2 : (1000000000000000000 : Int) ≤ v.natAbs
        · simp [ln, q1, pw, q2, s_cons, bind_fdiv h0 h1, bind_mod h0, store, sp, place]
          exact done _ _ _ _ rfl (md _).1 (md _).2
        · simp [ln, q1, pw, q2, s_cons, bind_mod h0, hr, index, sp, item, place]
          exact fin2
      · simp [ln, q1, s_cons, bind_mod h0, hr, index, sp, item, place]
        exact fin2
end Y

set_option linter.all false
set_option maxRecDepth 100000
set_option maxHeartbeats 1000000
/-! Fractions. -/
namespace Y
open PySem (Str)

/-- small, the bottom above 0 -/
def Bd (p : Int × Int) : Prop := p.1.natAbs < 2 ^ 31 ∧ 0 < p.2 ∧ p.2 < 2 ^ 31
theorem pr31 {a b : Int} (ha : a.natAbs < 2 ^ 31) (hb : b.natAbs < 2 ^ 31) : (a * b).natAbs < 2 ^ 62 := by
  rw [Int.natAbs_mul]
  calc a.natAbs * b.natAbs ≤ a.natAbs * 2 ^ 31 := Nat.mul_le_mul_left _ (by omega)
    _ < 2 ^ 31 * 2 ^ 31 := Nat.mul_lt_mul_of_pos_right ha (by decide)
    _ = 2 ^ 62 := by decide
theorem bm {a b : Int} {h : Hp} (ha : a.natAbs < 2 ^ 31) (hb : b.natAbs < 2 ^ 31) : binop .mul (.int a) (.int b) h = .ok (.int (a * b)) h := bind_mul (by omega) (by omega)
def m_whole : List S := [
  .ret (.tup [.v 0, .c (.int 1)])]
def m_minus : List S := [
  .ret (.call "made" [.bin .sub (.bin .mul (.idx (.v 0) (.c (.int 0))) (.idx (.v 1) (.c (.int 1)))) (.bin .mul (.idx (.v 1) (.c (.int 0))) (.idx (.v 0) (.c (.int 1)))), .bin .mul (.idx (.v 0) (.c (.int 1))) (.idx (.v 1) (.c (.int 1)))])]
def m_mul : List S := [
  .ret (.call "made" [.bin .mul (.idx (.v 0) (.c (.int 0))) (.idx (.v 1) (.c (.int 0))), .bin .mul (.idx (.v 0) (.c (.int 1))) (.idx (.v 1) (.c (.int 1)))])]
def m_size_of : List S := [
  .ret (.tup [.bi .abs [.idx (.v 0) (.c (.int 0))], .idx (.v 0) (.c (.int 1))])]
def m_is_less : List S := [
  .ret (.cmp .lt (.bin .mul (.idx (.v 0) (.c (.int 0))) (.idx (.v 1) (.c (.int 1)))) (.bin .mul (.idx (.v 1) (.c (.int 0))) (.idx (.v 0) (.c (.int 1)))))]
def m__law_minus : List S := [
  .ret (.call "_law_low" [.bin .sub (.bin .mul (.idx (.v 0) (.c (.int 0))) (.idx (.v 1) (.c (.int 1)))) (.bin .mul (.idx (.v 1) (.c (.int 0))) (.idx (.v 0) (.c (.int 1)))), .bin .mul (.idx (.v 0) (.c (.int 1))) (.idx (.v 1) (.c (.int 1)))])]
def m__law_times : List S := [
  .ret (.call "_law_low" [.bin .mul (.idx (.v 0) (.c (.int 0))) (.idx (.v 1) (.c (.int 0))), .bin .mul (.idx (.v 0) (.c (.int 1))) (.idx (.v 1) (.c (.int 1)))])]
def lmin (p q : Int × Int) : Int × Int := lo (p.1 * q.2 - q.1 * p.2) (p.2 * q.2)
def lmul (p q : Int × Int) : Int × Int := lo (p.1 * q.1) (p.2 * q.2)
section
variable {T : Tbl} {G : String → Option D} {k : Nat} {h : Hp} {p q : Int × Int}
theorem s_whole {i : Int} (ht : T "whole" = some (.fn 1 1 m_whole)) : callN T G whlC (k + 1) "whole" [.int i] h = .ok (fr (i, 1)) h := by
  rw [call_fn ht rfl]; simp [m_whole, s_cons, start]
theorem s_minus (F : FT T) (ht : T "minus" = some (.fn 2 2 m_minus)) (hp : Bd p) (hq : Bd q) : callN T G whlC (k + 3) "minus" [fr p, fr q] h = .ok (fr (lmin p q)) h := by
  obtain ⟨p1, p2, p3⟩ := hp
  obtain ⟨q1, q2, q3⟩ := hq
  have e := pr31 (a := p.2) (b := q.2) (by omega) (by omega)
  have g := Int.mul_pos p2 q2
  rw [call_fn ht rfl]
  simp [m_minus, s_cons, start, bm (h := h) p1 (show q.2.natAbs < 2 ^ 31 by omega), bm (h := h) q1 (show p.2.natAbs < 2 ^ 31 by omega), bm (h := h) (show p.2.natAbs < 2 ^ 31 by omega) (show q.2.natAbs < 2 ^ 31 by omega), s_made F g (by omega), lmin]
theorem s_mul (F : FT T) (ht : T "mul" = some (.fn 2 2 m_mul)) (hp : Bd p) (hq : Bd q) : callN T G whlC (k + 3) "mul" [fr p, fr q] h = .ok (fr (lmul p q)) h := by
  obtain ⟨p1, p2, p3⟩ := hp
  obtain ⟨q1, q2, q3⟩ := hq
  have e := pr31 (a := p.2) (b := q.2) (by omega) (by omega)
  have g := Int.mul_pos p2 q2
  rw [call_fn ht rfl]
  simp [m_mul, s_cons, start, bm (h := h) p1 q1, bm (h := h) (show p.2.natAbs < 2 ^ 31 by omega) (show q.2.natAbs < 2 ^ 31 by omega), s_made F g (by omega), lmul]
theorem s_size_of (ht : T "size_of" = some (.fn 1 1 m_size_of)) : callN T G whlC (k + 1) "size_of" [fr p] h = .ok (fr (p.1.natAbs, p.2)) h := by
  rw [call_fn ht rfl]; simp [m_size_of, s_cons, start]
theorem s_is_less (ht : T "is_less" = some (.fn 2 2 m_is_less)) (hp : Bd p) (hq : Bd q) : callN T G whlC (k + 1) "is_less" [fr p, fr q] h = .ok (.bl (decide (p.1 * q.2 < q.1 * p.2))) h := by
  obtain ⟨p1, p2, p3⟩ := hp
  obtain ⟨q1, q2, q3⟩ := hq
  rw [call_fn ht rfl]
  simp [m_is_less, s_cons, start, bm (h := h) p1 (show q.2.natAbs < 2 ^ 31 by omega), bm (h := h) q1 (show p.2.natAbs < 2 ^ 31 by omega)]
theorem s_lminus (ht0 : T "_law_low" = some (.fn 2 4 m__law_low)) (ht : T "_law_minus" = some (.fn 2 2 m__law_minus)) (hp : Bd p) (hq : Bd q) : callN T G whlC (k + 2) "_law_minus" [fr p, fr q] h = .ok (fr (lmin p q)) h := by
  obtain ⟨p1, p2, p3⟩ := hp
  obtain ⟨q1, q2, q3⟩ := hq
  have e := pr31 (a := p.2) (b := q.2) (by omega) (by omega)
  have g := Int.mul_pos p2 q2
  rw [call_fn ht rfl]
  simp [m__law_minus, s_cons, start, bm (h := h) p1 (show q.2.natAbs < 2 ^ 31 by omega), bm (h := h) q1 (show p.2.natAbs < 2 ^ 31 by omega), bm (h := h) (show p.2.natAbs < 2 ^ 31 by omega) (show q.2.natAbs < 2 ^ 31 by omega), s_low ht0 g (by omega), lmin]
theorem s_ltimes (ht0 : T "_law_low" = some (.fn 2 4 m__law_low)) (ht : T "_law_times" = some (.fn 2 2 m__law_times)) (hp : Bd p) (hq : Bd q) : callN T G whlC (k + 2) "_law_times" [fr p, fr q] h = .ok (fr (lmul p q)) h := by
  obtain ⟨p1, p2, p3⟩ := hp
  obtain ⟨q1, q2, q3⟩ := hq
  have e := pr31 (a := p.2) (b := q.2) (by omega) (by omega)
  have g := Int.mul_pos p2 q2
  rw [call_fn ht rfl]
  simp [m__law_times, s_cons, start, bm (h := h) p1 q1, bm (h := h) (show p.2.natAbs < 2 ^ 31 by omega) (show q.2.natAbs < 2 ^ 31 by omega), s_low ht0 g (by omega), lmul]
end
end Y

set_option linter.all false
set_option maxRecDepth 100000
set_option maxHeartbeats 1000000
/-! Going on, digit by digit. -/
namespace Y
open PySem (Str)

theorem lo_le {t b : Int} (h : 0 < b) : (lo t b).1.natAbs ≤ t.natAbs ∧ 0 < (lo t b).2 ∧ (lo t b).2 ≤ b := by
  have g0 : 0 < Nat.gcd t.natAbs b.natAbs := Nat.gcd_pos_of_pos_right _ (by omega)
  have gd : ((Nat.gcd t.natAbs b.natAbs : Nat) : Int) ∣ b := Int.ofNat_dvd_left.mpr (Nat.gcd_dvd_right _ _)
  exact ⟨Int.natAbs_ediv_le_natAbs t _, Int.ediv_pos_of_pos_of_dvd h (by omega) gd, Int.ediv_le_self _ (by omega)⟩
theorem lo_bd {t b : Int} (h : Bd (t, b)) : Bd (lo t b) := by
  obtain ⟨h1, h2, h3⟩ := h
  simp only at h1 h2 h3
  obtain ⟨l1, l2, l3⟩ := lo_le (t := t) h2
  exact ⟨by omega, l2, by omega⟩
def ilist (lo : Int) : Nat → List Int
  | 0 => []
  | n + 1 => lo :: ilist (lo + 1) n
theorem irange_eq : ∀ (n : Nat) (lo : Int), irange lo n = (ilist lo n).map D.int
  | 0, _ => rfl
  | n + 1, lo => by rw [irange, ilist, List.map_cons, irange_eq n]
theorem mem_ilist : ∀ {n : Nat} {lo x : Int}, x ∈ ilist lo n → lo ≤ x ∧ x < lo + n
  | 0, _, _, h => by simp [ilist] at h
  | n + 1, lo, x, h => by
    rw [ilist, List.mem_cons] at h
    rcases h with h | h
    · omega
    · have := mem_ilist h
      omega
theorem ilist_len : ∀ (n : Nat) (lo : Int), (ilist lo n).length = n
  | 0, _ => rfl
  | n + 1, lo => by rw [ilist, List.length_cons, ilist_len n]
def stp (b : Int) (r : Int × Int) (d : Int) : Int × Int := lmin (lmul r (b, 1)) (d, 1)
def goD (x : Int × (Int × Int)) : D := .tup [.int x.1, fr x.2]
def goes (b : Int) (r : Int × Int) : List (Int × (Int × Int)) := ((ilist (1 - b) (b - (1 - b)).toNat).map fun d => (d, stp b r d)).filter fun x => decide ((x.2.1.natAbs : Int) ≤ x.2.2)
theorem underL_append (n : Nat) : ∀ {a b : List D}, D.underL n (a ++ b) = (D.underL n a && D.underL n b)
  | [], b => by simp [D.underL]
  | d :: a, b => by rw [List.cons_append, D.underL, D.underL, underL_append n, Bool.and_assoc]
theorem underL_ints (n : Nat) : ∀ l : List Int, D.underL n (l.map D.int) = true
  | [] => rfl
  | _ :: l => by rw [List.map_cons, D.underL, underL_ints n l]; rfl
theorem underL_go (n : Nat) : ∀ l : List (Int × (Int × Int)), D.underL n (l.map goD) = true
  | [] => rfl
  | x :: l => by rw [List.map_cons, D.underL, underL_go n l]; simp [goD, D.under, D.underL]
theorem elder_app (h x : Hp) : elder h (h ++ x) = true := by
  unfold elder
  rw [List.all_eq_true]
  intro i hi
  rw [List.getElem?_append_left (List.mem_range.mp hi)]
  simp
/-- one new object is told -/
theorem fin_obj {h x : Hp} {m : Nat} {o : Ob} (hm : (h ++ x)[m]? = some o) (hl : h.length ≤ m) (f : o.flat h.length = true) : fin h (.rt (.ref m) (h ++ x)) = .ok (.ref h.length) (h ++ [o]) := by
  show left h (.ref m) (h ++ x) = _
  unfold left
  have e : news h.length (.ref m) [] = [m] := by rw [news, if_pos hl]; simp
  rw [e]
  simp only [elder_app, List.all_cons, List.all_nil, hm, f, Bool.and_true, if_true, List.filterMap_cons, List.filterMap_nil]
  simp [ren, hl]
/-- nothing new is told -/
theorem fin_drop {h x : Hp} {i : Int} : fin h (.rt (.int i) (h ++ x)) = .ok (.int i) h := by
  show left h (.int i) (h ++ x) = _
  unfold left
  simp [news, ren, elder_app]
theorem lcL_pure {t : Y.T} {g : List (Nat × Ob)} {test : Env → Hp → Res Bool} {elt : Env → Hp → Res D} {ρ : Env} {h : Hp} (hg : okG g h = true) (P : D → Bool) (f : D → D) : ∀ ds : List D, (∀ d ∈ ds, ∃ ρd, bindT t d ρ h = some ρd ∧ test ρd h = .ok (P d) h ∧ (P d = true → elt ρd h = .ok (f d) h)) →
    lcL t g test elt ρ ds h = .ok ((ds.filter P).map f) h
  | [], _ => by rw [lcL, if_pos hg]; rfl
  | d :: ds, hd => by
    obtain ⟨ρd, h1, h2, h3⟩ := hd d (List.mem_cons_self ..)
    have ih := lcL_pure hg P f ds fun x hx => hd x (List.mem_cons_of_mem _ hx)
    rw [lcL, if_pos hg]
    simp only [h1, h2]
    cases e : P d with
    | true => simp only [h3 e, ih, List.filter_cons_of_pos e, List.map_cons]
    | false => simp only [ih]; rw [List.filter_cons_of_neg (by simp [e])]
theorem lc_src {Z : Sg} {ρ : Env} {h h' : Hp} {e : E} {t : Y.T} {i : I} {cs : List C} {s : Src} (hi : evI Z i ρ h = .ok s h') (hk : s.lk = none) (hl : s.ds.length ≤ line) (hg : okG s.g h' = true) (P : D → Bool) (f : D → D)
    (each : ∀ d ∈ s.ds, ∃ ρd, bindT t d (forget ρ t.slots) h' = some ρd ∧ evCs Z cs ρd h' = .ok (P d) h' ∧ (P d = true → evE Z e ρd h' = .ok (f d) h')) :
    evE Z (.lc e t i cs) ρ h = .ok (.ref h'.length) (h' ++ [.lst ((s.ds.filter P).map f)]) := by
  rw [r_lc, hi]
  simp only [Res.bind_ok]
  rw [if_neg (by omega)]
  have e1 : locked s h' = h' := by unfold locked; rw [hk]
  have e2 : ∀ r : Res D, r.unlock s = r := fun r => by unfold Res.unlock; rw [hk]
  rw [e1, e2, lcL_pure hg P f s.ds each]
  rfl
theorem filter_all {α : Type} : ∀ l : List α, l.filter (fun _ => true) = l
  | [] => rfl
  | a :: l => by rw [List.filter_cons_of_pos rfl, filter_all l]
def m_digits_of : List S := [
  .ret (.lof (.rng2 (.bin .sub (.c (.int 1)) (.v 0)) (.v 0)))]
def m_going_on : List S := [
  .asg (.nm 2) (.call "mul" [.v 1, .call "whole" [.v 0]]),
  .asg (.nm 3) (.lc (.tup [.v 4, .call "minus" [.v 2, .call "whole" [.v 4]]]) (.nm 4) (.val (.call "digits_of" [.v 0])) []),
  .ret (.lc (.tup [.v 4, .v 5]) (.tp [.nm 4, .nm 5]) (.var 3) [.not (.tr (.call "is_less" [.g "ONE", .call "size_of" [.v 5]]))])]
/-- the defs of going on -/
structure GT (T : Tbl) (G : String → Option D) : Prop extends FT T where
  whole : T "whole" = some (.fn 1 1 m_whole)
  minus : T "minus" = some (.fn 2 2 m_minus)
  mul : T "mul" = some (.fn 2 2 m_mul)
  size_of : T "size_of" = some (.fn 1 1 m_size_of)
  is_less : T "is_less" = some (.fn 2 2 m_is_less)
  digits_of : T "digits_of" = some (.fn 1 1 m_digits_of)
  going_on : T "going_on" = some (.fn 2 6 m_going_on)
  one : G "ONE" = some (fr (1, 1))
section
variable {T : Tbl} {G : String → Option D} {k : Nat} {h : Hp} {b : Int} {r : Int × Int}
theorem s_digits_of (ht : T "digits_of" = some (.fn 1 1 m_digits_of)) (b0 : 2 ≤ b) (b1 : b ≤ 5) : callN T G whlC (k + 1) "digits_of" [.int b] h = .ok (.ref h.length) (h ++ [.lst ((ilist (1 - b) (b - (1 - b)).toNat).map D.int)]) := by
  rw [call_fn ht rfl]
  have hr : range2 (.int (1 - b)) (.int b) = some ⟨irange (1 - b) (b - (1 - b)).toNat, [], none⟩ := by
    unfold range2
    simp only
    rw [if_pos]
    have : line = 16777216 := rfl
    simp only [Bool.and_eq_true, decide_eq_true_eq]
    omega
  simp [m_digits_of, s_cons, start, hr, new, irange_eq]
  exact fin_obj (by simp) (Nat.le_refl _) (underL_ints _ _)
theorem stp_bd (hr : Bd r) (hs : r.1.natAbs < 2 ^ 20 ∧ r.2 < 2 ^ 20) (b0 : 2 ≤ b) (b1 : b ≤ 5) {d : Int} (d0 : -5 < d) (d1 : d < 5) : Bd (lmul r (b, 1)) ∧ Bd (stp b r d) := by
  obtain ⟨h1, h2, h3⟩ := hr
  have hb : b = 2 ∨ b = 3 ∨ b = 4 ∨ b = 5 := by omega
  obtain ⟨m1, m2, m3⟩ : (lmul r (b, 1)).1.natAbs ≤ (r.1 * b).natAbs ∧ 0 < (lmul r (b, 1)).2 ∧ (lmul r (b, 1)).2 ≤ r.2 * 1 := lo_le (t := r.1 * b) (b := r.2 * 1) (by omega)
  have e : (r.1 * b).natAbs < 2 ^ 23 := by rcases hb with rfl | rfl | rfl | rfl <;> omega
  refine ⟨⟨by omega, m2, by omega⟩, ?_⟩
  show Bd (lo ((lmul r (b, 1)).1 * 1 - d * (lmul r (b, 1)).2) ((lmul r (b, 1)).2 * 1))
  generalize lmul r (b, 1) = m at *
  obtain ⟨x, y⟩ := m
  simp only at m1 m2 m3 ⊢
  refine lo_bd ⟨?_, ?_, ?_⟩ <;> simp only
  · have hd : d = -4 ∨ d = -3 ∨ d = -2 ∨ d = -1 ∨ d = 0 ∨ d = 1 ∨ d = 2 ∨ d = 3 ∨ d = 4 := by omega
    rcases hd with rfl | rfl | rfl | rfl | rfl | rfl | rfl | rfl | rfl <;> omega
  · omega
  · omega
theorem s_going_on (F : GT T G) (hr : Bd r) (hs : r.1.natAbs < 2 ^ 20 ∧ r.2 < 2 ^ 20) (b0 : 2 ≤ b) (b1 : b ≤ 5) : callN T G whlC (k + 4) "going_on" [.int b, fr r] h = .ok (.ref h.length) (h ++ [.lst ((goes b r).map goD)]) := by
  have bb : Bd (b, 1) := ⟨by simp only; omega, by simp only; omega, by simp only; omega⟩
  rw [call_fn F.going_on rfl]
  simp only [m_going_on, start, List.map, List.replicate]
  rw [s_cons]
  simp [s_whole (T := T) (G := G) (k := k + 2) F.whole, s_mul F.toFT F.mul hr bb]
  rw [s_cons]
  have hl : ((ilist (1 - b) (b - (1 - b)).toNat).map D.int).length ≤ line := by
    have : line = 16777216 := rfl
    rw [List.length_map, ilist_len]; omega
  have hi : evI ⟨callN T G whlC (k + 3), whlC, G⟩ (.val (.call "digits_of" [.v 0])) [some (.int b), some (fr r), some (fr (lmul r (b, 1))), none, none, none] h = .ok ⟨(ilist (1 - b) (b - (1 - b)).toNat).map D.int, [(h.length, .lst ((ilist (1 - b) (b - (1 - b)).toNat).map D.int))], none⟩ (h ++ [.lst ((ilist (1 - b) (b - (1 - b)).toNat).map D.int)]) := by
    simp [s_digits_of (T := T) (G := G) (k := k + 2) F.digits_of b0 b1, seqOf]
  have dig : ∀ d, D.int d ∈ (ilist (1 - b) (b - (1 - b)).toNat).map D.int → -5 < d ∧ d < 5 := fun d hd => by
    simp only [List.mem_map] at hd
    obtain ⟨x, hx, e⟩ := hd
    cases e
    have := mem_ilist hx
    omega
  have lc1 := lc_src (e := .tup [.v 4, .call "minus" [.v 2, .call "whole" [.v 4]]]) (t := .nm 4) (cs := []) hi rfl hl (by simp [okG]) (fun _ => true) (fun d => match d with | .int d => .tup [.int d, fr (stp b r d)] | d => d) (fun d hd => by
    have hd0 := hd
    simp only [List.mem_map] at hd
    obtain ⟨x, hx, rfl⟩ := hd
    obtain ⟨d0, d1⟩ := dig x hd0
    have b2 := stp_bd hr hs b0 b1 d0 d1
    have bx : Bd (x, 1) := ⟨by simp only; omega, by simp only; omega, by simp only; omega⟩
    refine ⟨_, rfl, by simp, fun _ => ?_⟩
    simp [s_whole (T := T) (G := G) (k := k + 2) F.whole, s_minus (k := k) F.toFT F.minus b2.1 bx, stp])
  rw [filter_all, List.map_map] at lc1
  simp only [s_asg, lc1, Res.into_ok, bindT_nm, List.set, RS.seq_nx]
  rw [s_cons]
  generalize hX : (h ++ [Ob.lst ((ilist (1 - b) (b - (1 - b)).toNat).map D.int)]) = h1
  generalize hL : List.map ((fun d => match d with | .int d => D.tup [.int d, fr (stp b r d)] | d => d) ∘ D.int) (ilist (1 - b) (b - (1 - b)).toNat) = L
  have hL' : L = (((ilist (1 - b) (b - (1 - b)).toNat).map fun d => (d, stp b r d)).map goD) := by rw [← hL, List.map_map]; rfl
  have hi2 : evI ⟨callN T G whlC (k + 3), whlC, G⟩ (.var 3) [some (.int b), some (fr r), some (fr (lmul r (b, 1))), some (.ref h1.length), none, none] (h1 ++ [.lst L]) = .ok ⟨L, [(h1.length, .lst L)], none⟩ (h1 ++ [.lst L]) := by
    rw [evI]
    simp [srcOf, dict?, seqOf]
  have hl2 : L.length ≤ line := by rw [← hL, List.length_map, ilist_len]; have : line = 16777216 := rfl; omega
  have lc2 := lc_src (e := .tup [.v 4, .v 5]) (t := .tp [.nm 4, .nm 5]) (cs := [.not (.tr (.call "is_less" [.g "ONE", .call "size_of" [.v 5]]))]) hi2 rfl hl2 (by simp [okG]) (fun d => match d with | .tup [_, .tup [.int x, .int y]] => decide ((x.natAbs : Int) ≤ y) | _ => false) id (fun d hd => by
    rw [hL'] at hd
    simp only [List.mem_map] at hd
    obtain ⟨_, ⟨x, hx, rfl⟩, rfl⟩ := hd
    obtain ⟨d0, d1⟩ := dig x (List.mem_map.mpr ⟨x, hx, rfl⟩)
    obtain ⟨_, b3, b4, b5⟩ := stp_bd hr hs b0 b1 d0 d1
    have b6 : Bd ((((stp b r x).1.natAbs : Nat) : Int), (stp b r x).2) := ⟨by simp only; omega, b4, b5⟩
    refine ⟨_, rfl, ?_, fun _ => ?_⟩
    · simp [F.one, s_size_of (T := T) (G := G) (k := k + 2) F.size_of, s_is_less (T := T) (G := G) (k := k + 2) (p := (1, 1)) F.is_less ⟨by decide, by decide, by decide⟩ b6]
      by_cases q : (((stp b r x).1.natAbs : Nat) : Int) ≤ (stp b r x).2 <;> simp [q, goD]
    · simp [goD])
  simp only [s_ret, lc2, Res.into_ok, RS.seq_rt, List.map_id]
  have e3 : L.filter (fun d => match d with | .tup [_, .tup [.int x, .int y]] => decide ((x.natAbs : Int) ≤ y) | _ => false) = (goes b r).map goD := by
    rw [hL', goes, List.filter_map]
    rfl
  rw [e3, ← hX, List.append_assoc, List.append_assoc]
  exact fin_obj (by simp) (by simp) (underL_go _ _)
end
end Y

set_option linter.all false
set_option maxRecDepth 100000
set_option maxHeartbeats 1000000
/-! The law's own going on; the turns of a for. -/
namespace Y
open PySem (Str)

theorem forL_run {t : Y.T} {g : List (Nat × Ob)} {body : Env → Hp → RS} (Inv : List D → Env → Hp → Prop) (hok : ∀ ds ρ h, Inv ds ρ h → okG g h = true)
    (step : ∀ d ds ρ h, Inv (d :: ds) ρ h → ∃ ρ' ρ'' h', bindT t d ρ h = some ρ' ∧ body ρ' h = .nx ρ'' h' ∧ Inv ds ρ'' h') : ∀ ds ρ h, Inv ds ρ h → ∃ ρ' h', forL t g body ds ρ h = .nx ρ' h' ∧ Inv [] ρ' h'
  | [], ρ, h, i => ⟨ρ, h, by rw [forL, if_pos (hok _ _ _ i)], i⟩
  | d :: ds, ρ, h, i => by
    obtain ⟨ρ', ρ'', h', h1, h2, h3⟩ := step d ds ρ h i
    obtain ⟨ρ3, h3', e, i'⟩ := forL_run Inv hok step ds ρ'' h' h3
    exact ⟨ρ3, h3', by rw [forL, if_pos (hok _ _ _ i)]; simp only [h1, h2, e], i'⟩
theorem for_src {Z : Sg} {t : Y.T} {i : I} {b : List S} {ρ : Env} {h h' : Hp} {s : Src} (hi : evI Z i ρ h = .ok s h') (hk : s.lk = none) : evS Z (.for_ t i b) ρ h = forL t s.g (fun ρ h => evSs Z b ρ h) s.ds ρ h' := by
  rw [s_for, hi]
  simp only [Res.into_ok]
  have e1 : locked s h' = h' := by unfold locked; rw [hk]
  have e2 : ∀ r : RS, r.unlock s = r := fun r => by unfold RS.unlock; rw [hk]
  rw [e1, e2]
def m__law_goes : List S := [
  .asg (.nm 2) (.lst []),
  .for_ (.nm 3) (.rng2 (.bin .sub (.c (.int 1)) (.v 0)) (.v 0)) [
    .asg (.nm 4) (.call "_law_minus" [.call "_law_times" [.v 1, .tup [.v 0, .c (.int 1)]], .tup [.v 3, .c (.int 1)]]),
    .iff (.tr (.cmp .le (.bi .abs [.idx (.v 4) (.c (.int 0))]) (.idx (.v 4) (.c (.int 1))))) [
      .ex (.mt (.v 2) .append [.tup [.v 3, .v 4]])] []],
  .ret (.v 2)]
structure LT (T : Tbl) : Prop where
  low : T "_law_low" = some (.fn 2 4 m__law_low)
  minus : T "_law_minus" = some (.fn 2 2 m__law_minus)
  times : T "_law_times" = some (.fn 2 2 m__law_times)
  goes : T "_law_goes" = some (.fn 2 5 m__law_goes)
theorem set_last (h : Hp) (a b : Ob) : (h ++ [a]).set h.length b = h ++ [b] := by
  rw [List.set_append_right _ _ (Nat.le_refl _), Nat.sub_self]; rfl
/-- what goes on of some digits -/
def goesL (b : Int) (r : Int × Int) (ds : List Int) : List (Int × (Int × Int)) := (ds.map fun d => (d, stp b r d)).filter fun x => decide ((x.2.1.natAbs : Int) ≤ x.2.2)
theorem goesL_app {b : Int} {r : Int × Int} {a c : List Int} : goesL b r (a ++ c) = goesL b r a ++ goesL b r c := by unfold goesL; rw [List.map_append, List.filter_append]
theorem goesL_len {b : Int} {r : Int × Int} {a : List Int} : (goesL b r a).length ≤ a.length := by
  unfold goesL
  exact Nat.le_trans (List.length_filter_le _ _) (by rw [List.length_map]; exact Nat.le_refl _)
section
variable {T : Tbl} {G : String → Option D} {k : Nat} {h : Hp} {b : Int} {r : Int × Int}
theorem s_lgoes (F : LT T) (hr : Bd r) (hs : r.1.natAbs < 2 ^ 20 ∧ r.2 < 2 ^ 20) (b0 : 2 ≤ b) (b1 : b ≤ 5) : callN T G whlC (k + 3) "_law_goes" [.int b, fr r] h = .ok (.ref h.length) (h ++ [.lst ((goes b r).map goD)]) := by
  have bb : Bd (b, 1) := ⟨by simp only; omega, by simp only; omega, by simp only; omega⟩
  have hr2 : range2 (.int (1 - b)) (.int b) = some ⟨irange (1 - b) (b - (1 - b)).toNat, [], none⟩ := by
    unfold range2
    simp only
    rw [if_pos]
    have : line = 16777216 := rfl
    simp only [Bool.and_eq_true, decide_eq_true_eq]
    omega
  rw [call_fn F.goes rfl]
  simp only [m__law_goes, start, List.map, List.replicate]
  rw [s_cons]
  simp [new]
  rw [s_cons]
  rw [for_src (s := ⟨irange (1 - b) (b - (1 - b)).toNat, [], none⟩) (h' := h ++ [.lst []]) (by simp [hr2]) rfl]
  generalize hB : (fun ρ h => evSs (⟨callN T G whlC (k + 2), whlC, G⟩ : Sg) [.asg (.nm 4) (.call "_law_minus" [.call "_law_times" [.v 1, .tup [.v 0, .c (.int 1)]], .tup [.v 3, .c (.int 1)]]),
    .iff (.tr (.cmp .le (.bi .abs [.idx (.v 4) (.c (.int 0))]) (.idx (.v 4) (.c (.int 1))))) [
      .ex (.mt (.v 2) .append [.tup [.v 3, .v 4]])] []] ρ h) = B
  obtain ⟨ρ', h', e, i⟩ := forL_run (t := .nm 3) (g := []) (body := B) (fun ds ρ h' => ∃ (done todo : List Int) (x y : Option D), ds = todo.map D.int ∧ ilist (1 - b) (b - (1 - b)).toNat = done ++ todo ∧ h' = h ++ [.lst ((goesL b r done).map goD)] ∧ ρ = [some (.int b), some (fr r), some (.ref h.length), x, y])
    (fun ds ρ h' _ => rfl) (fun d ds ρ h' hi => by
      obtain ⟨done, todo, x, y, e1, e2, rfl, rfl⟩ := hi
      cases todo with
      | nil => cases e1
      | cons d0 todo =>
        rw [List.map_cons] at e1
        cases e1
        have hd : d0 ∈ ilist (1 - b) (b - (1 - b)).toNat := by rw [e2]; simp
        have hd' := mem_ilist hd
        have b2 := stp_bd hr hs b0 b1 (d := d0) (by omega) (by omega)
        have bx : Bd (d0, 1) := ⟨by simp only; omega, by simp only; omega, by simp only; omega⟩
        have hlen : (goesL b r done).length < line := by
          have a1 := goesL_len (b := b) (r := r) (a := done)
          have a2 := congrArg List.length e2
          rw [ilist_len, List.length_append] at a2
          have : line = 16777216 := rfl
          omega
        have st : fr (lmin (lmul r (b, 1)) (d0, 1)) = fr (stp b r d0) := rfl
        refine ⟨_, [some (.int b), some (fr r), some (.ref h.length), some (.int d0), some (fr (stp b r d0))], h ++ [.lst ((goesL b r (done ++ [d0])).map goD)], rfl, ?_, done ++ [d0], todo, _, _, rfl, by rw [e2]; simp, rfl, rfl⟩
        rw [← hB]
        simp only [List.set]
        rw [s_cons]
        simp [s_ltimes (T := T) (G := G) (k := k) F.low F.times hr bb, s_lminus (T := T) (G := G) (k := k) F.low F.minus b2.1 bx, st]
        rw [s_cons]
        by_cases q : (((stp b r d0).1.natAbs : Nat) : Int) ≤ (stp b r d0).2
        · simp [q, s_cons, kindOf, has, method, lstM, hlen, set_last]
          rw [goesL_app, List.map_append]
          simp [goesL, q, goD]
        · simp [q]
          rw [goesL_app, List.map_append]
          simp [goesL, q]) (irange (1 - b) (b - (1 - b)).toNat) [some (.int b), some (fr r), some (.ref h.length), none, none] (h ++ [.lst []]) ⟨[], ilist (1 - b) (b - (1 - b)).toNat, none, none, irange_eq _ _, rfl, rfl, rfl⟩
  simp only
  rw [e]
  obtain ⟨done, todo, x, y, e1, e2, rfl, rfl⟩ := i
  have : todo = [] := by cases todo with
    | nil => rfl
    | cons _ _ => cases e1
  subst this
  rw [List.append_nil] at e2
  simp [s_cons]
  rw [show goes b r = goesL b r done from by rw [← e2]; rfl]
  exact fin_obj (by simp) (Nat.le_refl _) (underL_go _ _)
end
end Y

set_option linter.all false
set_option maxRecDepth 100000
set_option maxHeartbeats 1000000
/-! Counts in a dict: the model. -/
namespace Y
open PySem (Str)

abbrev Fr := Int × Int
theorem fr_inj {p q : Fr} (h : fr p = fr q) : p = q := by
  obtain ⟨a, b⟩ := p
  obtain ⟨c, d⟩ := q
  simp only [fr, D.tup.injEq, List.cons.injEq, D.int.injEq, and_true] at h
  obtain ⟨rfl, rfl⟩ := h
  rfl
def addTo : List (Fr × Int) → Fr → Int → List (Fr × Int)
  | [], k, v => [(k, v)]
  | (k', v') :: r, k, v => if k' = k then (k', v' + v) :: r else (k', v') :: addTo r k v
def getI : List (Fr × Int) → Fr → Option Int
  | [], _ => none
  | (k', v) :: r, k => if k' = k then some v else getI r k
def dk (L : List (Fr × Int)) : List (D × D) := L.map fun p => (fr p.1, .int p.2)
theorem look_dk (k : Fr) : ∀ L : List (Fr × Int), look (dk L) (fr k) = (getI L k).map D.int
  | [] => rfl
  | (k', v) :: r => by
    rw [dk, List.map_cons, look, getI]
    by_cases e : k' = k
    · rw [if_pos (by rw [e]), if_pos e]; rfl
    · rw [if_neg (fun z => e (fr_inj z)), if_neg e]; exact look_dk k r
theorem put_dk (k : Fr) (v : Int) : ∀ L : List (Fr × Int), put (dk L) (fr k) (.int ((getI L k).getD 0 + v)) = dk (addTo L k v)
  | [] => by simp [dk, put, addTo, getI]
  | (k', v') :: r => by
    rw [addTo, getI]
    by_cases e : k' = k
    · rw [if_pos e, if_pos e]
      simp only [dk, List.map_cons, put]
      rw [if_pos (by rw [e])]
      rfl
    · rw [if_neg e, if_neg e]
      simp only [dk, List.map_cons, put]
      rw [if_neg (fun z => e (fr_inj z))]
      have := put_dk k v r
      unfold dk at this
      rw [this]
theorem keyFor_dk (k : Fr) (L : List (D × D)) (h : ∀ p ∈ L, p.1.isTup = true) : keyFor L (fr k) = true := by
  unfold keyFor
  cases L with
  | nil => rfl
  | cons p r =>
    have := h p (List.mem_cons_self ..)
    simp only [this]
    rfl
theorem dk_tup (L : List (Fr × Int)) : ∀ p ∈ dk L, p.1.isTup = true := fun p hp => by
  unfold dk at hp
  rw [List.mem_map] at hp
  obtain ⟨q, _, rfl⟩ := hp
  rfl
theorem addTo_keys (k : Fr) (v : Int) : ∀ L : List (Fr × Int), (addTo L k v).map (·.1) = if k ∈ L.map (·.1) then L.map (·.1) else L.map (·.1) ++ [k]
  | [] => by simp [addTo]
  | (k', v') :: r => by
    rw [addTo]
    by_cases e : k' = k
    · rw [if_pos e, if_pos (by simp [e])]; rfl
    · rw [if_neg e, List.map_cons, addTo_keys k v r, List.map_cons]
      by_cases m : k ∈ r.map (·.1)
      · rw [if_pos m, if_pos (List.mem_cons_of_mem _ m)]
      · rw [if_neg m, if_neg (by
          intro z
          rcases List.mem_cons.mp z with z | z
          · exact e z.symm
          · exact m z)]
        rfl
def addAll (c : Int) (L : List (Fr × Int)) (gs : List (Int × Fr)) : List (Fr × Int) := gs.foldl (fun L x => addTo L x.2 c) L
def stepC (b : Int) (C : List (Fr × Int)) : List (Fr × Int) := C.foldl (fun L p => addAll p.2 L (goes b p.1)) []
def cnt (b : Int) (x : Fr) : Nat → List (Fr × Int)
  | 0 => [(x, 1)]
  | n + 1 => stepC b (cnt b x n)
/-- keys: each once, all of P -/
def Kp (P : Fr → Prop) (L : List (Fr × Int)) : Prop := (L.map (·.1)).Nodup ∧ ∀ k ∈ L.map (·.1), P k
theorem Kp.add {P : Fr → Prop} {L : List (Fr × Int)} (h : Kp P L) {k : Fr} (hk : P k) (v : Int) : Kp P (addTo L k v) := by
  unfold Kp
  rw [addTo_keys]
  split
  · exact h
  · rename_i n
    refine ⟨?_, fun q hq => ?_⟩
    · rw [List.nodup_append]
      exact ⟨h.1, by simp, fun a ha b hb => by simp at hb; subst hb; intro z; exact n (z ▸ ha)⟩
    · rcases List.mem_append.mp hq with hq | hq
      · exact h.2 q hq
      · rw [List.mem_singleton.mp hq]; exact hk
theorem Kp.nil {P : Fr → Prop} : Kp P [] := ⟨List.nodup_nil, fun _ h => by simp at h⟩
/-- a set of fractions that going on does not leave, and that is small -/
structure Cl (b : Int) (P : Fr → Prop) : Prop where
  sm : ∀ k, P k → Bd k ∧ k.1.natAbs < 2 ^ 20 ∧ k.2 < 2 ^ 20
  cl : ∀ k, P k → ∀ x ∈ goes b k, P x.2
  fin : ∀ L : List Fr, L.Nodup → (∀ k ∈ L, P k) → L.length < line
theorem Kp.all {b : Int} {P : Fr → Prop} (c : Cl b P) {L : List (Fr × Int)} (h : Kp P L) (v : Int) {gs : List (Int × Fr)} (hg : ∀ x ∈ gs, P x.2) : Kp P (addAll v L gs) := by
  induction gs generalizing L with
  | nil => exact h
  | cons x gs ih => exact ih (h.add (hg x (List.mem_cons_self ..)) v) fun y hy => hg y (List.mem_cons_of_mem _ hy)
theorem Kp.step {b : Int} {P : Fr → Prop} (c : Cl b P) : ∀ (C L : List (Fr × Int)), (∀ p ∈ C, P p.1) → Kp P L → Kp P (C.foldl (fun L p => addAll p.2 L (goes b p.1)) L)
  | [], L, _, h => h
  | p :: C, L, hp, h => Kp.step c C _ (fun q hq => hp q (List.mem_cons_of_mem _ hq)) (h.all c p.2 (c.cl p.1 (hp p (List.mem_cons_self ..))))
theorem Kp.mem {P : Fr → Prop} {L : List (Fr × Int)} (h : Kp P L) : ∀ p ∈ L, P p.1 := fun p hp => h.2 p.1 (List.mem_map.mpr ⟨p, hp, rfl⟩)
theorem cnt_kp {b : Int} {P : Fr → Prop} (c : Cl b P) {x : Fr} (hx : P x) : ∀ n, Kp P (cnt b x n)
  | 0 => ⟨by simp [cnt], fun k hk => by simp [cnt] at hk; rw [hk]; exact hx⟩
  | n + 1 => Kp.step c _ _ (cnt_kp c hx n).mem Kp.nil
theorem Kp.len {b : Int} {P : Fr → Prop} (c : Cl b P) {L : List (Fr × Int)} (h : Kp P L) : (dk L).length < line := by
  have := c.fin _ h.1 h.2
  rw [List.length_map] at this
  rw [dk, List.length_map]; exact this
theorem getI_mem {P : Fr → Prop} {L : List (Fr × Int)} (h : Kp P L) {p : Fr × Int} (hp : p ∈ L) : getI L p.1 = some p.2 := by
  have nd := h.1
  clear h
  induction L with
  | nil => simp at hp
  | cons q r ih =>
    obtain ⟨k', v'⟩ := q
    rw [List.map_cons, List.nodup_cons] at nd
    rw [getI]
    rcases List.mem_cons.mp hp with rfl | hp
    · rw [if_pos rfl]
    · rw [if_neg (fun z => nd.1 (List.mem_map.mpr ⟨p, hp, z.symm⟩))]
      exact ih hp nd.2
end Y

set_option linter.all false
set_option maxRecDepth 100000
set_option maxHeartbeats 1000000
/-! The run of count_of. -/
namespace Y
open PySem (Str)

def m_count_of : List S := [
  .asg (.tp [.nm 3, .nm 4]) (.tup [.dict1 (.v 1) (.c (.int 1)), .dict0]),
  .for_ (.nm 5) (.rng (.v 2)) [
    .asg (.nm 6) (.dict0),
    .for_ (.nm 7) (.var 3) [
      .iff (.tr (.cmp .nin (.v 7) (.v 4))) [
        .sto (.v 4) (.v 7) (.call "going_on" [.v 0, .v 7])] [],
      .for_ (.tp [.nm 8, .nm 9]) (.val (.idx (.v 4) (.v 7))) [
        .sto (.v 6) (.v 9) (.bin .add (.mt (.v 6) .get [.v 9, .c (.int 0)]) (.idx (.v 3) (.v 7)))]],
    .asg (.nm 3) (.v 6)],
  .ret (.vls true 3)]
/-- the steps that are kept -/
def sk (S : List (Fr × Nat)) : List (D × D) := S.map fun p => (fr p.1, .ref p.2)
theorem look_sk (k : Fr) : ∀ S : List (Fr × Nat), (∃ m, (k, m) ∈ S ∧ look (sk S) (fr k) = some (.ref m)) ∨ (k ∉ S.map (·.1) ∧ look (sk S) (fr k) = none)
  | [] => .inr ⟨by simp, rfl⟩
  | (k', m') :: r => by
    rw [sk, List.map_cons, look]
    by_cases e : k' = k
    · exact .inl ⟨m', by rw [e]; exact List.mem_cons_self .., by rw [if_pos (by rw [e])]⟩
    · rw [if_neg (fun z => e (fr_inj z))]
      rcases look_sk k r with ⟨m, h1, h2⟩ | ⟨h1, h2⟩
      · exact .inl ⟨m, List.mem_cons_of_mem _ h1, h2⟩
      · exact .inr ⟨by rw [List.map_cons, List.mem_cons, not_or]; exact ⟨fun z => e z.symm, h1⟩, h2⟩
theorem put_sk (k : Fr) (m : Nat) : ∀ S : List (Fr × Nat), k ∉ S.map (·.1) → put (sk S) (fr k) (.ref m) = sk (S ++ [(k, m)])
  | [], _ => rfl
  | (k', m') :: r, h => by
    rw [List.map_cons, List.mem_cons, not_or] at h
    rw [sk, List.map_cons, put, if_neg (fun z => h.1 (fr_inj z).symm)]
    have := put_sk k m r h.2
    unfold sk at this ⊢
    rw [this]; rfl
theorem sk_tup (S : List (Fr × Nat)) : ∀ p ∈ sk S, p.1.isTup = true := fun p hp => by
  unfold sk at hp
  rw [List.mem_map] at hp
  obtain ⟨q, _, rfl⟩ := hp
  rfl
/-- within a walk over counts: counts C at pc, steps at sp, later L at m -/
structure St (b : Int) (P : Fr → Prop) (h : Hp) (pc sp m : Nat) (C L : List (Fr × Int)) (hh : Hp) : Prop where
  ext : ∃ x, hh = h ++ x
  pcn : h.length ≤ pc
  spn : h.length ≤ sp
  mn : h.length ≤ m
  ne : m ≠ sp
  c : hh[pc]? = some (.ldict (dk C))
  l : hh[m]? = some (.dict (dk L))
  s : ∃ S : List (Fr × Nat), hh[sp]? = some (.dict (sk S)) ∧ (S.map (·.1)).Nodup ∧ (∀ p ∈ S, P p.1 ∧ hh[p.2]? = some (.lst ((goes b p.1).map goD)))
  lk : Kp P L
theorem ext_set {h hh : Hp} {i : Nat} {o : Ob} (e : ∃ x, hh = h ++ x) (hi : h.length ≤ i) : ∃ x, hh.set i o = h ++ x := by
  obtain ⟨x, rfl⟩ := e
  exact ⟨x.set (i - h.length) o, List.set_append_right _ _ hi⟩
section
variable {T : Tbl} {G : String → Option D} {k : Nat} {h : Hp} {b : Int} {P : Fr → Prop} {pc sp m : Nat} {C : List (Fr × Int)}
theorem St.add {L : List (Fr × Int)} {hh : Hp} (st : St b P h pc sp m C L hh) {q : Fr} (hq : P q) (v : Int) : St b P h pc sp m C (addTo L q v) (hh.set m (.dict (dk (addTo L q v)))) := by
  have lm : m < hh.length := (List.getElem?_eq_some_iff.mp st.l).1
  have n1 : m ≠ pc := fun z => by have := st.l; rw [z, st.c] at this; cases this
  obtain ⟨S, s1, s2, s3⟩ := st.s
  refine ⟨ext_set st.ext st.mn, st.pcn, st.spn, st.mn, st.ne, by rw [List.getElem?_set_ne n1]; exact st.c, List.getElem?_set_self lm, ⟨S, by rw [List.getElem?_set_ne st.ne]; exact s1, s2, fun p hp => ⟨(s3 p hp).1, ?_⟩⟩, st.lk.add hq v⟩
  have n2 : m ≠ p.2 := fun z => by have := (s3 p hp).2; rw [← z, st.l] at this; cases this
  rw [List.getElem?_set_ne n2]; exact (s3 p hp).2
abbrev env (b : Int) (x : Fr) (n : Int) (pc sp : Nat) (r : Env) : Env := some (.int b) :: some (fr x) :: some (.int n) :: some (.ref pc) :: some (.ref sp) :: r
/-- the innermost turns -/
theorem inner (c : Cl b P) {Z : Sg} {x : Fr} {n : Int} {r : Fr} {v : Int} {tu : Option D} (hv : getI C r = some v) {a : Nat} {gs : List (Int × Fr)} (ha0 : gs = goes b r) (hP : P r) {L0 : List (Fr × Int)} {hh : Hp} {y z : Option D} (st : St b P h pc sp m C L0 hh) (hs : hh[a]? = some (.lst (gs.map goD))) :
    ∃ y' z' hh', forL (.tp [.nm 8, .nm 9]) [(a, .lst (gs.map goD))] (fun ρ h => evSs Z [.sto (.v 6) (.v 9) (.bin .add (.mt (.v 6) .get [.v 9, .c (.int 0)]) (.idx (.v 3) (.v 7)))] ρ h) (gs.map goD) (env b x n pc sp [tu, some (.ref m), some (fr r), y, z]) hh
      = .nx (env b x n pc sp [tu, some (.ref m), some (fr r), y', z']) hh' ∧ St b P h pc sp m C (addAll v L0 gs) hh' := by
  generalize hB : (fun ρ h => evSs Z [.sto (.v 6) (.v 9) (.bin .add (.mt (.v 6) .get [.v 9, .c (.int 0)]) (.idx (.v 3) (.v 7)))] ρ h) = B
  obtain ⟨ρ', h', e, i⟩ := forL_run (t := .tp [.nm 8, .nm 9]) (g := [(a, .lst (gs.map goD))]) (body := B) (fun ds ρ hh => ∃ (done todo : List (Int × Fr)) (y z : Option D), ds = todo.map goD ∧ gs = done ++ todo ∧ ρ = env b x n pc sp [tu, some (.ref m), some (fr r), y, z] ∧ hh[a]? = some (.lst (gs.map goD)) ∧ St b P h pc sp m C (addAll v L0 done) hh)
    (fun ds ρ hh i => by obtain ⟨_, _, _, _, _, _, _, i, _⟩ := i; simp [okG, i]) (fun d ds ρ hh i => by
      obtain ⟨done, todo, y, z, e1, e2, rfl, ha, st⟩ := i
      cases todo with
      | nil => cases e1
      | cons g0 todo =>
        rw [List.map_cons] at e1
        cases e1
        have hg : P g0.2 := c.cl r hP g0 (by rw [← ha0, e2]; simp)
        have lm : m < hh.length := (List.getElem?_eq_some_iff.mp st.l).1
        have n2 : m ≠ a := fun z => by have := st.l; rw [z, ha] at this; cases this
        have kf := keyFor_dk g0.2 (dk (addAll v L0 done)) (dk_tup _)
        have kfc := keyFor_dk r (dk C) (dk_tup _)
        have lz : (dk (addAll v L0 done)).length < line := st.lk.len c
        refine ⟨_, env b x n pc sp [tu, some (.ref m), some (fr r), some (.int g0.1), some (fr g0.2)], hh.set m (.dict (dk (addTo (addAll v L0 done) g0.2 v))), rfl, ?_, done ++ [g0], todo, _, _, rfl, by rw [e2]; simp, rfl, by rw [List.getElem?_set_ne n2]; exact ha, ?_⟩
        · rw [← hB]
          have ix : index (.ref pc) (fr r) hh = .ok (.int v) hh := by simp [index, st.c, kfc, look_dk, hv]
          have gt : method .dct (.ref m) .get [fr g0.2, .int 0] hh = .ok (.int ((getI (addAll v L0 done) g0.2).getD 0)) hh := by
            simp only [method, st.l, dctM, kf, if_true, look_dk]
            cases getI (addAll v L0 done) g0.2 <;> rfl
          have so : store (.ref m) (fr g0.2) (.int ((getI (addAll v L0 done) g0.2).getD 0 + v)) hh = some (hh.set m (.dict (dk (addTo (addAll v L0 done) g0.2 v)))) := by
            simp only [store, st.l, kf, lz, decide_true, Bool.and_true, if_true, put_dk]
          have kd : kindOf (.ref m) hh = some .dct := by simp [kindOf, st.l]
          simp only [env, List.set]
          rw [s_cons]
          simp [kd, has, gt, ix, so]
        · have := st.add hg v
          unfold addAll at this ⊢
          rw [List.foldl_append]
          exact this) (gs.map goD) (env b x n pc sp [tu, some (.ref m), some (fr r), y, z]) hh ⟨[], gs, y, z, rfl, rfl, rfl, hs, st⟩
  obtain ⟨done, todo, y', z', e1, e2, rfl, _, st'⟩ := i
  have : todo = [] := by cases todo with
    | nil => rfl
    | cons _ _ => cases e1
  subst this
  rw [List.append_nil] at e2
  subst e2
  exact ⟨y', z', h', e, st'⟩
end
end Y

set_option linter.all false
set_option maxRecDepth 100000
set_option maxHeartbeats 1000000
/-! The run of count_of, whole. -/
namespace Y
open PySem (Str)
section
variable {T : Tbl} {G : String → Option D} {k : Nat} {h : Hp} {b : Int} {P : Fr → Prop} {pc sp m : Nat} {C : List (Fr × Int)}
abbrev ask : S := .iff (.tr (.cmp .nin (.v 7) (.v 4))) [
        .sto (.v 4) (.v 7) (.call "going_on" [.v 0, .v 7])] []
theorem asked (c : Cl b P) (F : GT T G) (b0 : 2 ≤ b) (b1 : b ≤ 5) {x : Fr} {n : Int} {r : Fr} {tu y z : Option D} (hP : P r) {L : List (Fr × Int)} {hh : Hp} (st : St b P h pc sp m C L hh) :
    ∃ a hh', evS ⟨callN T G whlC (k + 4), whlC, G⟩ ask (env b x n pc sp [tu, some (.ref m), some (fr r), y, z]) hh = .nx (env b x n pc sp [tu, some (.ref m), some (fr r), y, z]) hh' ∧ St b P h pc sp m C L hh' ∧ index (.ref sp) (fr r) hh' = .ok (.ref a) hh' ∧ hh'[a]? = some (.lst ((goes b r).map goD)) := by
  obtain ⟨S, s1, s2, s3⟩ := st.s
  have kf := keyFor_dk r (sk S) (sk_tup S)
  have lsp : sp < hh.length := (List.getElem?_eq_some_iff.mp s1).1
  rcases look_sk r S with ⟨a, h1, h2⟩ | ⟨h1, h2⟩
  · refine ⟨a, hh, ?_, st, by simp [index, s1, kf, h2], (s3 _ h1).2⟩
    have cm : compareR .nin (fr r) (.ref sp) hh = .ok (.bl false) hh := by simp [compareR, compare, in?, s1, kf, h2]
    simp [ask, env, cm]
  · obtain ⟨sm1, sm2, sm3⟩ := c.sm r hP
    have go := s_going_on (k := k) (h := hh) F sm1 ⟨sm2, sm3⟩ b0 b1
    have cm : compareR .nin (fr r) (.ref sp) hh = .ok (.bl true) hh := by simp [compareR, compare, in?, s1, kf, h2]
    have ls : (sk S).length < line := by
      have := c.fin (S.map (·.1)) s2 (fun q hq => by
        rw [List.mem_map] at hq
        obtain ⟨p, hp, rfl⟩ := hq
        exact (s3 p hp).1)
      rw [List.length_map] at this
      rw [sk, List.length_map]; exact this
    have e1 : (hh ++ [Ob.lst ((goes b r).map goD)])[sp]? = some (.dict (sk S)) := by rw [List.getElem?_append_left lsp]; exact s1
    have so : store (.ref sp) (fr r) (.ref hh.length) (hh ++ [Ob.lst ((goes b r).map goD)]) = some ((hh ++ [Ob.lst ((goes b r).map goD)]).set sp (.dict (sk (S ++ [(r, hh.length)])))) := by
      simp only [store, e1, kf, ls, decide_true, Bool.and_true, if_true]
      rw [put_sk _ _ _ h1]
    have old : ∀ i, i < hh.length → i ≠ sp → ((hh ++ [Ob.lst ((goes b r).map goD)]).set sp (.dict (sk (S ++ [(r, hh.length)]))))[i]? = hh[i]? := fun i hi ne => by
      rw [List.getElem?_set_ne (Ne.symm ne), List.getElem?_append_left hi]
    have at_ : ((hh ++ [Ob.lst ((goes b r).map goD)]).set sp (.dict (sk (S ++ [(r, hh.length)]))))[sp]? = some (.dict (sk (S ++ [(r, hh.length)]))) := List.getElem?_set_self (by simp; omega)
    have nw : ((hh ++ [Ob.lst ((goes b r).map goD)]).set sp (.dict (sk (S ++ [(r, hh.length)]))))[hh.length]? = some (.lst ((goes b r).map goD)) := by
      rw [List.getElem?_set_ne (by omega), List.getElem?_concat_length]
    have lpc : pc < hh.length := (List.getElem?_eq_some_iff.mp st.c).1
    have lm : m < hh.length := (List.getElem?_eq_some_iff.mp st.l).1
    have npc : pc ≠ sp := fun z => by have := st.c; rw [z, s1] at this; cases this
    refine ⟨hh.length, _, ?_, ⟨?_, st.pcn, st.spn, st.mn, st.ne, (old pc lpc npc).trans st.c, (old m lm st.ne).trans st.l, ⟨S ++ [(r, hh.length)], at_, ?_, ?_⟩, st.lk⟩, ?_, nw⟩
    · simp [ask, env, cm, s_cons, go, so]
    · refine ext_set ?_ st.spn
      obtain ⟨x, hx⟩ := st.ext
      exact ⟨x ++ [Ob.lst ((goes b r).map goD)], by rw [hx, List.append_assoc]⟩
    · rw [List.map_append, List.nodup_append]
      exact ⟨s2, by simp, fun a ha b hb => by simp at hb; subst hb; intro z; exact h1 (z ▸ ha)⟩
    · intro p hp
      rcases List.mem_append.mp hp with hp | hp
      · have l2 := (List.getElem?_eq_some_iff.mp (s3 p hp).2).1
        have n2 : p.2 ≠ sp := fun z => by have := (s3 p hp).2; rw [z, s1] at this; cases this
        exact ⟨(s3 p hp).1, (old p.2 l2 n2).trans (s3 p hp).2⟩
      · rw [List.mem_singleton.mp hp]
        exact ⟨hP, nw⟩
    · have kf2 := keyFor_dk r (sk (S ++ [(r, hh.length)])) (sk_tup _)
      have lk2 : look (sk (S ++ [(r, hh.length)])) (fr r) = some (.ref hh.length) := by
        rcases look_sk r (S ++ [(r, hh.length)]) with ⟨a, q1, q2⟩ | ⟨q1, _⟩
        · rcases List.mem_append.mp q1 with q1 | q1
          · exact absurd (List.mem_map.mpr ⟨_, q1, rfl⟩) h1
          · have := List.mem_singleton.mp q1
            cases this
            exact q2
        · exact absurd (by simp) q1
      simp [index, at_, kf2, lk2]
abbrev rests : List S := [ask,
      .for_ (.tp [.nm 8, .nm 9]) (.val (.idx (.v 4) (.v 7))) [
        .sto (.v 6) (.v 9) (.bin .add (.mt (.v 6) .get [.v 9, .c (.int 0)]) (.idx (.v 3) (.v 7)))]]
/-- the turns over counts -/
theorem middle (c : Cl b P) (F : GT T G) (b0 : 2 ≤ b) (b1 : b ≤ 5) {x : Fr} {n : Int} {tu y7 y8 y9 : Option D} (hC : Kp P C) {hh : Hp} (st : St b P h pc sp m C [] hh) :
    ∃ z7 z8 z9 hh', forL (.nm 7) [] (fun ρ h => evSs ⟨callN T G whlC (k + 4), whlC, G⟩ rests ρ h) (C.map fun p => fr p.1) (env b x n pc sp [tu, some (.ref m), y7, y8, y9]) hh = .nx (env b x n pc sp [tu, some (.ref m), z7, z8, z9]) hh' ∧ St b P h pc sp m C (stepC b C) hh' := by
  generalize hB : (fun ρ h => evSs (⟨callN T G whlC (k + 4), whlC, G⟩ : Sg) rests ρ h) = B
  obtain ⟨ρ', h', e, i⟩ := forL_run (t := .nm 7) (g := []) (body := B) (fun ds ρ hh => ∃ (done todo : List (Fr × Int)) (y7 y8 y9 : Option D), ds = todo.map (fun p => fr p.1) ∧ C = done ++ todo ∧ ρ = env b x n pc sp [tu, some (.ref m), y7, y8, y9] ∧ St b P h pc sp m C (done.foldl (fun L p => addAll p.2 L (goes b p.1)) []) hh)
    (fun ds ρ hh i => rfl) (fun d ds ρ hh i => by
      obtain ⟨done, todo, y7, y8, y9, e1, e2, rfl, st⟩ := i
      cases todo with
      | nil => cases e1
      | cons p0 todo =>
        rw [List.map_cons] at e1
        cases e1
        have hp : p0 ∈ C := by rw [e2]; simp
        have hP := hC.mem p0 hp
        obtain ⟨a, hh1, q1, q2, q3, q4⟩ := asked (k := k) (T := T) (G := G) (x := x) (n := n) (tu := tu) (y := y8) (z := y9) c F b0 b1 hP st
        obtain ⟨y', z', hh2, r1, r2⟩ := inner (Z := ⟨callN T G whlC (k + 4), whlC, G⟩) (x := x) (n := n) (tu := tu) (y := y8) (z := y9) c (getI_mem hC hp) rfl hP q2 q4
        refine ⟨_, env b x n pc sp [tu, some (.ref m), some (fr p0.1), y', z'], hh2, rfl, ?_, done ++ [p0], todo, _, _, _, rfl, by rw [e2]; simp, rfl, by rw [List.foldl_append]; exact r2⟩
        rw [← hB]
        simp only [rests, env, List.set]
        simp only [env] at q1 r1
        rw [s_cons, q1]
        simp only [RS.seq_nx]
        rw [s_cons, for_src (s := ⟨(goes b p0.1).map goD, [(a, .lst ((goes b p0.1).map goD))], none⟩) (h' := hh1) (by simp [q3, seqOf, q4]) rfl, r1]
        simp) (C.map fun p => fr p.1) (env b x n pc sp [tu, some (.ref m), y7, y8, y9]) hh ⟨[], C, y7, y8, y9, rfl, rfl, rfl, st⟩
  obtain ⟨done, todo, z7, z8, z9, e1, e2, rfl, st'⟩ := i
  have : todo = [] := by cases todo with
    | nil => rfl
    | cons _ _ => cases e1
  subst this
  rw [List.append_nil] at e2
  subst e2
  exact ⟨z7, z8, z9, h', e, st'⟩
end
end Y

set_option linter.all false
set_option maxRecDepth 100000
set_option maxHeartbeats 1000000
/-! count_of tells the sum of the counts. -/
namespace Y
open PySem (Str)
section
variable {T : Tbl} {G : String → Option D} {k : Nat} {h : Hp} {b : Int} {P : Fr → Prop} {pc sp m : Nat} {C : List (Fr × Int)}
structure Tn (b : Int) (P : Fr → Prop) (h : Hp) (pc sp : Nat) (C : List (Fr × Int)) (hh : Hp) : Prop where
  ext : ∃ x, hh = h ++ x
  pcn : h.length ≤ pc
  spn : h.length ≤ sp
  c : hh[pc]? = some (.dict (dk C))
  ne : pc ≠ sp
  s : ∃ S : List (Fr × Nat), hh[sp]? = some (.dict (sk S)) ∧ (S.map (·.1)).Nodup ∧ (∀ p ∈ S, P p.1 ∧ hh[p.2]? = some (.lst ((goes b p.1).map goD)))
theorem Tn.begin {hh : Hp} (t : Tn b P h pc sp C hh) : St b P h pc sp hh.length C [] ((hh ++ [Ob.dict []]).set pc (.ldict (dk C))) := by
  obtain ⟨S, s1, s2, s3⟩ := t.s
  have lp : pc < hh.length := (List.getElem?_eq_some_iff.mp t.c).1
  have ls : sp < hh.length := (List.getElem?_eq_some_iff.mp s1).1
  obtain ⟨x, hx⟩ := t.ext
  have old : ∀ i, i < hh.length → i ≠ pc → ((hh ++ [Ob.dict []]).set pc (.ldict (dk C)))[i]? = hh[i]? := fun i hi n => by
    rw [List.getElem?_set_ne (Ne.symm n), List.getElem?_append_left hi]
  refine ⟨ext_set ⟨x ++ [Ob.dict []], by rw [hx, List.append_assoc]⟩ t.pcn, t.pcn, t.spn, by have := t.pcn; omega, by omega, List.getElem?_set_self (by simp; omega), ?_, ⟨S, (old sp ls t.ne.symm).trans s1, s2, fun p hp => ⟨(s3 p hp).1, ?_⟩⟩, Kp.nil⟩
  · rw [List.getElem?_set_ne (by omega), List.getElem?_concat_length]; rfl
  · have n : p.2 ≠ pc := fun z => by have := (s3 p hp).2; rw [z, t.c] at this; cases this
    exact (old _ (List.getElem?_eq_some_iff.mp (s3 p hp).2).1 n).trans (s3 p hp).2
theorem St.finish {L : List (Fr × Int)} {hh : Hp} (st : St b P h pc sp m C L hh) : Tn b P h m sp L (hh.set pc (.dict (dk C))) := by
  obtain ⟨S, s1, s2, s3⟩ := st.s
  have n1 : pc ≠ m := fun z => by have := st.c; rw [z, st.l] at this; cases this
  have n2 : pc ≠ sp := fun z => by have := st.c; rw [z, s1] at this; cases this
  refine ⟨ext_set st.ext st.pcn, st.mn, st.spn, by rw [List.getElem?_set_ne n1]; exact st.l, st.ne, ⟨S, by rw [List.getElem?_set_ne n2]; exact s1, s2, fun p hp => ⟨(s3 p hp).1, ?_⟩⟩⟩
  have n3 : pc ≠ p.2 := fun z => by have := (s3 p hp).2; rw [← z, st.c] at this; cases this
  rw [List.getElem?_set_ne n3]; exact (s3 p hp).2
theorem irange_cons {lo : Int} {n : Nat} {d : D} {ds : List D} (e : d :: ds = irange lo n) : ∃ n', n = n' + 1 ∧ d = .int lo ∧ ds = irange (lo + 1) n' := by
  cases n with
  | zero => cases e
  | succ n => rw [irange] at e; cases e; exact ⟨n, rfl, rfl, rfl⟩
abbrev turns : List S := [
    .asg (.nm 6) (.dict0),
    .for_ (.nm 7) (.var 3) rests,
    .asg (.nm 3) (.v 6)]
theorem intsOf_dk : ∀ C : List (Fr × Int), intsOf ((dk C).map (·.2)) = some (C.map (·.2))
  | [] => rfl
  | p :: r => by
    have := intsOf_dk r
    simp only [dk, List.map_cons, intsOf] at this ⊢
    rw [this]; rfl
/-- what is counted -/
def total (C : List (Fr × Int)) : Int := (C.map (·.2)).sum
theorem s_count_of (c : Cl b P) (F : GT T G) (ht : T "count_of" = some (.fn 3 10 m_count_of)) (b0 : 2 ≤ b) (b1 : b ≤ 5) {x : Fr} (hx : P x) {n : Nat} (hn : n ≤ 1000) :
    callN T G whlC (k + 5) "count_of" [.int b, fr x, .int n] h = .ok (.int (total (cnt b x n))) h := by
  rw [call_fn ht rfl]
  simp only [m_count_of, start, List.map, List.replicate]
  rw [s_cons]
  have ko : keyOk (fr x) = true := rfl
  simp [new, ko]
  rw [s_cons]
  have hr : range1 (.int n) = some ⟨irange 0 n, [], none⟩ := by
    unfold range1
    simp only
    rw [if_pos]
    · simp
    · have : line = 16777216 := rfl
      simp only [Bool.and_eq_true, decide_eq_true_eq]
      omega
  rw [for_src (s := ⟨irange 0 n, [], none⟩) (h' := h ++ [.dict [(fr x, .int 1)], .dict []]) (by simp [hr]) rfl]
  generalize hB : (fun ρ h => evSs (⟨callN T G whlC (k + 4), whlC, G⟩ : Sg) turns ρ h) = B
  obtain ⟨ρ', h', e, i⟩ := forL_run (t := .nm 5) (g := []) (body := B) (fun ds ρ hh => ∃ (i j pc : Nat) (y5 y6 y7 y8 y9 : Option D), ds = irange i j ∧ i + j = n ∧ ρ = env b x n pc (h.length + 1) [y5, y6, y7, y8, y9] ∧ Tn b P h pc (h.length + 1) (cnt b x i) hh)
    (fun ds ρ hh i => rfl) (fun d ds ρ hh i => by
      obtain ⟨i, j, pc, y5, y6, y7, y8, y9, e1, e2, rfl, t⟩ := i
      obtain ⟨j', rfl, rfl, rfl⟩ := irange_cons e1
      have lp : pc < hh.length := (List.getElem?_eq_some_iff.mp t.c).1
      obtain ⟨z7, z8, z9, hh2, q1, q2⟩ := middle (k := k) (T := T) (G := G) (x := x) (n := n) (tu := some (.int i)) (y7 := y7) (y8 := y8) (y9 := y9) c F b0 b1 (cnt_kp c hx i) t.begin
      refine ⟨_, env b x n hh.length (h.length + 1) [some (.int i), some (.ref hh.length), z7, z8, z9], hh2.set pc (.dict (dk (cnt b x i))), rfl, ?_, i + 1, j', hh.length, _, _, _, _, _, by simp, by omega, rfl, q2.finish⟩
      rw [← hB]
      simp only [turns, env, List.set]
      simp only [env] at q1
      rw [s_cons]
      simp [new]
      rw [s_cons, s_for]
      have hv : evI (⟨callN T G whlC (k + 4), whlC, G⟩ : Sg) (.var 3) [some (.int b), some (fr x), some (.int n), some (.ref pc), some (.ref (h.length + 1)), some (.int i), some (.ref hh.length), y7, y8, y9] (hh ++ [Ob.dict []]) = .ok ⟨(dk (cnt b x i)).map (·.1), [], some (pc, .dict (dk (cnt b x i)))⟩ (hh ++ [Ob.dict []]) := by
        have : (hh ++ [Ob.dict []])[pc]? = some (.dict (dk (cnt b x i))) := by rw [List.getElem?_append_left lp]; exact t.c
        rw [evI]
        simp [srcOf, dict?, this]
      rw [hv]
      have km : (dk (cnt b x i)).map (·.1) = (cnt b x i).map fun p => fr p.1 := by rw [dk, List.map_map]; rfl
      simp only [Res.into_ok, locked, lockOb, km, q1, RS.unlock, RS.seq_nx]
      simp [s_cons]) (irange 0 n) [some (.int b), some (fr x), some (.int n), some (.ref h.length), some (.ref (h.length + 1)), none, none, none, none, none] (h ++ [.dict [(fr x, .int 1)], .dict []])
    ⟨0, n, h.length, none, none, none, none, none, rfl, by omega, rfl, ⟨⟨_, rfl⟩, Nat.le_refl _, Nat.le_succ _, by simp [cnt, dk], by omega, ⟨[], by simp [sk], by simp, fun p hp => by simp at hp⟩⟩⟩
  dsimp only
  rw [e]
  obtain ⟨i, j, pc, y5, y6, y7, y8, y9, e1, e2, rfl, t⟩ := i
  have : j = 0 := by cases j with
    | zero => rfl
    | succ j => cases e1
  subst this
  obtain ⟨y, rfl⟩ := t.ext
  have : i = n := by omega
  subst this
  have hv : evE (⟨callN T G whlC (k + 4), whlC, G⟩ : Sg) (.vls true 3) (env b x i pc (h.length + 1) [y5, y6, y7, y8, y9]) (h ++ y) = .ok (.int (total (cnt b x i))) (h ++ y) := by
    rw [evE]
    simp [env, dict?, t.c, intsOf_dk, total]
  simp only [RS.seq_nx]
  rw [s_cons]
  simp only [s_ret, hv, Res.into_ok, RS.seq_rt]
  exact fin_drop
end
end Y

set_option linter.all false
set_option maxRecDepth 100000
set_option maxHeartbeats 1000000
/-! many_beginnings. -/
namespace Y
open PySem (Str)
def m_is_pair : List S := [
  .ret (.and (.isi (.v 0) ["tuple"]) (.cmp .eq (.bi .len [.v 0]) (.c (.int 2))))]
def m_is_base_of : List S := [
  .ret (.call "is_within" [.v 0, .c (.int 2), .c (.int 5)])]
def m_is_fraction_of : List S := [
  .iff (.or (.not (.tr (.call "is_pair" [.v 0]))) (.or (.not (.tr (.call "is_integer" [.idx (.v 0) (.c (.int 0))]))) (.not (.tr (.call "is_integer" [.idx (.v 0) (.c (.int 1))]))))) [
    .ret (.c (.bl false))] [],
  .ret (.and (.cmp .gt (.idx (.v 0) (.c (.int 1))) (.c (.int 0))) (.cmp .eq (.call "divisor" [.bi .abs [.idx (.v 0) (.c (.int 0))], .idx (.v 0) (.c (.int 1))]) (.c (.int 1))))]
def m_is_number_of : List S := [
  .ret (.and (.call "is_fraction_of" [.v 0]) (.cmp .le (.bi .abs [.idx (.v 0) (.c (.int 0))]) (.idx (.v 0) (.c (.int 1)))))]
def m_check_base : List S := [
  .iff (.not (.tr (.call "is_base_of" [.v 0]))) [
    .no] []]
def m_check_number : List S := [
  .iff (.not (.tr (.call "is_number_of" [.v 0]))) [
    .no] []]
def m_check_many : List S := [
  .iff (.not (.tr (.call "is_within" [.v 0, .c (.int 0), .g "MOST_DIGITS"]))) [
    .no] []]
def m_many_beginnings : List S := [
  .ex (.call "check_base" [.v 0]),
  .ex (.call "check_number" [.v 1]),
  .ex (.call "check_many" [.v 2]),
  .ret (.call "count_of" [.v 0, .v 1, .v 2])]
structure MB (T : Tbl) (G : String → Option D) : Prop extends GT T G where
  is_integer : T "is_integer" = some (.fn 1 1 m_is_integer)
  is_within : T "is_within" = some (.fn 3 3 m_is_within)
  is_pair : T "is_pair" = some (.fn 1 1 m_is_pair)
  is_base_of : T "is_base_of" = some (.fn 1 1 m_is_base_of)
  is_fraction_of : T "is_fraction_of" = some (.fn 1 1 m_is_fraction_of)
  is_number_of : T "is_number_of" = some (.fn 1 1 m_is_number_of)
  check_base : T "check_base" = some (.fn 1 1 m_check_base)
  check_number : T "check_number" = some (.fn 1 1 m_check_number)
  check_many : T "check_many" = some (.fn 1 1 m_check_many)
  count_of : T "count_of" = some (.fn 3 10 m_count_of)
  many : T "many_beginnings" = some (.fn 3 3 m_many_beginnings)
  most : G "MOST_DIGITS" = some (.int 1000)
/-- a number from -1 to 1, in lowest terms -/
def Num (x : Fr) : Prop := 0 < x.2 ∧ Nat.gcd x.1.natAbs x.2.natAbs = 1 ∧ (x.1.natAbs : Int) ≤ x.2
section
variable {T : Tbl} {G : String → Option D} {k : Nat} {h : Hp} {b : Int} {P : Fr → Prop} {x : Fr}
theorem s_is_pair (F : MB T G) : callN T G whlC (k + 1) "is_pair" [fr x] h = .ok (.bl true) h := by
  rw [call_fn F.is_pair rfl]
  simp [m_is_pair, s_cons, start, isAny, isA, builtin, lenOf]
theorem s_is_fraction_of (F : MB T G) (hx : Num x) : callN T G whlC (k + 2) "is_fraction_of" [fr x] h = .ok (.bl true) h := by
  obtain ⟨h1, h2, h3⟩ := hx
  rw [call_fn F.is_fraction_of rfl]
  have d := s_divisor (G := G) (k := k) (h := h) (a := x.1.natAbs) (b := x.2.natAbs) F.divisor
  rw [show ((x.2.natAbs : Nat) : Int) = x.2 by omega, h2] at d
  simp [m_is_fraction_of, s_cons, start, s_is_pair (k := k) F, s_is_integer (k := k) F.is_integer, h1, d]
theorem s_is_number_of (F : MB T G) (hx : Num x) : callN T G whlC (k + 3) "is_number_of" [fr x] h = .ok (.bl true) h := by
  have h3 := hx.2.2
  rw [call_fn F.is_number_of rfl]
  simp [m_is_number_of, s_cons, start, s_is_fraction_of (k := k) F hx, h3]
theorem s_many (c : Cl b P) (F : MB T G) (b0 : 2 ≤ b) (b1 : b ≤ 5) (hP : P x) (hx : Num x) {n : Nat} (hn : n ≤ 1000) : callN T G whlC (k + 6) "many_beginnings" [.int b, fr x, .int n] h = .ok (.int (total (cnt b x n))) h := by
  have e1 : callN T G whlC (k + 5) "check_base" [.int b] h = .ok .non h := by
    rw [call_fn F.check_base rfl]
    have e : callN T G whlC (k + 4) "is_base_of" [.int b] h = .ok (.bl true) h := by
      rw [call_fn F.is_base_of rfl]
      simp [m_is_base_of, s_cons, start, s_is_within (k := k + 1) F.is_within F.is_integer, b0, b1]
    simp [m_check_base, s_cons, start, e]
  have e2 : callN T G whlC (k + 5) "check_number" [fr x] h = .ok .non h := by
    rw [call_fn F.check_number rfl]
    simp [m_check_number, s_cons, start, s_is_number_of (k := k + 1) F hx]
  have e3 : callN T G whlC (k + 5) "check_many" [.int n] h = .ok .non h := by
    rw [call_fn F.check_many rfl]
    have : (n : Int) ≤ 1000 := by omega
    simp [m_check_many, s_cons, start, F.most, s_is_within (k := k + 2) F.is_within F.is_integer, this]
  rw [call_fn F.many rfl]
  simp [m_many_beginnings, s_cons, start, e1, e2, e3, s_count_of c F.toGT F.count_of b0 b1 hP hn]
end
end Y

set_option linter.all false
set_option maxRecDepth 100000
set_option maxHeartbeats 1000000
/-! The law's own count. -/
namespace Y
open PySem (Str)
def m__law_count : List S := [
  .asg (.nm 3) (.lst [.tup [.v 1, .c (.int 1)]]),
  .for_ (.nm 4) (.rng (.v 2)) [
    .asg (.nm 5) (.dict0),
    .for_ (.tp [.nm 6, .nm 7]) (.var 3) [
      .for_ (.tp [.nm 8, .nm 9]) (.val (.call "_law_goes" [.v 0, .v 6])) [
        .sto (.v 5) (.v 9) (.bin .add (.mt (.v 5) .get [.v 9, .c (.int 0)]) (.v 7))]],
    .asg (.nm 3) (.lc (.tup [.v 6, .idx (.v 5) (.v 6)]) (.nm 6) (.var 5) [])],
  .ret (.bi .sum [.lc (.v 7) (.tp [.nm 6, .nm 7]) (.var 3) []])]
def tl (C : List (Fr × Int)) : List D := C.map fun p => .tup [fr p.1, .int p.2]
structure Sl (P : Fr → Prop) (h : Hp) (pc m : Nat) (C L : List (Fr × Int)) (hh : Hp) : Prop where
  ext : ∃ x, hh = h ++ x
  pcn : h.length ≤ pc
  mn : h.length ≤ m
  c : hh[pc]? = some (.lst (tl C))
  l : hh[m]? = some (.dict (dk L))
  lk : Kp P L
section
variable {T : Tbl} {G : String → Option D} {k : Nat} {h : Hp} {b : Int} {P : Fr → Prop} {pc m : Nat} {C : List (Fr × Int)}
theorem Sl.add {L : List (Fr × Int)} {hh : Hp} (st : Sl P h pc m C L hh) {q : Fr} (hq : P q) (v : Int) : Sl P h pc m C (addTo L q v) (hh.set m (.dict (dk (addTo L q v)))) := by
  have lm : m < hh.length := (List.getElem?_eq_some_iff.mp st.l).1
  have n1 : m ≠ pc := fun z => by have := st.l; rw [z, st.c] at this; cases this
  exact ⟨ext_set st.ext st.mn, st.pcn, st.mn, by rw [List.getElem?_set_ne n1]; exact st.c, List.getElem?_set_self lm, st.lk.add hq v⟩
theorem Sl.app {L : List (Fr × Int)} {hh : Hp} (st : Sl P h pc m C L hh) (o : Ob) : Sl P h pc m C L (hh ++ [o]) := by
  have lm : m < hh.length := (List.getElem?_eq_some_iff.mp st.l).1
  have lp : pc < hh.length := (List.getElem?_eq_some_iff.mp st.c).1
  obtain ⟨x, hx⟩ := st.ext
  exact ⟨⟨x ++ [o], by rw [hx, List.append_assoc]⟩, st.pcn, st.mn, by rw [List.getElem?_append_left lp]; exact st.c, by rw [List.getElem?_append_left lm]; exact st.l, st.lk⟩
abbrev lenv (b : Int) (x : Fr) (n : Int) (pc : Nat) (r : Env) : Env := some (.int b) :: some (fr x) :: some (.int n) :: some (.ref pc) :: r
theorem linner (c : Cl b P) {Z : Sg} {x : Fr} {n : Int} {r : Fr} {v : Int} {tu : Option D} {a : Nat} {gs : List (Int × Fr)} (ha0 : gs = goes b r) (hP : P r) {L0 : List (Fr × Int)} {hh : Hp} {y z : Option D} (st : Sl P h pc m C L0 hh) (hs : hh[a]? = some (.lst (gs.map goD))) :
    ∃ y' z' hh', forL (.tp [.nm 8, .nm 9]) [(a, .lst (gs.map goD))] (fun ρ h => evSs Z [.sto (.v 5) (.v 9) (.bin .add (.mt (.v 5) .get [.v 9, .c (.int 0)]) (.v 7))] ρ h) (gs.map goD) (lenv b x n pc [tu, some (.ref m), some (fr r), some (.int v), y, z]) hh
      = .nx (lenv b x n pc [tu, some (.ref m), some (fr r), some (.int v), y', z']) hh' ∧ Sl P h pc m C (addAll v L0 gs) hh' := by
  generalize hB : (fun ρ h => evSs Z [.sto (.v 5) (.v 9) (.bin .add (.mt (.v 5) .get [.v 9, .c (.int 0)]) (.v 7))] ρ h) = B
  obtain ⟨ρ', h', e, i⟩ := forL_run (t := .tp [.nm 8, .nm 9]) (g := [(a, .lst (gs.map goD))]) (body := B) (fun ds ρ hh => ∃ (done todo : List (Int × Fr)) (y z : Option D), ds = todo.map goD ∧ gs = done ++ todo ∧ ρ = lenv b x n pc [tu, some (.ref m), some (fr r), some (.int v), y, z] ∧ hh[a]? = some (.lst (gs.map goD)) ∧ Sl P h pc m C (addAll v L0 done) hh)
    (fun ds ρ hh i => by obtain ⟨_, _, _, _, _, _, _, i, _⟩ := i; simp [okG, i]) (fun d ds ρ hh i => by
      obtain ⟨done, todo, y, z, e1, e2, rfl, ha, st⟩ := i
      cases todo with
      | nil => cases e1
      | cons g0 todo =>
        rw [List.map_cons] at e1
        cases e1
        have hg : P g0.2 := c.cl r hP g0 (by rw [← ha0, e2]; simp)
        have n2 : m ≠ a := fun z => by have := st.l; rw [z, ha] at this; cases this
        have kf := keyFor_dk g0.2 (dk (addAll v L0 done)) (dk_tup _)
        have lz : (dk (addAll v L0 done)).length < line := st.lk.len c
        refine ⟨_, lenv b x n pc [tu, some (.ref m), some (fr r), some (.int v), some (.int g0.1), some (fr g0.2)], hh.set m (.dict (dk (addTo (addAll v L0 done) g0.2 v))), rfl, ?_, done ++ [g0], todo, _, _, rfl, by rw [e2]; simp, rfl, by rw [List.getElem?_set_ne n2]; exact ha, ?_⟩
        · rw [← hB]
          have gt : method .dct (.ref m) .get [fr g0.2, .int 0] hh = .ok (.int ((getI (addAll v L0 done) g0.2).getD 0)) hh := by
            simp only [method, st.l, dctM, kf, if_true, look_dk]
            cases getI (addAll v L0 done) g0.2 <;> rfl
          have so : store (.ref m) (fr g0.2) (.int ((getI (addAll v L0 done) g0.2).getD 0 + v)) hh = some (hh.set m (.dict (dk (addTo (addAll v L0 done) g0.2 v)))) := by
            simp only [store, st.l, kf, lz, decide_true, Bool.and_true, if_true, put_dk]
          have kd : kindOf (.ref m) hh = some .dct := by simp [kindOf, st.l]
          simp only [lenv, List.set]
          rw [s_cons]
          simp [kd, has, gt, so]
        · have := st.add hg v
          unfold addAll at this ⊢
          rw [List.foldl_append]
          exact this) (gs.map goD) (lenv b x n pc [tu, some (.ref m), some (fr r), some (.int v), y, z]) hh ⟨[], gs, y, z, rfl, rfl, rfl, hs, st⟩
  obtain ⟨done, todo, y', z', e1, e2, rfl, _, st'⟩ := i
  have : todo = [] := by cases todo with
    | nil => rfl
    | cons _ _ => cases e1
  subst this
  rw [List.append_nil] at e2
  subst e2
  exact ⟨y', z', h', e, st'⟩
abbrev lrests : List S := [
      .for_ (.tp [.nm 8, .nm 9]) (.val (.call "_law_goes" [.v 0, .v 6])) [
        .sto (.v 5) (.v 9) (.bin .add (.mt (.v 5) .get [.v 9, .c (.int 0)]) (.v 7))]]
theorem lmiddle (c : Cl b P) (F : LT T) (b0 : 2 ≤ b) (b1 : b ≤ 5) {x : Fr} {n : Int} {tu y6 y7 y8 y9 : Option D} (hC : Kp P C) {hh : Hp} (st : Sl P h pc m C [] hh) :
    ∃ z6 z7 z8 z9 hh', forL (.tp [.nm 6, .nm 7]) [(pc, .lst (tl C))] (fun ρ h => evSs ⟨callN T G whlC (k + 3), whlC, G⟩ lrests ρ h) (tl C) (lenv b x n pc [tu, some (.ref m), y6, y7, y8, y9]) hh = .nx (lenv b x n pc [tu, some (.ref m), z6, z7, z8, z9]) hh' ∧ Sl P h pc m C (stepC b C) hh' := by
  generalize hB : (fun ρ h => evSs (⟨callN T G whlC (k + 3), whlC, G⟩ : Sg) lrests ρ h) = B
  obtain ⟨ρ', h', e, i⟩ := forL_run (t := .tp [.nm 6, .nm 7]) (g := [(pc, .lst (tl C))]) (body := B) (fun ds ρ hh => ∃ (done todo : List (Fr × Int)) (y6 y7 y8 y9 : Option D), ds = tl todo ∧ C = done ++ todo ∧ ρ = lenv b x n pc [tu, some (.ref m), y6, y7, y8, y9] ∧ Sl P h pc m C (done.foldl (fun L p => addAll p.2 L (goes b p.1)) []) hh)
    (fun ds ρ hh i => by obtain ⟨_, _, _, _, _, _, _, _, _, i⟩ := i; simp [okG, i.c]) (fun d ds ρ hh i => by
      obtain ⟨done, todo, y6, y7, y8, y9, e1, e2, rfl, st⟩ := i
      cases todo with
      | nil => cases e1
      | cons p0 todo =>
        unfold tl at e1
        rw [List.map_cons] at e1
        cases e1
        have hp : p0 ∈ C := by rw [e2]; simp
        have hP := hC.mem p0 hp
        obtain ⟨sm1, sm2, sm3⟩ := c.sm p0.1 hP
        have go := s_lgoes (G := G) (k := k) (h := hh) F sm1 ⟨sm2, sm3⟩ b0 b1
        have nw : (hh ++ [Ob.lst ((goes b p0.1).map goD)])[hh.length]? = some (.lst ((goes b p0.1).map goD)) := List.getElem?_concat_length
        obtain ⟨y', z', hh2, r1, r2⟩ := linner (Z := ⟨callN T G whlC (k + 3), whlC, G⟩) (x := x) (n := n) (v := p0.2) (tu := tu) (y := y8) (z := y9) c rfl hP (st.app _) nw
        refine ⟨_, lenv b x n pc [tu, some (.ref m), some (fr p0.1), some (.int p0.2), y', z'], hh2, rfl, ?_, done ++ [p0], todo, _, _, _, _, rfl, by rw [e2]; simp, rfl, by rw [List.foldl_append]; exact r2⟩
        rw [← hB]
        simp only [lrests, lenv, List.set]
        simp only [lenv] at r1
        rw [s_cons, for_src (s := ⟨(goes b p0.1).map goD, [(hh.length, .lst ((goes b p0.1).map goD))], none⟩) (h' := hh ++ [.lst ((goes b p0.1).map goD)]) (by simp [go, seqOf]) rfl, r1]
        simp) (tl C) (lenv b x n pc [tu, some (.ref m), y6, y7, y8, y9]) hh ⟨[], C, y6, y7, y8, y9, rfl, rfl, rfl, st⟩
  obtain ⟨done, todo, z6, z7, z8, z9, e1, e2, rfl, st'⟩ := i
  have : todo = [] := by cases todo with
    | nil => rfl
    | cons _ _ => cases e1
  subst this
  rw [List.append_nil] at e2
  subst e2
  exact ⟨z6, z7, z8, z9, h', e, st'⟩
/-- the counts as a list again -/
theorem relist (c : Cl b P) {Z : Sg} {x : Fr} {n : Int} {L : List (Fr × Int)} (hL : Kp P L) {hh : Hp} {tu y6 y7 y8 y9 : Option D} (hm : hh[m]? = some (.dict (dk L))) :
    evE Z (.lc (.tup [.v 6, .idx (.v 5) (.v 6)]) (.nm 6) (.var 5) []) (lenv b x n pc [tu, some (.ref m), y6, y7, y8, y9]) hh = .ok (.ref hh.length) (hh ++ [.lst (tl L)]) := by
  have lm : m < hh.length := (List.getElem?_eq_some_iff.mp hm).1
  have hv : evI Z (.var 5) (lenv b x n pc [tu, some (.ref m), y6, y7, y8, y9]) hh = .ok ⟨(dk L).map (·.1), [], some (m, .dict (dk L))⟩ hh := by
    rw [evI]
    simp [lenv, srcOf, dict?, hm]
  rw [r_lc, hv]
  have len : (dk L).length < line := hL.len c
  have em : (hh.set m (.ldict (dk L)))[m]? = some (.ldict (dk L)) := List.getElem?_set_self lm
  simp only [Res.bind_ok, List.length_map]
  rw [if_neg (by omega)]
  have km : (dk L).map (·.1) = L.map fun p => fr p.1 := by rw [dk, List.map_map]; rfl
  have each := lcL_pure (t := .nm 6) (g := []) (test := fun ρ h => evCs Z [] ρ h) (elt := fun ρ h => evE Z (.tup [.v 6, .idx (.v 5) (.v 6)]) ρ h) (ρ := forget (lenv b x n pc [tu, some (.ref m), y6, y7, y8, y9]) (Y.T.slots (.nm 6))) (h := hh.set m (.ldict (dk L))) rfl (fun _ => true) (fun d => .tup [d, (look (dk L) d).getD .non]) (L.map fun p => fr p.1) (fun d hd => by
    rw [List.mem_map] at hd
    obtain ⟨p, hp, rfl⟩ := hd
    have kf := keyFor_dk p.1 (dk L) (dk_tup _)
    have lk : look (dk L) (fr p.1) = some (.int p.2) := by rw [look_dk, getI_mem hL hp]; rfl
    refine ⟨_, rfl, by simp, fun _ => ?_⟩
    simp [lenv, index, em, kf, lk])
  rw [filter_all, List.map_map] at each
  have e2 : L.map ((fun d => D.tup [d, (look (dk L) d).getD .non]) ∘ fun p => fr p.1) = tl L := by
    unfold tl
    apply List.map_congr_left
    intro p hp
    have lk : look (dk L) (fr p.1) = some (.int p.2) := by rw [look_dk, getI_mem hL hp]; rfl
    simp only [Function.comp, lk, Option.getD_some]
  rw [e2] at each
  simp only [locked, lockOb, km, each, Res.bind_ok, new, Res.unlock]
  congr 1
  · simp
  · rw [List.set_append_left _ _ (by simpa using lm), List.set_set]
    congr 1
    apply List.ext_getElem?
    intro j
    by_cases q : m = j
    · subst q; rw [List.getElem?_set_self lm, hm]
    · rw [List.getElem?_set_ne q]
end
end Y

set_option linter.all false
set_option maxRecDepth 100000
set_option maxHeartbeats 1000000
/-! The law's own count tells the same sum. -/
namespace Y
open PySem (Str)
section
variable {T : Tbl} {G : String → Option D} {k : Nat} {h : Hp} {b : Int} {P : Fr → Prop} {pc m : Nat} {C : List (Fr × Int)}
abbrev lturns : List S := [
    .asg (.nm 5) (.dict0),
    .for_ (.tp [.nm 6, .nm 7]) (.var 3) lrests,
    .asg (.nm 3) (.lc (.tup [.v 6, .idx (.v 5) (.v 6)]) (.nm 6) (.var 5) [])]
theorem var3 {Z : Sg} {x : Fr} {n : Int} {r : Env} {hh : Hp} (hc : hh[pc]? = some (.lst (tl C))) : evI Z (.var 3) (lenv b x n pc r) hh = .ok ⟨tl C, [(pc, .lst (tl C))], none⟩ hh := by
  rw [evI]
  simp [lenv, srcOf, dict?, seqOf, hc]
theorem intsOf_map : ∀ L : List Int, intsOf (L.map D.int) = some L
  | [] => rfl
  | i :: r => by rw [List.map_cons, intsOf, intsOf_map r]; rfl
theorem s_law_count (c : Cl b P) (F : LT T) (ht : T "_law_count" = some (.fn 3 10 m__law_count)) (b0 : 2 ≤ b) (b1 : b ≤ 5) {x : Fr} (hx : P x) {n : Nat} (hn : n ≤ 1000) :
    callN T G whlC (k + 4) "_law_count" [.int b, fr x, .int n] h = .ok (.int (total (cnt b x n))) h := by
  rw [call_fn ht rfl]
  simp only [m__law_count, start, List.map, List.replicate]
  rw [s_cons]
  simp [new]
  rw [s_cons]
  have hr : range1 (.int n) = some ⟨irange 0 n, [], none⟩ := by
    unfold range1
    simp only
    rw [if_pos]
    · simp
    · have : line = 16777216 := rfl
      simp only [Bool.and_eq_true, decide_eq_true_eq]
      omega
  rw [for_src (s := ⟨irange 0 n, [], none⟩) (h' := h ++ [.lst [.tup [fr x, .int 1]]]) (by simp [hr]) rfl]
  generalize hB : (fun ρ h => evSs (⟨callN T G whlC (k + 3), whlC, G⟩ : Sg) lturns ρ h) = B
  obtain ⟨ρ', h', e, i⟩ := forL_run (t := .nm 4) (g := []) (body := B) (fun ds ρ hh => ∃ (i j pc : Nat) (y4 y5 y6 y7 y8 y9 : Option D), ds = irange i j ∧ i + j = n ∧ ρ = lenv b x n pc [y4, y5, y6, y7, y8, y9] ∧ (∃ z, hh = h ++ z) ∧ h.length ≤ pc ∧ hh[pc]? = some (.lst (tl (cnt b x i))))
    (fun ds ρ hh i => rfl) (fun d ds ρ hh i => by
      obtain ⟨i, j, pc, y4, y5, y6, y7, y8, y9, e1, e2, rfl, ⟨z, hz⟩, hpc, hc⟩ := i
      obtain ⟨j', rfl, rfl, rfl⟩ := irange_cons e1
      have lp : pc < hh.length := (List.getElem?_eq_some_iff.mp hc).1
      have lh : h.length ≤ hh.length := by rw [hz, List.length_append]; omega
      have hc1 : (hh ++ [Ob.dict []])[pc]? = some (.lst (tl (cnt b x i))) := by rw [List.getElem?_append_left lp]; exact hc
      have st : Sl P h pc hh.length (cnt b x i) [] (hh ++ [Ob.dict []]) := ⟨⟨z ++ [.dict []], by rw [hz, List.append_assoc]⟩, hpc, lh, hc1, List.getElem?_concat_length, Kp.nil⟩
      obtain ⟨z6, z7, z8, z9, hh2, q1, q2⟩ := lmiddle (k := k) (T := T) (G := G) (x := x) (n := n) (tu := some (.int i)) (y6 := y6) (y7 := y7) (y8 := y8) (y9 := y9) c F b0 b1 (cnt_kp c hx i) st
      have rl := relist (Z := ⟨callN T G whlC (k + 3), whlC, G⟩) (b := b) (x := x) (n := n) (pc := pc) (tu := some (.int i)) (y6 := z6) (y7 := z7) (y8 := z8) (y9 := z9) c q2.lk q2.l
      obtain ⟨z2, hz2⟩ := q2.ext
      refine ⟨_, lenv b x n hh2.length [some (.int i), some (.ref hh.length), z6, z7, z8, z9], hh2 ++ [.lst (tl (stepC b (cnt b x i)))], rfl, ?_, i + 1, j', hh2.length, _, _, _, _, _, _, by simp, by omega, rfl, ⟨z2 ++ [.lst (tl (stepC b (cnt b x i)))], by rw [hz2, List.append_assoc]⟩, by rw [hz2, List.length_append]; omega, List.getElem?_concat_length⟩
      rw [← hB]
      simp only [lturns, lenv, List.set]
      simp only [lenv] at q1 rl
      rw [s_cons]
      simp [new]
      have hv := var3 (Z := ⟨callN T G whlC (k + 3), whlC, G⟩) (b := b) (x := x) (n := n) (r := [some (.int i), some (.ref hh.length), y6, y7, y8, y9]) hc1
      simp only [lenv] at hv
      rw [s_cons, for_src hv rfl]
      simp only [q1, RS.seq_nx]
      rw [s_cons]
      simp only [s_asg, rl, Res.into_ok, bindT_nm, List.set, RS.seq_nx, s_nil]) (irange 0 n) [some (.int b), some (fr x), some (.int n), some (.ref h.length), none, none, none, none, none, none] (h ++ [.lst [.tup [fr x, .int 1]]])
    ⟨0, n, h.length, none, none, none, none, none, none, rfl, by omega, rfl, ⟨_, rfl⟩, Nat.le_refl _, by simp [cnt, tl]⟩
  dsimp only
  rw [e]
  obtain ⟨i, j, pc, y4, y5, y6, y7, y8, y9, e1, e2, rfl, ⟨z, rfl⟩, hpc, hc⟩ := i
  have : j = 0 := by cases j with
    | zero => rfl
    | succ j => cases e1
  subst this
  have : i = n := by omega
  subst this
  have len : (tl (cnt b x i)).length ≤ line := by
    have := (cnt_kp c hx i).len c
    rw [dk, List.length_map] at this
    rw [tl, List.length_map]; omega
  have lc := lc_src (e := .v 7) (t := .tp [.nm 6, .nm 7]) (cs := []) (var3 (Z := ⟨callN T G whlC (k + 3), whlC, G⟩) (b := b) (x := x) (n := i) (r := [y4, y5, y6, y7, y8, y9]) hc) rfl len (by simp [okG, hc]) (fun _ => true) (fun d => match d with | .tup [_, v] => v | d => d) (fun d hd => by
    unfold tl at hd
    rw [List.mem_map] at hd
    obtain ⟨p, hp, rfl⟩ := hd
    exact ⟨_, rfl, by simp, fun _ => by simp [lenv]⟩)
  rw [filter_all] at lc
  have e3 : (tl (cnt b x i)).map (fun d => match d with | .tup [_, v] => v | d => d) = ((cnt b x i).map (·.2)).map D.int := by
    unfold tl
    rw [List.map_map, List.map_map]; rfl
  rw [e3] at lc
  simp only [RS.seq_nx]
  rw [s_cons]
  simp only [s_ret, r_bi, r_cons, r_nil, lc, Res.bind_ok]
  have sm : builtin .sum [.ref (h ++ z).length] (h ++ z ++ [.lst (((cnt b x i).map (·.2)).map D.int)]) = .ok (.int (total (cnt b x i))) (h ++ z ++ [.lst (((cnt b x i).map (·.2)).map D.int)]) := by
    unfold builtin list?
    simp only [List.getElem?_concat_length, Option.bind_some, intsOf_map]
    rfl
  rw [sm]
  simp only [Res.into_ok, RS.seq_rt]
  rw [List.append_assoc]
  exact fin_drop
end
end Y

set_option linter.all false
set_option maxRecDepth 100000
set_option maxHeartbeats 1000000
/-! The numbers of beginnings. -/
namespace Y
open PySem (Str)
def num (b : Int) : Nat → Fr → Int
  | 0, _ => 1
  | m + 1, r => ((goes b r).map fun x => num b m x.2).sum
def ws (b : Int) (m : Nat) (C : List (Fr × Int)) : Int := (C.map fun p => p.2 * num b m p.1).sum
theorem ws_add (b : Int) (m : Nat) (k : Fr) (v : Int) : ∀ L : List (Fr × Int), ws b m (addTo L k v) = ws b m L + v * num b m k
  | [] => by simp [ws, addTo]
  | (k', v') :: r => by
    rw [addTo]
    by_cases e : k' = k
    · subst e
      rw [if_pos rfl]
      simp only [ws, List.map_cons, List.sum_cons, Int.add_mul]
      omega
    · rw [if_neg e]
      have := ws_add b m k v r
      simp only [ws, List.map_cons, List.sum_cons] at this ⊢
      omega
theorem ws_all (b : Int) (m : Nat) (v : Int) : ∀ (gs : List (Int × Fr)) (L : List (Fr × Int)), ws b m (addAll v L gs) = ws b m L + v * (gs.map fun x => num b m x.2).sum
  | [], L => by simp [addAll]
  | g :: gs, L => by
    have := ws_all b m v gs (addTo L g.2 v)
    unfold addAll at this ⊢
    rw [List.foldl_cons, this, ws_add, List.map_cons, List.sum_cons, Int.mul_add]
    omega
theorem ws_step (b : Int) (m : Nat) : ∀ (C L : List (Fr × Int)), ws b m (C.foldl (fun L p => addAll p.2 L (goes b p.1)) L) = ws b m L + ws b (m + 1) C
  | [], L => by simp [ws]
  | p :: C, L => by
    have e : ws b (m + 1) (p :: C) = p.2 * num b (m + 1) p.1 + ws b (m + 1) C := by simp [ws]
    rw [List.foldl_cons, ws_step b m C, ws_all, e, num, Int.add_assoc]
theorem ws_cnt (b : Int) (x : Fr) : ∀ n m, ws b m (cnt b x n) = num b (n + m) x
  | 0, m => by simp [ws, cnt]
  | n + 1, m => by
    have e : ws b m (cnt b x (n + 1)) = ws b m [] + ws b (m + 1) (cnt b x n) := ws_step b m _ _
    rw [e, ws_cnt b x n (m + 1)]
    simp only [ws, List.map_nil, List.sum_nil, Int.zero_add]
    congr 1
    omega
theorem total_num (b : Int) (x : Fr) (n : Nat) : total (cnt b x n) = num b n x := by
  have := ws_cnt b x n 0
  rw [Nat.add_zero] at this
  rw [← this]
  unfold total ws
  congr 1
  apply List.map_congr_left
  intro p _
  simp [num]
/-! the other sign -/
def ng (p : Fr) : Fr := (-p.1, p.2)
theorem lo_ng (t b : Int) : lo (-t) b = ng (lo t b) := by
  have gd : ((Nat.gcd t.natAbs b.natAbs : Nat) : Int) ∣ t := Int.ofNat_dvd_left.mpr (Nat.gcd_dvd_left _ _)
  unfold lo ng
  rw [Int.natAbs_neg]
  simp only [Int.neg_ediv_of_dvd gd]
theorem stp_ng (b : Int) (r : Fr) (d : Int) : stp b (ng r) (-d) = ng (stp b r d) := by
  have e1 : lmul (ng r) (b, 1) = ng (lmul r (b, 1)) := by
    show lo (-r.1 * b) (r.2 * 1) = _
    rw [Int.neg_mul]
    exact lo_ng _ _
  unfold stp
  rw [e1]
  show lo ((ng (lmul r (b, 1))).1 * 1 - -d * (ng (lmul r (b, 1))).2) _ = ng (lo ((lmul r (b, 1)).1 * 1 - d * (lmul r (b, 1)).2) _)
  rw [← lo_ng]
  congr 1
  show -(lmul r (b, 1)).1 * 1 - -d * (lmul r (b, 1)).2 = _
  rw [Int.neg_mul, Int.neg_mul]
  omega
/-- a digit's part -/
def pt (b : Int) (m : Nat) (r : Fr) (d : Int) : Int := if ((stp b r d).1.natAbs : Int) ≤ (stp b r d).2 then num b m (stp b r d) else 0
theorem num_pt (b : Int) (m : Nat) (r : Fr) : num b (m + 1) r = ((ilist (1 - b) (b - (1 - b)).toNat).map (pt b m r)).sum := by
  rw [num, goes]
  generalize ilist (1 - b) (b - (1 - b)).toNat = l
  induction l with
  | nil => rfl
  | cons d l ih =>
    rw [List.map_cons, List.map_cons, List.sum_cons, ← ih]
    unfold pt
    by_cases q : ((stp b r d).1.natAbs : Int) ≤ (stp b r d).2
    · rw [List.filter_cons_of_pos (by simpa using q), if_pos q, List.map_cons, List.sum_cons]
    · rw [List.filter_cons_of_neg (by simpa using q), if_neg q, Int.zero_add]
theorem num_ng (b : Int) (b0 : 2 ≤ b) (b1 : b ≤ 5) : ∀ (m : Nat) (r : Fr), num b m (ng r) = num b m r
  | 0, _ => rfl
  | m + 1, r => by
    have ih := num_ng b b0 b1 m
    have p : ∀ d, pt b m (ng r) (-d) = pt b m r d := fun d => by
      unfold pt
      rw [stp_ng, ih]
      show (if ((-(stp b r d).1).natAbs : Int) ≤ _ then _ else _) = _
      rw [Int.natAbs_neg]; rfl
    rw [num_pt, num_pt]
    have hb : b = 2 ∨ b = 3 ∨ b = 4 ∨ b = 5 := by omega
    have p0 := p 0
    have p1 := p 1
    have p2 := p 2
    have p3 := p 3
    have p4 := p 4
    have q1 := p (-1)
    have q2 := p (-2)
    have q3 := p (-3)
    have q4 := p (-4)
    simp only [Int.neg_neg, Int.neg_zero] at p0 p1 p2 p3 p4 q1 q2 q3 q4
    rcases hb with rfl | rfl | rfl | rfl
    · show ([-1, 0, 1].map (pt 2 m (ng r))).sum = ([-1, 0, 1].map (pt 2 m r)).sum
      simp only [List.map_cons, List.map_nil, List.sum_cons, List.sum_nil]; omega
    · show ([-2, -1, 0, 1, 2].map (pt 3 m (ng r))).sum = ([-2, -1, 0, 1, 2].map (pt 3 m r)).sum
      simp only [List.map_cons, List.map_nil, List.sum_cons, List.sum_nil]; omega
    · show ([-3, -2, -1, 0, 1, 2, 3].map (pt 4 m (ng r))).sum = ([-3, -2, -1, 0, 1, 2, 3].map (pt 4 m r)).sum
      simp only [List.map_cons, List.map_nil, List.sum_cons, List.sum_nil]; omega
    · show ([-4, -3, -2, -1, 0, 1, 2, 3, 4].map (pt 5 m (ng r))).sum = ([-4, -3, -2, -1, 0, 1, 2, 3, 4].map (pt 5 m r)).sum
      simp only [List.map_cons, List.map_nil, List.sum_cons, List.sum_nil]; omega
/-! the ends -/
theorem goes_one (b : Int) (b0 : 2 ≤ b) (b1 : b ≤ 5) : goes b (1, 1) = [(b - 1, (1, 1))] := by
  have hb : b = 2 ∨ b = 3 ∨ b = 4 ∨ b = 5 := by omega
  rcases hb with rfl | rfl | rfl | rfl <;> decide +kernel
theorem num_one (b : Int) (b0 : 2 ≤ b) (b1 : b ≤ 5) : ∀ m, num b m (1, 1) = 1
  | 0 => rfl
  | m + 1 => by rw [num, goes_one b b0 b1]; simp [num_one b b0 b1 m]
theorem num_mone (b : Int) (b0 : 2 ≤ b) (b1 : b ≤ 5) (m : Nat) : num b m (-1, 1) = 1 := (num_ng b b0 b1 m (1, 1)).trans (num_one b b0 b1 m)
/-! a set that going on does not leave -/
def Pq (q : Int) (k : Fr) : Prop := k.2 ∣ q ∧ Num k
theorem lo_num {t b : Int} (h : 0 < b) : Nat.gcd (lo t b).1.natAbs (lo t b).2.natAbs = 1 ∧ (lo t b).2 ∣ b := by
  have g0 : 0 < Nat.gcd t.natAbs b.natAbs := Nat.gcd_pos_of_pos_right _ (by omega)
  have gd1 : ((Nat.gcd t.natAbs b.natAbs : Nat) : Int) ∣ t := Int.ofNat_dvd_left.mpr (Nat.gcd_dvd_left _ _)
  have gd2 : ((Nat.gcd t.natAbs b.natAbs : Nat) : Int) ∣ b := Int.ofNat_dvd_left.mpr (Nat.gcd_dvd_right _ _)
  refine ⟨?_, ⟨_, (Int.ediv_mul_cancel gd2).symm⟩⟩
  show Nat.gcd (t / _).natAbs (b / _).natAbs = 1
  rw [Int.natAbs_ediv_of_dvd gd1, Int.natAbs_ediv_of_dvd gd2, Int.natAbs_natCast]
  exact Nat.coprime_div_gcd_div_gcd g0
theorem le_of_nodup : ∀ (n : Nat) (l : List Nat), l.Nodup → (∀ x ∈ l, x < n) → l.length ≤ n
  | 0, l, _, h => by
    cases l with
    | nil => exact Nat.le_refl _
    | cons a r => exact absurd (h a (List.mem_cons_self ..)) (Nat.not_lt_zero _)
  | n + 1, l, nd, h => by
    have h1 : (l.filter (· != n)).length ≤ n := le_of_nodup n _ (nd.filter _) fun x hx => by
      rw [List.mem_filter] at hx
      have := h x hx.1
      have : x ≠ n := by simpa using hx.2
      omega
    have h2 : l.length ≤ (l.filter (· != n)).length + 1 := by
      clear h h1
      induction l with
      | nil => simp
      | cons a r ih =>
        rw [List.nodup_cons] at nd
        by_cases e : a = n
        · subst e
          have : r.filter (· != a) = r := List.filter_eq_self.mpr fun x hx => by
            simp only [bne_iff_ne, ne_eq]
            rintro rfl
            exact nd.1 hx
          rw [List.filter_cons_of_neg (by simp), this]
          simp
        · rw [List.filter_cons_of_pos (by simp [e])]
          have := ih nd.2
          simp only [List.length_cons]; omega
    omega
theorem pq_inj {q : Int} (hq : 0 < q) {k l : Fr} (hk : Pq q k) (hl : Pq q l) (e : k.1 * (q / k.2) = l.1 * (q / l.2)) : k = l := by
  obtain ⟨d1, k0, k1, k2⟩ := hk
  obtain ⟨d2, l0, l1, l2⟩ := hl
  obtain ⟨a, b⟩ := k
  obtain ⟨c, d⟩ := l
  simp only at *
  have x1 := Int.ediv_mul_cancel d1
  have x2 := Int.ediv_mul_cancel d2
  -- a * d = c * b
  have cross : a * d = c * b := by
    have h1 : a * d * q = c * b * q := by
      calc a * d * q = a * d * (q / b * b) := by rw [x1]
        _ = (a * (q / b)) * d * b := by ac_rfl
        _ = (c * (q / d)) * d * b := by rw [e]
        _ = c * b * (q / d * d) := by ac_rfl
        _ = c * b * q := by rw [x2]
    exact Int.eq_of_mul_eq_mul_right (by omega) h1
  have cn : a.natAbs * d.natAbs = c.natAbs * b.natAbs := by rw [← Int.natAbs_mul, ← Int.natAbs_mul, cross]
  have v1 : b.natAbs ∣ d.natAbs := (Nat.Coprime.symm k1).dvd_of_dvd_mul_left ⟨c.natAbs, by rw [cn, Nat.mul_comm]⟩
  have v2 : d.natAbs ∣ b.natAbs := (Nat.Coprime.symm l1).dvd_of_dvd_mul_left ⟨a.natAbs, by rw [← cn, Nat.mul_comm]⟩
  have bd : b.natAbs = d.natAbs := Nat.dvd_antisymm v1 v2
  have bd' : b = d := by omega
  subst bd'
  have : a = c := Int.eq_of_mul_eq_mul_right (by omega) cross
  rw [this]
theorem pq_cl {b q : Int} (b0 : 2 ≤ b) (b1 : b ≤ 5) (q0 : 0 < q) (q1 : q < 2 ^ 20) : Cl b (Pq q) where
  sm := fun k hk => by
    obtain ⟨d, k0, _, k2⟩ := hk
    have := Int.le_of_dvd q0 d
    exact ⟨⟨by omega, k0, by omega⟩, by omega, by omega⟩
  cl := fun k hk x hx => by
    unfold goes at hx
    rw [List.mem_filter, List.mem_map] at hx
    obtain ⟨⟨d, _, rfl⟩, h2⟩ := hx
    simp only [decide_eq_true_eq] at h2 ⊢
    obtain ⟨dv, k0, _, _⟩ := hk
    obtain ⟨_, m0, _⟩ := lo_le (t := k.1 * b) (b := k.2 * 1) (by omega)
    obtain ⟨_, m1⟩ := lo_num (t := k.1 * b) (b := k.2 * 1) (by omega)
    have m0' : 0 < (lmul k (b, 1)).2 := m0
    have m1' : (lmul k (b, 1)).2 ∣ k.2 * 1 := m1
    obtain ⟨_, s0, _⟩ := lo_le (t := (lmul k (b, 1)).1 * 1 - d * (lmul k (b, 1)).2) (b := (lmul k (b, 1)).2 * 1) (by omega)
    obtain ⟨s1, s2⟩ := lo_num (t := (lmul k (b, 1)).1 * 1 - d * (lmul k (b, 1)).2) (b := (lmul k (b, 1)).2 * 1) (by omega)
    have s2' : (stp b k d).2 ∣ (lmul k (b, 1)).2 * 1 := s2
    rw [Int.mul_one] at m1' s2'
    exact ⟨Int.dvd_trans (Int.dvd_trans s2' m1') dv, s0, s1, h2⟩
  fin := fun L nd hP => by
    have inj : ((L.map fun k => (k.1 * (q / k.2) + q).toNat)).Nodup := by
      rw [List.Nodup, List.pairwise_map]
      refine nd.imp_of_mem fun {k l} hk hl ne => ?_
      intro e
      apply ne
      have rng : ∀ k, Pq q k → 0 ≤ k.1 * (q / k.2) + q := fun k hk => by
        obtain ⟨d, k0, _, k2⟩ := hk
        have x := Int.ediv_mul_cancel d
        have p0 : 0 ≤ q / k.2 := Int.ediv_nonneg (by omega) (by omega)
        have : -k.2 * (q / k.2) ≤ k.1 * (q / k.2) := Int.mul_le_mul_of_nonneg_right (by omega) p0
        rw [Int.neg_mul, Int.mul_comm k.2, x] at this
        omega
      have r1 := rng k (hP k hk)
      have r2 := rng l (hP l hl)
      exact pq_inj q0 (hP k hk) (hP l hl) (by omega)
    have le := le_of_nodup (2 * q + 1).toNat _ inj fun y hy => by
      rw [List.mem_map] at hy
      obtain ⟨k, hk, rfl⟩ := hy
      obtain ⟨d, k0, _, k2⟩ := hP k hk
      have x := Int.ediv_mul_cancel d
      have p0 : 0 ≤ q / k.2 := Int.ediv_nonneg (by omega) (by omega)
      have : k.1 * (q / k.2) ≤ k.2 * (q / k.2) := Int.mul_le_mul_of_nonneg_right (by omega) p0
      rw [Int.mul_comm k.2, x] at this
      omega
    rw [List.length_map] at le
    have : line = 16777216 := rfl
    omega
end Y

set_option linter.all false
set_option maxRecDepth 100000
set_option maxHeartbeats 1000000
/-! The law k05. -/
namespace Y
open PySem (Str)
theorem fin_hand {h h' : Hp} {p c n : Nat} {v : Int} (hl : h'.length = h.length) (hq : ∀ q, q ≠ p → h'[q]? = h[q]?) (hh : Hand h' p c n) : fin h (.rt (.int v) h') = .ok (.int v) h' := by
  have e : elder h h' = true := by
    unfold elder
    rw [List.all_eq_true]
    intro i hi
    by_cases z : i = p
    · subst z
      obtain ⟨_, ns, a, l, t, h1, h2, _⟩ := hh
      have lc : c < h.length := by rw [← hl]; exact (List.getElem?_eq_some_iff.mp h2).1
      rw [h1]
      simp [Ob.flat, D.underL, D.under, lc]
    · rw [hq i z]; simp
  show left h (.int v) h' = _
  unfold left
  simp [news, ren, e]
  rw [List.take_of_length_le (by omega)]
def m__law_any : List S := [
  .ret (.idx (.v 1) (.call "_law_draw" [.v 0, .bi .len [.v 1]]))]
structure DT (T : Tbl) : Prop where
  mixed : T "_law_mixed" = some (.fn 2 3 m__law_mixed)
  draw : T "_law_draw" = some (.fn 2 6 m__law_draw)
  any : T "_law_any" = some (.fn 2 2 m__law_any)
theorem Hand.app {h : Hp} {p c n : Nat} (hh : Hand h p c n) (x : Hp) : Hand (h ++ x) p c n := by
  obtain ⟨hc, ns, a, l, t, h1, h2, h3⟩ := hh
  exact ⟨hc, ns, a, l, t, by rw [List.getElem?_append_left (List.getElem?_eq_some_iff.mp h1).1]; exact h1, by rw [List.getElem?_append_left (List.getElem?_eq_some_iff.mp h2).1]; exact h2, h3⟩
theorem s_any {T : Tbl} {G : String → Option D} {W : Wh} {k : Nat} {h : Hp} {p c n s : Nat} {xs : List Int} (F : DT T) (hh : Hand h p c n) (hn : n < 2 ^ 39) (hs : h[s]? = some (.lst (xs.map D.int))) (hne : xs ≠ []) (hz : xs.length < 1000) (hp : s ≠ p) :
    ∃ v h', callN T G W (k + 3) "_law_any" [.ref p, .ref s] h = .ok (.int v) h' ∧ v ∈ xs ∧ Hand h' p c (n + 1) ∧ h'.length = h.length ∧ ∀ q, q ≠ p → h'[q]? = h[q]? := by
  have hl : 0 < xs.length := List.length_pos_iff.mpr hne
  obtain ⟨r, h', e, r0, r1, hh', l1, q1⟩ := s_draw (G := G) (W := W) (k := k) (m := xs.length) F.draw F.mixed hh hn (by omega) (by omega)
  have hr : r.toNat < xs.length := by omega
  refine ⟨xs[r.toNat], h', ?_, List.getElem_mem hr, hh', l1, q1⟩
  rw [call_fn F.any rfl]
  have ln : builtin .len [.ref s] h = .ok (.int xs.length) h := by simp [builtin, lenOf, hs]
  have ix : index (.ref s) (.int r) h' = .ok (.int xs[r.toNat]) h' := by
    have e1 : place (xs.map D.int).length r = some r.toNat := by
      unfold place
      rw [if_pos r0, List.length_map, if_pos r1]
    simp only [index, (q1 s hp).trans hs, item, e1, Option.bind_some, List.getElem?_map]
    rw [List.getElem?_eq_getElem hr]
    rfl
  simp [m__law_any, s_cons, start, ln, e, ix]
  exact fin_hand l1 q1 hh'
def m__law_is : List S := [
  .iff (.and (.tr (.isi (.v 0) ["list", "tuple"])) (.tr (.isi (.v 1) ["list", "tuple"]))) [
    .iff (.or (.tr (.cmp .ne (.isi (.v 0) ["tuple"]) (.isi (.v 1) ["tuple"]))) (.tr (.cmp .ne (.bi .len [.v 0]) (.bi .len [.v 1])))) [
      .ret (.c (.bl false))] [],
    .ret (.bi .all [.lc (.call "_law_is" [.v 2, .v 3]) (.tp [.nm 2, .nm 3]) (.zip (.v 0) (.v 1)) []])] [],
  .iff (.and (.tr (.isi (.v 0) ["dict"])) (.tr (.isi (.v 1) ["dict"]))) [
    .ret (.and (.cmp .eq (.bi .len [.v 0]) (.bi .len [.v 1])) (.bi .all [.lc (.and (.cmp .in_ (.v 4) (.v 1)) (.call "_law_is" [.idx (.v 0) (.v 4), .idx (.v 1) (.v 4)])) (.nm 4) (.var 0) []]))] [],
  .ret (.and (.cmp .eq (.isi (.v 0) ["bool"]) (.isi (.v 1) ["bool"])) (.cmp .eq (.v 0) (.v 1)))]
theorem s_is_int {T : Tbl} {G : String → Option D} {W : Wh} {k : Nat} {h : Hp} {a b : Int} (ht : T "_law_is" = some (.fn 2 5 m__law_is)) : callN T G W (k + 1) "_law_is" [.int a, .int b] h = .ok (.bl (decide (a = b))) h := by
  rw [call_fn ht rfl]
  have e : compareR .eq (.bl false) (.bl false) h = .ok (.bl true) h := by simp [compareR, compare, eq?, D.pure, D.depth, D.eqv]
  simp [m__law_is, s_cons, start, isAny, isA, e]
theorem lo_le_num {t b : Int} (hb : 0 < b) (h : (t.natAbs : Int) ≤ b) : Pq b (lo t b) := by
  obtain ⟨_, l2, _⟩ := lo_le (t := t) hb
  obtain ⟨n1, n2⟩ := lo_num (t := t) hb
  refine ⟨n2, l2, n1, ?_⟩
  have gd1 : ((Nat.gcd t.natAbs b.natAbs : Nat) : Int) ∣ t := Int.ofNat_dvd_left.mpr (Nat.gcd_dvd_left _ _)
  have gd2 : ((Nat.gcd t.natAbs b.natAbs : Nat) : Int) ∣ b := Int.ofNat_dvd_left.mpr (Nat.gcd_dvd_right _ _)
  have e1 : (lo t b).1.natAbs = t.natAbs / Nat.gcd t.natAbs b.natAbs := by
    show (t / _).natAbs = _
    rw [Int.natAbs_ediv_of_dvd gd1, Int.natAbs_natCast]
  have e2 : (lo t b).2.natAbs = b.natAbs / Nat.gcd t.natAbs b.natAbs := by
    show (b / _).natAbs = _
    rw [Int.natAbs_ediv_of_dvd gd2, Int.natAbs_natCast]
  have : t.natAbs / Nat.gcd t.natAbs b.natAbs ≤ b.natAbs / Nat.gcd t.natAbs b.natAbs := Nat.div_le_div_right (by omega)
  omega
theorem pq_ng {q : Int} {k : Fr} (h : Pq q k) : Pq q (ng k) := by
  obtain ⟨a, b, c, d⟩ := h
  exact ⟨a, b, by show Nat.gcd (-k.1).natAbs _ = 1; rw [Int.natAbs_neg]; exact c, by show ((-k.1).natAbs : Int) ≤ _; rw [Int.natAbs_neg]; exact d⟩
theorem pq_one {q : Int} : Pq q (1, 1) := ⟨Int.one_dvd q, by decide, by decide, by decide⟩
section
variable {T : Tbl} {G : String → Option D}
structure KT (T : Tbl) (G : String → Option D) : Prop extends MB T G where
  lt : LT T
  dt : DT T
  lis : T "_law_is" = some (.fn 2 5 m__law_is)
  lcount : T "_law_count" = some (.fn 3 10 m__law_count)
/-- what the law asks of a base, a number, how many -/
theorem k05_ask (F : KT T G) {b q : Int} {x : Fr} {n : Nat} (b0 : 2 ≤ b) (b1 : b ≤ 5) (q0 : 0 < q) (q1 : q < 2 ^ 20) (hx : Pq q x) (hn : n ≤ 1000) {h : Hp} {a2 a4 a7 a8 a9 a10 : Option D} :
    ∃ ρ' h', evSs ⟨callN T G whlC 39, whlC, G⟩ [
    .asg (.nm 7) (.call "many_beginnings" [.v 3, .v 5, .v 6]),
    .iff (.or (.not (.tr (.call "_law_is" [.v 7, .call "_law_count" [.v 3, .v 5, .v 6]]))) (.tr (.cmp .ne (.call "many_beginnings" [.v 3, .tup [.bin .sub (.c (.int 0)) (.idx (.v 5) (.c (.int 0))), .idx (.v 5) (.c (.int 1))], .v 6]) (.v 7)))) [
      .ret (.c (.bl false))] [],
    .iff (.tr (.cmp .gt (.v 6) (.c (.int 0)))) [
      .asg (.nm 8) (.lc (.call "many_beginnings" [.v 3, .v 10, .bin .sub (.v 6) (.c (.int 1))]) (.tp [.nm 9, .nm 10]) (.val (.call "_law_goes" [.v 3, .v 5])) []),
      .iff (.tr (.cmp .ne (.bi .sum [.v 8]) (.v 7))) [
        .ret (.c (.bl false))] []] [],
    .iff (.or (.tr (.cmp .ne (.call "many_beginnings" [.v 3, .tup [.c (.int 1), .c (.int 1)], .v 6]) (.c (.int 1)))) (.tr (.cmp .ne (.call "many_beginnings" [.v 3, .tup [.neg (.c (.int 1)), .c (.int 1)], .v 6]) (.c (.int 1))))) [
      .ret (.c (.bl false))] []] [none, some (.ref 1), a2, some (.int b), a4, some (fr x), some (.int n), a7, a8, a9, a10] h = .nx ρ' h' ∧ (∃ x, h' = h ++ x) ∧ ∃ y2 y3 y4 y5 y6 y7 y8 y9 y10, ρ' = [none, some (.ref 1), y2, y3, y4, y5, y6, y7, y8, y9, y10] := by
  have C := pq_cl b0 b1 q0 q1
  have M : ∀ (y : Fr) (m : Nat) (h : Hp), Pq q y → m ≤ 1000 → callN T G whlC 39 "many_beginnings" [.int b, fr y, .int m] h = .ok (.int (num b m y)) h := fun y m h hy hm => by
    rw [← total_num]
    exact s_many (k := 33) C F.toMB b0 b1 hy hy.2 hm
  have L : callN T G whlC 39 "_law_count" [.int b, fr x, .int n] h = .ok (.int (num b n x)) h := by
    rw [← total_num]
    exact s_law_count (k := 35) C F.lt F.lcount b0 b1 hx hn
  have I : ∀ (a c : Int) (h : Hp), callN T G whlC 39 "_law_is" [.int a, .int c] h = .ok (.bl (decide (a = c))) h := fun a c h => s_is_int (k := 38) F.lis
  have Mn : callN T G whlC 39 "many_beginnings" [.int b, .tup [.int (-x.1), .int x.2], .int n] h = .ok (.int (num b n x)) h := by
    rw [← num_ng b b0 b1 n x]
    exact M (ng x) n h (pq_ng hx) hn
  have M1 : ∀ h, callN T G whlC 39 "many_beginnings" [.int b, .tup [.int 1, .int 1], .int n] h = .ok (.int 1) h := fun h => by
    rw [M (1, 1) n h pq_one hn, num_one b b0 b1]
  have M2 : ∀ h, callN T G whlC 39 "many_beginnings" [.int b, .tup [.int (-1), .int 1], .int n] h = .ok (.int 1) h := fun h => by
    have := M (ng (1, 1)) n h (pq_ng pq_one) hn
    rw [num_ng b b0 b1, num_one b b0 b1] at this
    exact this
  rw [s_cons]
  simp [M x n h hx hn]
  rw [s_cons]
  simp [L, I, Mn]
  rw [s_cons]
  cases n with
  | zero =>
    simp
    rw [s_cons]
    simp [M1, M2] at M1 M2 ⊢
    exact ⟨_, _, ⟨rfl, rfl⟩, ⟨[], by simp⟩, _, _, _, _, _, _, _, _, _, rfl⟩
  | succ m =>
    have hp : (0 : Int) < ((m + 1 : Nat) : Int) := by omega
    simp only [s_iff, r_ctr, r_cmp, r_v6, r_c, Res.bind_ok, cR_gt, tR_bl, decide_eq_true hp, Res.into_ok, if_true]
    obtain ⟨sm1, sm2, sm3⟩ := C.sm x hx
    have go := s_lgoes (G := G) (k := 36) (h := h) F.lt sm1 ⟨sm2, sm3⟩ b0 b1
    have len : ((goes b x).map goD).length ≤ line := by
      have := goesL_len (b := b) (r := x) (a := ilist (1 - b) (b - (1 - b)).toNat)
      rw [ilist_len] at this
      have e : line = 16777216 := rfl
      rw [List.length_map]
      show (goesL b x _).length ≤ _
      omega
    have lc := lc_src (Z := ⟨callN T G whlC 39, whlC, G⟩) (ρ := [none, some (.ref 1), a2, some (.int b), a4, some (fr x), some (.int ((m + 1 : Nat) : Int)), some (.int (num b (m + 1) x)), a8, a9, a10]) (h := h) (e := .call "many_beginnings" [.v 3, .v 10, .bin .sub (.v 6) (.c (.int 1))]) (t := .tp [.nm 9, .nm 10]) (i := .val (.call "_law_goes" [.v 3, .v 5])) (cs := []) (s := ⟨(goes b x).map goD, [(h.length, .lst ((goes b x).map goD))], none⟩) (h' := h ++ [.lst ((goes b x).map goD)])
      (by simp [go, seqOf]) rfl len (by simp [okG]) (fun _ => true) (fun d => match d with | .tup [_, .tup [.int u, .int w]] => .int (num b m (u, w)) | d => d) (fun d hd => by
        simp only [List.mem_map] at hd
        obtain ⟨g, hg, rfl⟩ := hd
        have hm := M g.2 m (h ++ [.lst ((goes b x).map goD)]) (C.cl x hx g hg) (by omega)
        refine ⟨_, rfl, by simp, fun _ => ?_⟩
        have e1 : ((m : Int) + 1 - 1) = m := by omega
        simp [hm, e1, goD])
    rw [filter_all, List.map_map] at lc
    have e2 : (goes b x).map ((fun d => match d with | .tup [_, .tup [.int u, .int w]] => D.int (num b m (u, w)) | d => d) ∘ goD) = ((goes b x).map fun g => num b m g.2).map D.int := by
      rw [List.map_map]; rfl
    rw [e2] at lc
    rw [s_cons]
    simp only [s_asg, lc, Res.into_ok, bindT_nm, List.set, RS.seq_nx]
    rw [s_cons]
    have sm : builtin .sum [.ref (h ++ [Ob.lst ((goes b x).map goD)]).length] (h ++ [.lst ((goes b x).map goD)] ++ [.lst (((goes b x).map fun g => num b m g.2).map D.int)]) = .ok (.int (num b (m + 1) x)) (h ++ [.lst ((goes b x).map goD)] ++ [.lst (((goes b x).map fun g => num b m g.2).map D.int)]) := by
      unfold builtin list?
      simp only [List.getElem?_concat_length, Option.bind_some, intsOf_map]
      cases hg : (goes b x).map fun g => num b m g.2 with
      | nil => rw [num, hg]
      | cons _ _ => rw [num, hg]
    simp only [s_iff, r_ctr, r_cmp, r_bi, r_cons, r_nil, r_v8, r_v7, Res.bind_ok, sm, cR_ne, decide_eq_true (rfl : num b (m + 1) x = num b (m + 1) x), Bool.not_true, tR_bl, Res.into_ok]
    simp
    rw [s_cons]
    have M1' := M1 (h ++ [.lst ((goes b x).map goD), .lst (((goes b x).map fun g => num b m g.2).map D.int)])
    have M2' := M2 (h ++ [.lst ((goes b x).map goD), .lst (((goes b x).map fun g => num b m g.2).map D.int)])
    simp [List.map_map] at M1' M2' ⊢
    simp [M1', M2']
    exact ⟨_, _, ⟨rfl, rfl⟩, ⟨_, rfl⟩, _, _, _, _, _, _, _, _, _, rfl⟩
abbrev tail05 : List S := [
    .asg (.nm 7) (.call "many_beginnings" [.v 3, .v 5, .v 6]),
    .iff (.or (.not (.tr (.call "_law_is" [.v 7, .call "_law_count" [.v 3, .v 5, .v 6]]))) (.tr (.cmp .ne (.call "many_beginnings" [.v 3, .tup [.bin .sub (.c (.int 0)) (.idx (.v 5) (.c (.int 0))), .idx (.v 5) (.c (.int 1))], .v 6]) (.v 7)))) [
      .ret (.c (.bl false))] [],
    .iff (.tr (.cmp .gt (.v 6) (.c (.int 0)))) [
      .asg (.nm 8) (.lc (.call "many_beginnings" [.v 3, .v 10, .bin .sub (.v 6) (.c (.int 1))]) (.tp [.nm 9, .nm 10]) (.val (.call "_law_goes" [.v 3, .v 5])) []),
      .iff (.tr (.cmp .ne (.bi .sum [.v 8]) (.v 7))) [
        .ret (.c (.bl false))] []] [],
    .iff (.or (.tr (.cmp .ne (.call "many_beginnings" [.v 3, .tup [.c (.int 1), .c (.int 1)], .v 6]) (.c (.int 1)))) (.tr (.cmp .ne (.call "many_beginnings" [.v 3, .tup [.neg (.c (.int 1)), .c (.int 1)], .v 6]) (.c (.int 1))))) [
      .ret (.c (.bl false))] []]
def m_law05 : List S := [
  .for_ (.nm 2) (.rng (.c (.int 2))) ([
    .asg (.tp [.nm 3, .nm 4]) (.tup [.bin .add (.c (.int 2)) (.call "_law_draw" [.v 1, .c (.int 4)]), .call "_law_any" [.v 1, .lst [.c (.int 1), .c (.int 2), .c (.int 3), .c (.int 8), .c (.int 60), .bin .add (.c (.int 1)) (.call "_law_draw" [.v 1, .c (.int 1000)])]]]),
    .asg (.nm 5) (.call "_law_low" [.bin .sub (.call "_law_draw" [.v 1, .bin .add (.bin .mul (.c (.int 2)) (.v 4)) (.c (.int 1))]) (.v 4), .v 4]),
    .asg (.nm 6) (.call "_law_any" [.v 1, .lst [.c (.int 0), .c (.int 1), .c (.int 2), .c (.int 5), .c (.int 12), .c (.int 60), .c (.int 200), .c (.int 999), .c (.int 1000)]])] ++ tail05),
  .ret (.c (.bl true))]
theorem k05_turn (F : KT T G) {n : Nat} (hn : n < 1000) {h : Hp} (hh : Hand h 1 0 n) {a2 a3 a4 a5 a6 a7 a8 a9 a10 : Option D} :
    ∃ h' y2 y3 y4 y5 y6 y7 y8 y9 y10, evSs ⟨callN T G whlC 39, whlC, G⟩ ([
    .asg (.tp [.nm 3, .nm 4]) (.tup [.bin .add (.c (.int 2)) (.call "_law_draw" [.v 1, .c (.int 4)]), .call "_law_any" [.v 1, .lst [.c (.int 1), .c (.int 2), .c (.int 3), .c (.int 8), .c (.int 60), .bin .add (.c (.int 1)) (.call "_law_draw" [.v 1, .c (.int 1000)])]]]),
    .asg (.nm 5) (.call "_law_low" [.bin .sub (.call "_law_draw" [.v 1, .bin .add (.bin .mul (.c (.int 2)) (.v 4)) (.c (.int 1))]) (.v 4), .v 4]),
    .asg (.nm 6) (.call "_law_any" [.v 1, .lst [.c (.int 0), .c (.int 1), .c (.int 2), .c (.int 5), .c (.int 12), .c (.int 60), .c (.int 200), .c (.int 999), .c (.int 1000)]])] ++ tail05)
      [none, some (.ref 1), a2, a3, a4, a5, a6, a7, a8, a9, a10] h = .nx [none, some (.ref 1), y2, y3, y4, y5, y6, y7, y8, y9, y10] h' ∧ Hand h' 1 0 (n + 5) := by
  simp only [List.cons_append, List.nil_append]
  have D1 := F.dt
  rw [s_cons]
  obtain ⟨r1, h1, e1, r10, r11, H1, l1, q1⟩ := s_draw (G := G) (W := whlC) (k := 37) (m := 4) D1.draw D1.mixed hh (by omega) (by decide) (by decide)
  obtain ⟨r2, h2, e2, r20, r21, H2, l2, q2⟩ := s_draw (G := G) (W := whlC) (k := 37) (m := 1000) D1.draw D1.mixed H1 (by omega) (by decide) (by decide)
  have H2' := H2.app [Ob.lst ([1, 2, 3, 8, 60, 1 + r2].map D.int)]
  have lh : 1 < h2.length := by obtain ⟨_, _, _, _, _, x, _⟩ := H2; exact (List.getElem?_eq_some_iff.mp x).1
  obtain ⟨bo, h3, e3, bm, H3, l3, q3⟩ := s_any (G := G) (W := whlC) (k := 36) (s := h2.length) (xs := [1, 2, 3, 8, 60, 1 + r2]) D1 H2' (by omega) List.getElem?_concat_length (by simp) (by simp) (by omega)
  have b0 : 1 ≤ bo ∧ bo ≤ 1000 := by
    simp only [List.mem_cons, List.mem_nil_iff, or_false] at bm
    omega
  simp only [List.map_cons, List.map_nil] at e3
  simp [e1, e2, new, e3]
  rw [s_cons]
  obtain ⟨r4, h4, e4, r40, r41, H4, l4, q4⟩ := s_draw (G := G) (W := whlC) (k := 37) (m := 2 * bo + 1) D1.draw D1.mixed H3 (by omega) (by omega) (by omega)
  have lw := s_low (G := G) (k := 38) (h := h4) (t := r4 - bo) (b := bo) F.lt.low (by omega) (by omega)
  simp [bind_mul (i := 2) (j := bo) (h := h3) (by decide) (by omega), e4, lw]
  rw [s_cons]
  have H4' := H4.app [Ob.lst ([0, 1, 2, 5, 12, 60, 200, 999, 1000].map D.int)]
  have lh4 : 1 < h4.length := by obtain ⟨_, _, _, _, _, x, _⟩ := H4; exact (List.getElem?_eq_some_iff.mp x).1
  obtain ⟨my, h5, e5, mm, H5, l5, q5⟩ := s_any (G := G) (W := whlC) (k := 36) (s := h4.length) (xs := [0, 1, 2, 5, 12, 60, 200, 999, 1000]) D1 H4' (by omega) List.getElem?_concat_length (by simp) (by simp) (by omega)
  have m0 : 0 ≤ my ∧ my ≤ 1000 := by
    simp only [List.mem_cons, List.mem_nil_iff, or_false] at mm
    omega
  simp only [List.map_cons, List.map_nil] at e5
  simp [new, e5]
  obtain ⟨N, rfl⟩ : ∃ N : Nat, my = N := ⟨my.toNat, by omega⟩
  obtain ⟨ρ', h', e, ⟨z, hz⟩, y2, y3, y4, y5, y6, y7, y8, y9, y10, rfl⟩ := k05_ask F (b := 2 + r1) (q := bo) (x := lo (r4 - bo) bo) (n := N) (by omega) (by omega) (by omega) (by omega) (lo_le_num (by omega) (by omega)) (by omega) (h := h5) (a2 := a2) (a4 := some (.int bo)) (a7 := a7) (a8 := a8) (a9 := a9) (a10 := a10)
  subst hz
  exact ⟨_, ⟨y2, y3, y4, y5, y6, y7, y8, y9, y10, e⟩, H5.app z⟩
theorem k05_plain (F : KT T G) (ns : List Int) : ∃ h', evSs ⟨callN T G whlC 39, whlC, G⟩ m_law05 ((List.replicate 11 none).set 1 (some (.ref 1))) [.lst (ns.map .int), .lst [.ref 0, .int 0, .int 0, .int 0]] = .rt (.bl true) h' := by
  have H0 : Hand [.lst (ns.map .int), .lst [.ref 0, .int 0, .int 0, .int 0]] 1 0 0 := ⟨by decide, ns, 0, 0, 0, rfl, rfl, by decide, by decide⟩
  obtain ⟨h1, y2, y3, y4, y5, y6, y7, y8, y9, y10, e1, H1⟩ := k05_turn F (n := 0) (by decide) H0 (a2 := some (.int 0)) (a3 := none) (a4 := none) (a5 := none) (a6 := none) (a7 := none) (a8 := none) (a9 := none) (a10 := none)
  obtain ⟨h2, z2, z3, z4, z5, z6, z7, z8, z9, z10, e2, H2⟩ := k05_turn F (n := 5) (by decide) H1 (a2 := some (.int 1)) (a3 := y3) (a4 := y4) (a5 := y5) (a6 := y6) (a7 := y7) (a8 := y8) (a9 := y9) (a10 := y10)
  have hr : range1 (.int 2) = some ⟨[.int 0, .int 1], [], none⟩ := by
    unfold range1
    simp only
    rw [if_pos (by decide)]
    rfl
  unfold m_law05
  rw [s_cons, for_src (s := ⟨[.int 0, .int 1], [], none⟩) (h' := [.lst (ns.map .int), .lst [.ref 0, .int 0, .int 0, .int 0]]) (by simp [hr]) rfl]
  refine ⟨h2, ?_⟩
  have r1 : ∀ ρ, (List.replicate 11 (none : Option D)).set 1 ρ = [none, ρ, none, none, none, none, none, none, none, none, none] := fun _ => rfl
  rw [r1]
  simp only [forL, okG, List.all_nil, if_true, bindT_nm, List.set, e1, e2, RS.seq_nx]
  rw [s_cons]
  simp
end
end Y

set_option linter.all false
set_option maxRecDepth 100000
set_option maxHeartbeats 1000000
/-! Fractions of great numbers. -/
namespace Y
open PySem (Str)

theorem log2_lt_of {n k : Nat} (h : n < 2 ^ k) (hk : 0 < k) : n.log2 < k := by
  by_cases e : n = 0
  · subst e; simpa using hk
  · exact (Nat.log2_lt e).mpr h
theorem mulOk_big {i j : Int} {a b : Nat} (hi : i.natAbs < 2 ^ a) (hj : j.natAbs < 2 ^ b) (ha : a ≤ 20000) (hb : b ≤ 20000) : mulOk i j = true := by
  have h1 : i.natAbs.log2 < 1000000 := Nat.lt_of_lt_of_le (log2_lt_of (Nat.lt_of_lt_of_le hi (Nat.pow_le_pow_right (by decide) (Nat.le_succ a))) (Nat.succ_pos a)) (by omega)
  have h2 : j.natAbs.log2 < 1000000 := Nat.lt_of_lt_of_le (log2_lt_of (Nat.lt_of_lt_of_le hj (Nat.pow_le_pow_right (by decide) (Nat.le_succ b))) (Nat.succ_pos b)) (by omega)
  unfold mulOk
  rw [decide_eq_true h1, decide_eq_true h2]
  rfl
theorem divOk_big {j : Int} {a : Nat} (h0 : 0 < j) (hj : j.natAbs < 2 ^ a) (ha : a < 9000) : divOk j = true := by
  have h1 : j.natAbs.log2 < 9000 := Nat.lt_of_lt_of_le (log2_lt_of (Nat.lt_of_lt_of_le hj (Nat.pow_le_pow_right (by decide) (Nat.le_succ a))) (Nat.succ_pos a)) (by omega)
  unfold divOk
  rw [decide_eq_true h1, decide_eq_true h0]
  rfl
theorem bmB {i j : Int} {h : Hp} {a b : Nat} (hi : i.natAbs < 2 ^ a) (hj : j.natAbs < 2 ^ b) (ha : a ≤ 20000) (hb : b ≤ 20000) : binop .mul (.int i) (.int j) h = .ok (.int (i * j)) h := by
  simp [binop, mulOk_big hi hj ha hb]
/-- bounded by bits, the bottom above 0 -/
def Bn (n : Nat) (p : Int × Int) : Prop := p.1.natAbs < 2 ^ n ∧ 0 < p.2 ∧ p.2.natAbs < 2 ^ n
theorem mul_bits {i j : Int} {a b : Nat} (hi : i.natAbs < 2 ^ a) (hj : j.natAbs < 2 ^ b) : (i * j).natAbs < 2 ^ (a + b) := by
  rw [Int.natAbs_mul, Nat.pow_add]
  exact Nat.mul_lt_mul_of_lt_of_le hi (Nat.le_of_lt hj) (Nat.pow_pos (by decide))
theorem bits_mono {i : Nat} {a b : Nat} (h : i < 2 ^ a) (hab : a ≤ b) : i < 2 ^ b := Nat.lt_of_lt_of_le h (Nat.pow_le_pow_right (by decide) hab)
theorem add_bits {i j : Int} {a : Nat} (hi : i.natAbs < 2 ^ a) (hj : j.natAbs < 2 ^ a) : (i + j).natAbs < 2 ^ (a + 1) := by
  rw [Nat.pow_succ]; omega
theorem Bn.mono {n m : Nat} {p : Int × Int} (h : Bn n p) (hm : n ≤ m) : Bn m p := ⟨bits_mono h.1 hm, h.2.1, bits_mono h.2.2 hm⟩
theorem gcd_okB {t b : Int} {a : Nat} (hb : 0 < b) (hl : b.natAbs < 2 ^ a) (ha : a < 9000) : divOk ((Nat.gcd t.natAbs b.natAbs : Nat) : Int) = true := by
  have h1 : 0 < Nat.gcd t.natAbs b.natAbs := Nat.gcd_pos_of_pos_right _ (by omega)
  have h2 : Nat.gcd t.natAbs b.natAbs ≤ b.natAbs := Nat.gcd_le_right _ (by omega)
  exact divOk_big (a := a) (by omega) (by rw [Int.natAbs_natCast]; omega) ha
theorem lo_bn {t b : Int} {n : Nat} (h : Bn n (t, b)) : Bn n (lo t b) := by
  obtain ⟨h1, h2, h3⟩ := h
  simp only at h1 h2 h3
  obtain ⟨l1, l2, l3⟩ := lo_le (t := t) h2
  exact ⟨by omega, l2, by omega⟩
theorem lo_mul {t b : Int} (h : 0 < b) : ∃ g : Int, 0 < g ∧ t = g * (lo t b).1 ∧ b = g * (lo t b).2 := by
  have g0 : 0 < Nat.gcd t.natAbs b.natAbs := Nat.gcd_pos_of_pos_right _ (by omega)
  have gd1 : ((Nat.gcd t.natAbs b.natAbs : Nat) : Int) ∣ t := Int.ofNat_dvd_left.mpr (Nat.gcd_dvd_left _ _)
  have gd2 : ((Nat.gcd t.natAbs b.natAbs : Nat) : Int) ∣ b := Int.ofNat_dvd_left.mpr (Nat.gcd_dvd_right _ _)
  exact ⟨_, by omega, (Int.mul_ediv_cancel' gd1).symm, (Int.mul_ediv_cancel' gd2).symm⟩
/-- coprime pairs of one worth are one -/
theorem cop_eq {a b c d : Int} (hb : 0 < b) (hd : 0 < d) (h1 : Nat.gcd a.natAbs b.natAbs = 1) (h2 : Nat.gcd c.natAbs d.natAbs = 1) (cross : a * d = c * b) : a = c ∧ b = d := by
  have cn : a.natAbs * d.natAbs = c.natAbs * b.natAbs := by rw [← Int.natAbs_mul, ← Int.natAbs_mul, cross]
  have v1 : b.natAbs ∣ d.natAbs := (Nat.Coprime.symm h1).dvd_of_dvd_mul_left ⟨c.natAbs, by rw [cn, Nat.mul_comm]⟩
  have v2 : d.natAbs ∣ b.natAbs := (Nat.Coprime.symm h2).dvd_of_dvd_mul_left ⟨a.natAbs, by rw [← cn, Nat.mul_comm]⟩
  have bd : b.natAbs = d.natAbs := Nat.dvd_antisymm v1 v2
  have bd' : b = d := by omega
  subst bd'
  exact ⟨Int.eq_of_mul_eq_mul_right (by omega) cross, rfl⟩
theorem lo_cop {t b : Int} (h : 0 < b) : 0 < (lo t b).2 ∧ Nat.gcd (lo t b).1.natAbs (lo t b).2.natAbs = 1 := ⟨(lo_le h).2.1, (lo_num h).1⟩
theorem lo_eq {t b t' b' : Int} (hb : 0 < b) (hb' : 0 < b') (e : t * b' = t' * b) : lo t b = lo t' b' := by
  obtain ⟨g, g0, h1, h2⟩ := lo_mul (t := t) hb
  obtain ⟨g', g0', h1', h2'⟩ := lo_mul (t := t') hb'
  obtain ⟨c1, c2⟩ := lo_cop (t := t) hb
  obtain ⟨c1', c2'⟩ := lo_cop (t := t') hb'
  generalize lo t b = p at *
  generalize lo t' b' = q at *
  obtain ⟨p1, p2⟩ := p
  obtain ⟨q1, q2⟩ := q
  simp only at *
  subst h1 h2 h1' h2'
  have : p1 * q2 = q1 * p2 := by
    have k : (g * g') * (p1 * q2) = (g * g') * (q1 * p2) := by grind
    exact Int.eq_of_mul_eq_mul_left (Int.ne_of_gt (Int.mul_pos g0 g0')) k
  obtain ⟨r1, r2⟩ := cop_eq c1 c1' c2 c2' this
  rw [r1, r2]
theorem lo_self {p : Int × Int} (h0 : 0 < p.2) (h1 : Nat.gcd p.1.natAbs p.2.natAbs = 1) : lo p.1 p.2 = p := by
  unfold lo
  rw [h1]
  simp
def ladd (p q : Int × Int) : Int × Int := lo (p.1 * q.2 + q.1 * p.2) (p.2 * q.2)
def lover (p q : Int × Int) : Int × Int := lo (p.1 * q.2) (p.2 * q.1)
theorem ladd_lo {a b c d : Int} (hb : 0 < b) (hd : 0 < d) : ladd (lo a b) (lo c d) = lo (a * d + c * b) (b * d) := by
  obtain ⟨g, g0, h1, h2⟩ := lo_mul (t := a) hb
  obtain ⟨g', g0', h1', h2'⟩ := lo_mul (t := c) hd
  have p0 := (lo_cop (t := a) hb).1
  have q0 := (lo_cop (t := c) hd).1
  unfold ladd
  generalize lo a b = p at *
  generalize lo c d = q at *
  obtain ⟨p1, p2⟩ := p
  obtain ⟨q1, q2⟩ := q
  simp only at *
  refine lo_eq (Int.mul_pos p0 q0) (Int.mul_pos hb hd) ?_
  subst h1 h2 h1' h2'
  grind
theorem lmin_lo {a b c d : Int} (hb : 0 < b) (hd : 0 < d) : lmin (lo a b) (lo c d) = lo (a * d - c * b) (b * d) := by
  obtain ⟨g, g0, h1, h2⟩ := lo_mul (t := a) hb
  obtain ⟨g', g0', h1', h2'⟩ := lo_mul (t := c) hd
  have p0 := (lo_cop (t := a) hb).1
  have q0 := (lo_cop (t := c) hd).1
  unfold lmin
  generalize lo a b = p at *
  generalize lo c d = q at *
  obtain ⟨p1, p2⟩ := p
  obtain ⟨q1, q2⟩ := q
  simp only at *
  refine lo_eq (Int.mul_pos p0 q0) (Int.mul_pos hb hd) ?_
  subst h1 h2 h1' h2'
  grind
theorem lmul_lo {a b c d : Int} (hb : 0 < b) (hd : 0 < d) : lmul (lo a b) (lo c d) = lo (a * c) (b * d) := by
  obtain ⟨g, g0, h1, h2⟩ := lo_mul (t := a) hb
  obtain ⟨g', g0', h1', h2'⟩ := lo_mul (t := c) hd
  have p0 := (lo_cop (t := a) hb).1
  have q0 := (lo_cop (t := c) hd).1
  unfold lmul
  generalize lo a b = p at *
  generalize lo c d = q at *
  obtain ⟨p1, p2⟩ := p
  obtain ⟨q1, q2⟩ := q
  simp only at *
  refine lo_eq (Int.mul_pos p0 q0) (Int.mul_pos hb hd) ?_
  subst h1 h2 h1' h2'
  grind
theorem lover_lo {a b c : Int} (hb : 0 < b) (hc : 0 < c) : lover (lo a b) (c, 1) = lo a (b * c) := by
  obtain ⟨g, g0, h1, h2⟩ := lo_mul (t := a) hb
  have p0 := (lo_cop (t := a) hb).1
  unfold lover
  generalize lo a b = p at *
  obtain ⟨p1, p2⟩ := p
  simp only at *
  refine lo_eq (Int.mul_pos p0 hc) (Int.mul_pos hb hc) ?_
  subst h1 h2
  grind
theorem lo_one (i : Int) : lo i 1 = (i, 1) := lo_self (p := (i, 1)) (by simp) (by simp)

def m_plus : List S := [
  .ret (.call "made" [.bin .add (.bin .mul (.idx (.v 0) (.c (.int 0))) (.idx (.v 1) (.c (.int 1)))) (.bin .mul (.idx (.v 1) (.c (.int 0))) (.idx (.v 0) (.c (.int 1)))), .bin .mul (.idx (.v 0) (.c (.int 1))) (.idx (.v 1) (.c (.int 1)))])]
def m_over : List S := [
  .iff (.tr (.cmp .lt (.idx (.v 1) (.c (.int 0))) (.c (.int 0)))) [
    .ret (.call "made" [.bin .mul (.neg (.idx (.v 0) (.c (.int 0)))) (.idx (.v 1) (.c (.int 1))), .bin .mul (.neg (.idx (.v 0) (.c (.int 1)))) (.idx (.v 1) (.c (.int 0)))])] [],
  .ret (.call "made" [.bin .mul (.idx (.v 0) (.c (.int 0))) (.idx (.v 1) (.c (.int 1))), .bin .mul (.idx (.v 0) (.c (.int 1))) (.idx (.v 1) (.c (.int 0)))])]
def m__law_plus : List S := [
  .ret (.call "_law_low" [.bin .add (.bin .mul (.idx (.v 0) (.c (.int 0))) (.idx (.v 1) (.c (.int 1)))) (.bin .mul (.idx (.v 1) (.c (.int 0))) (.idx (.v 0) (.c (.int 1)))), .bin .mul (.idx (.v 0) (.c (.int 1))) (.idx (.v 1) (.c (.int 1)))])]
def m__law_over : List S := [
  .ret (.call "_law_low" [.bin .mul (.idx (.v 0) (.c (.int 0))) (.idx (.v 1) (.c (.int 1))), .bin .mul (.idx (.v 0) (.c (.int 1))) (.idx (.v 1) (.c (.int 0)))])]
section
variable {T : Tbl} {G : String → Option D} {k : Nat} {h : Hp} {p q : Int × Int} {n m : Nat}
theorem s_madeB {t b : Int} {a : Nat} (F : FT T) (hb : 0 < b) (hl : b.natAbs < 2 ^ a) (ha : a < 9000) : callN T G whlC (k + 2) "made" [.int t, .int b] h = .ok (fr (lo t b)) h := by
  rw [call_fn F.made rfl]
  have e : (b : Int) = ((b.natAbs : Nat) : Int) := by omega
  have d := s_divisor (G := G) (k := k) (h := h) (a := t.natAbs) (b := b.natAbs) F.divisor
  rw [← e] at d
  simp [m_made, start, evSs, evS, evE, evEs, builtin, abs_eq, d, bindT, binop, gcd_okB hb hl ha, lo]
theorem s_lowB {t b : Int} {a : Nat} (ht : T "_law_low" = some (.fn 2 4 m__law_low)) (hb : 0 < b) (hl : b.natAbs < 2 ^ a) (ha : a < 9000) : callN T G whlC (k + 1) "_law_low" [.int t, .int b] h = .ok (fr (lo t b)) h := by
  rw [call_fn ht rfl]
  simp only [m__law_low, start, List.map, List.replicate]
  rw [evSs, evS]
  simp only [evE, evEs, builtin, abs_eq, Res.bind_ok, Res.into_ok]
  simp only [List.cons_append, List.nil_append, List.append_nil, List.getElem?_cons_zero, List.getElem?_cons_succ, Res.bind_ok, Res.into_ok, bindT, bindTs, items?, List.set, RS.seq_nx, builtin, abs_eq]
  rw [evSs, evS]
  dsimp only
  rw [w_gcd (fun x y => [some (.int t), some (.int b), some (.int x), some (.int y)]) (fun a b => by simp [evC, evE, compareR, compare, cmpI, truthR, truth]) (fun a b hb => by simp [evSs, evS, evE, evEs, bindT, bindTs, items?, binop, hb, builtin])]
  simp [evSs, evS, evE, evC, evEs, builtin, compareR, compare, cmpI, truthR, truth, hb, bindT, binop, gcd_okB hb hl ha, lo]
theorem s_plusB (F : FT T) (ht : T "plus" = some (.fn 2 2 m_plus)) (hp : Bn n p) (hq : Bn m q) (hn : n + m < 9000) : callN T G whlC (k + 3) "plus" [fr p, fr q] h = .ok (fr (ladd p q)) h := by
  obtain ⟨p1, p2, p3⟩ := hp
  obtain ⟨q1, q2, q3⟩ := hq
  have g := Int.mul_pos p2 q2
  rw [call_fn ht rfl]
  simp [m_plus, s_cons, start, bmB (h := h) p1 q3 (by omega) (by omega), bmB (h := h) q1 p3 (by omega) (by omega), bmB (h := h) p3 q3 (by omega) (by omega), s_madeB F g (mul_bits p3 q3) hn, ladd]
theorem s_minusB (F : FT T) (ht : T "minus" = some (.fn 2 2 m_minus)) (hp : Bn n p) (hq : Bn m q) (hn : n + m < 9000) : callN T G whlC (k + 3) "minus" [fr p, fr q] h = .ok (fr (lmin p q)) h := by
  obtain ⟨p1, p2, p3⟩ := hp
  obtain ⟨q1, q2, q3⟩ := hq
  have g := Int.mul_pos p2 q2
  rw [call_fn ht rfl]
  simp [m_minus, s_cons, start, bmB (h := h) p1 q3 (by omega) (by omega), bmB (h := h) q1 p3 (by omega) (by omega), bmB (h := h) p3 q3 (by omega) (by omega), s_madeB F g (mul_bits p3 q3) hn, lmin]
theorem s_mulB (F : FT T) (ht : T "mul" = some (.fn 2 2 m_mul)) (hp : Bn n p) (hq : Bn m q) (hn : n + m < 9000) : callN T G whlC (k + 3) "mul" [fr p, fr q] h = .ok (fr (lmul p q)) h := by
  obtain ⟨p1, p2, p3⟩ := hp
  obtain ⟨q1, q2, q3⟩ := hq
  have g := Int.mul_pos p2 q2
  rw [call_fn ht rfl]
  simp [m_mul, s_cons, start, bmB (h := h) p1 q1 (by omega) (by omega), bmB (h := h) p3 q3 (by omega) (by omega), s_madeB F g (mul_bits p3 q3) hn, lmul]
theorem s_overB (F : FT T) (ht : T "over" = some (.fn 2 2 m_over)) (hp : Bn n p) (hq : Bn m q) (hq1 : 0 < q.1) (hn : n + m < 9000) : callN T G whlC (k + 3) "over" [fr p, fr q] h = .ok (fr (lover p q)) h := by
  obtain ⟨p1, p2, p3⟩ := hp
  obtain ⟨q1, q2, q3⟩ := hq
  have g := Int.mul_pos p2 hq1
  have ng : ¬ q.1 < 0 := by omega
  rw [call_fn ht rfl]
  simp [m_over, s_cons, start, ng, bmB (h := h) p1 q3 (by omega) (by omega), bmB (h := h) p3 q1 (by omega) (by omega), s_madeB F g (mul_bits p3 q1) hn, lover]
theorem s_lplusB (h0 : T "_law_low" = some (.fn 2 4 m__law_low)) (ht : T "_law_plus" = some (.fn 2 2 m__law_plus)) (hp : Bn n p) (hq : Bn m q) (hn : n + m < 9000) : callN T G whlC (k + 2) "_law_plus" [fr p, fr q] h = .ok (fr (ladd p q)) h := by
  obtain ⟨p1, p2, p3⟩ := hp
  obtain ⟨q1, q2, q3⟩ := hq
  have g := Int.mul_pos p2 q2
  rw [call_fn ht rfl]
  simp [m__law_plus, s_cons, start, bmB (h := h) p1 q3 (by omega) (by omega), bmB (h := h) q1 p3 (by omega) (by omega), bmB (h := h) p3 q3 (by omega) (by omega), s_lowB h0 g (mul_bits p3 q3) hn, ladd]
theorem s_lminusB (h0 : T "_law_low" = some (.fn 2 4 m__law_low)) (ht : T "_law_minus" = some (.fn 2 2 m__law_minus)) (hp : Bn n p) (hq : Bn m q) (hn : n + m < 9000) : callN T G whlC (k + 2) "_law_minus" [fr p, fr q] h = .ok (fr (lmin p q)) h := by
  obtain ⟨p1, p2, p3⟩ := hp
  obtain ⟨q1, q2, q3⟩ := hq
  have g := Int.mul_pos p2 q2
  rw [call_fn ht rfl]
  simp [m__law_minus, s_cons, start, bmB (h := h) p1 q3 (by omega) (by omega), bmB (h := h) q1 p3 (by omega) (by omega), bmB (h := h) p3 q3 (by omega) (by omega), s_lowB h0 g (mul_bits p3 q3) hn, lmin]
theorem s_ltimesB (h0 : T "_law_low" = some (.fn 2 4 m__law_low)) (ht : T "_law_times" = some (.fn 2 2 m__law_times)) (hp : Bn n p) (hq : Bn m q) (hn : n + m < 9000) : callN T G whlC (k + 2) "_law_times" [fr p, fr q] h = .ok (fr (lmul p q)) h := by
  obtain ⟨p1, p2, p3⟩ := hp
  obtain ⟨q1, q2, q3⟩ := hq
  have g := Int.mul_pos p2 q2
  rw [call_fn ht rfl]
  simp [m__law_times, s_cons, start, bmB (h := h) p1 q1 (by omega) (by omega), bmB (h := h) p3 q3 (by omega) (by omega), s_lowB h0 g (mul_bits p3 q3) hn, lmul]
theorem s_loverB (h0 : T "_law_low" = some (.fn 2 4 m__law_low)) (ht : T "_law_over" = some (.fn 2 2 m__law_over)) (hp : Bn n p) (hq : Bn m q) (hq1 : 0 < q.1) (hn : n + m < 9000) : callN T G whlC (k + 2) "_law_over" [fr p, fr q] h = .ok (fr (lover p q)) h := by
  obtain ⟨p1, p2, p3⟩ := hp
  obtain ⟨q1, q2, q3⟩ := hq
  have g := Int.mul_pos p2 hq1
  rw [call_fn ht rfl]
  simp [m__law_over, s_cons, start, bmB (h := h) p1 q3 (by omega) (by omega), bmB (h := h) p3 q1 (by omega) (by omega), s_lowB h0 g (mul_bits p3 q1) hn, lover]
end
end Y

set_option linter.all false
set_option maxRecDepth 100000
set_option maxHeartbeats 1000000
/-! The worth of a row. -/
namespace Y
open PySem (Str)

@[simp] theorem s_aug (Z : Sg) (ρ : Env) (h : Hp) (i : Nat) (o : Op) (e : E) (x : Int) (hi : ρ[i]? = some (some (.int x))) : evS Z (.aug i o e) ρ h = (evE Z e ρ h).into ρ fun y h => (match y with
      | .int j => (match binop o (.int x) (.int j) h with
        | .ok d h => .nx (ρ.set i (some d)) h
        | _ => .bad)
      | _ => .bad) := by rw [evS, hi]; try rfl
/-- a for whose turns go from state to state -/
theorem forL_st {σ : Type} {t : Y.T} {g : List (Nat × Ob)} {body : Env → Hp → RS} {h : Hp} (hg : okG g h = true) (e : σ → Env) (step : σ → D → σ) (P : σ → List D → Prop)
    (each : ∀ s d ds, P s (d :: ds) → P (step s d) ds ∧ ∃ ρ', bindT t d (e s) h = some ρ' ∧ body ρ' h = .nx (e (step s d)) h) : ∀ ds s, P s ds → forL t g body ds (e s) h = .nx (e (ds.foldl step s)) h
  | [], s, _ => by rw [forL, if_pos hg]; rfl
  | d :: ds, s, p => by
    obtain ⟨p', ρ', h1, h2⟩ := each s d ds p
    rw [forL, if_pos hg]
    simp only [h1, h2]
    rw [forL_st hg e step P each ds _ p']
    rfl
def nmb (b : Int) (l : List Int) : Int := l.foldl (fun a d => a * b + d) 0
theorem nmb_snoc (b : Int) (l : List Int) (d : Int) : nmb b (l ++ [d]) = nmb b l * b + d := by simp [nmb]
theorem nmb_from (b : Int) : ∀ (l : List Int) (a : Int), l.foldl (fun a d => a * b + d) a = a * b ^ l.length + nmb b l
  | [], a => by simp [nmb]
  | d :: l, a => by
    have e1 := nmb_from b l (a * b + d)
    have e2 := nmb_from b l (0 * b + d)
    unfold nmb at e1 e2 ⊢
    rw [List.foldl_cons, List.foldl_cons, e1, e2, List.length_cons, Int.pow_succ]
    grind
theorem nmb_app (b : Int) (l m : List Int) : nmb b (l ++ m) = nmb b l * b ^ m.length + nmb b m := by
  show (l ++ m).foldl _ 0 = _
  rw [List.foldl_append]
  exact nmb_from b m _
theorem nmb_cons (b d : Int) (l : List Int) : nmb b (d :: l) = d * b ^ l.length + nmb b l := by
  show l.foldl _ (0 * b + d) = _
  rw [nmb_from]
  grind
theorem step_bits {a b d : Int} {s : Nat} {n : Nat} (b0 : 2 ≤ b) (b1 : b ≤ 5) (ha : a.natAbs < 2 ^ (s + 3 * n)) (hd : d.natAbs < 2 ^ s) : (a * b + d).natAbs < 2 ^ (s + 3 * (n + 1)) := by
  have e : 2 ^ (s + 3 * (n + 1)) = 2 ^ (s + 3 * n) * 8 := by
    rw [show s + 3 * (n + 1) = s + 3 * n + 3 by omega, Nat.pow_add]
  have e2 : 2 ^ s ≤ 2 ^ (s + 3 * n) := Nat.pow_le_pow_right (by decide) (by omega)
  have hb : b = 2 ∨ b = 3 ∨ b = 4 ∨ b = 5 := by omega
  rw [e]
  generalize 2 ^ (s + 3 * n) = X at *
  rcases hb with rfl | rfl | rfl | rfl <;> omega
theorem nmb_bits {b : Int} (b0 : 2 ≤ b) (b1 : b ≤ 5) {s : Nat} : ∀ (l m : List Int) (a : Int), a.natAbs < 2 ^ (s + 3 * m.length) → (∀ d ∈ l, d.natAbs < 2 ^ s) → (l.foldl (fun a d => a * b + d) a).natAbs < 2 ^ (s + 3 * (m.length + l.length))
  | [], m, a, ha, _ => ha
  | d :: l, m, a, ha, hl => by
    have := nmb_bits b0 b1 l (d :: m) (a * b + d) (step_bits b0 b1 ha (hl d (List.mem_cons_self ..))) fun x hx => hl x (List.mem_cons_of_mem _ hx)
    rw [List.foldl_cons]
    simp only [List.length_cons] at this ⊢
    rw [show m.length + (l.length + 1) = m.length + 1 + l.length by omega]
    exact this
theorem pow_bits {b : Int} (b0 : 2 ≤ b) (b1 : b ≤ 5) : ∀ n : Nat, 0 < b ^ n ∧ (b ^ n).natAbs < 2 ^ (3 * n + 1) ∧ (b ^ n).natAbs ≤ 2 ^ (3 * n)
  | 0 => by simp
  | n + 1 => by
    obtain ⟨h1, h2, h3⟩ := pow_bits b0 b1 n
    rw [Int.pow_succ]
    have e : 2 ^ (3 * (n + 1)) = 2 ^ (3 * n) * 8 := by
      rw [show 3 * (n + 1) = 3 * n + 3 by omega, Nat.pow_add]
    have e1 : 2 ^ (3 * (n + 1) + 1) = 2 ^ (3 * (n + 1)) * 2 := Nat.pow_succ ..
    have hb : b = 2 ∨ b = 3 ∨ b = 4 ∨ b = 5 := by omega
    rw [e1, e]
    have p : 0 < 2 ^ (3 * n) := Nat.pow_pos (by decide)
    generalize b ^ n = Y at *
    generalize 2 ^ (3 * n) = X at *
    rcases hb with rfl | rfl | rfl | rfl <;> omega
def m_power : List S := [
  .asg (.nm 2) (.c (.int 1)),
  .for_ (.nm 3) (.rng (.v 1)) [
    .aug 2 .mul (.v 0)],
  .ret (.v 2)]
def m_number_of : List S := [
  .asg (.nm 2) (.c (.int 0)),
  .for_ (.nm 3) (.var 1) [
    .asg (.nm 2) (.bin .add (.bin .mul (.v 2) (.v 0)) (.v 3))],
  .ret (.v 2)]
theorem range1_nat {n : Nat} (hn : n ≤ line) : range1 (.int n) = some ⟨irange 0 n, [], none⟩ := by
  unfold range1
  simp only
  rw [if_pos]
  · simp
  · have : line = 16777216 := rfl
    simp only [Bool.and_eq_true, decide_eq_true_eq]
    omega
theorem irange_len : ∀ (n : Nat) (lo : Int), (irange lo n).length = n
  | 0, _ => rfl
  | n + 1, lo => by rw [irange, List.length_cons, irange_len n]
section
variable {T : Tbl} {G : String → Option D} {W : Wh} {k : Nat} {h : Hp} {b : Int}
theorem s_power (ht : T "power" = some (.fn 2 4 m_power)) (b0 : 2 ≤ b) (b1 : b ≤ 5) {n : Nat} (hn : n ≤ 5000) : callN T G W (k + 1) "power" [.int b, .int n] h = .ok (.int (b ^ n)) h := by
  have hl : n ≤ line := by have : line = 16777216 := rfl; omega
  rw [call_fn ht rfl]
  simp only [m_power, start, List.map, List.replicate]
  rw [s_cons]
  simp
  rw [s_cons, for_src (s := ⟨irange 0 n, [], none⟩) (h' := h) (by simp [range1_nat hl]) rfl]
  generalize hB : (fun ρ h => evSs (⟨callN T G W k, W, G⟩ : Sg) [.aug 2 .mul (.v 0)] ρ h) = B
  have run := forL_st (σ := Nat × Option D) (t := .nm 3) (g := []) (body := B) (h := h) rfl (fun s => [some (.int b), some (.int n), some (.int (b ^ s.1)), s.2]) (fun s d => (s.1 + 1, some d)) (fun s ds => s.1 + ds.length = n) (fun s d ds hs => by
    simp only [List.length_cons] at hs
    refine ⟨by simp only; omega, _, rfl, ?_⟩
    rw [← hB]
    obtain ⟨_, w, _⟩ := pow_bits b0 b1 s.1
    have bm := bmB (h := h) w (show b.natAbs < 2 ^ 3 by omega) (by omega) (by omega)
    simp only [List.set]
    rw [s_cons, s_aug _ _ _ _ _ _ _ rfl]
    simp [bm, Int.pow_succ]) (irange 0 n) (0, none) (by simp [irange_len])
  have e2 : ∀ (ds : List D) (s : Nat × Option D), (ds.foldl (fun s d => (s.1 + 1, some d)) s).1 = s.1 + ds.length := by
    intro ds
    induction ds with
    | nil => intro s; rfl
    | cons d ds ih => intro s; rw [List.foldl_cons, ih]; simp; omega
  simp only [Int.pow_zero, List.cons_append, List.nil_append] at run ⊢
  rw [run]
  simp [s_cons, e2, irange_len]
theorem s_number_of (ht : T "number_of" = some (.fn 2 4 m_number_of)) (b0 : 2 ≤ b) (b1 : b ≤ 5) {s : Nat} {l : List Int} (hd : ∀ d ∈ l, d.natAbs < 2 ^ s) (hl : s + 3 * l.length ≤ 19000) : callN T G W (k + 1) "number_of" [.int b, .tup (l.map .int)] h = .ok (.int (nmb b l)) h := by
  rw [call_fn ht rfl]
  simp only [m_number_of, start, List.map, List.replicate]
  rw [s_cons]
  simp
  rw [s_cons, for_src (s := ⟨l.map .int, [], none⟩) (h' := h) (by rw [evI]; simp [srcOf, dict?, seqOf]) rfl]
  generalize hB : (fun ρ h => evSs (⟨callN T G W k, W, G⟩ : Sg) [.asg (.nm 2) (.bin .add (.bin .mul (.v 2) (.v 0)) (.v 3))] ρ h) = B
  have run : ∀ (r m : List Int) (a : Int) (x : Option D), m.length + r.length = l.length → (∀ d ∈ r, d.natAbs < 2 ^ s) → a.natAbs < 2 ^ (s + 3 * m.length) → ∃ y, forL (.nm 3) [] B (r.map .int) [some (.int b), some (.tup (l.map .int)), some (.int a), x] h = .nx [some (.int b), some (.tup (l.map .int)), some (.int (r.foldl (fun a d => a * b + d) a)), y] h := by
    intro r
    induction r with
    | nil => intro m a x _ _ _; exact ⟨x, by rw [List.map_nil, forL]; rfl⟩
    | cons d r ih =>
      intro m a x hm hr ha
      simp only [List.length_cons] at hm
      have hd' := hr d (List.mem_cons_self ..)
      obtain ⟨y, e⟩ := ih (d :: m) (a * b + d) (some (.int d)) (by simp; omega) (fun z hz => hr z (List.mem_cons_of_mem _ hz)) (step_bits b0 b1 ha hd')
      refine ⟨y, ?_⟩
      have bm := bmB (h := h) ha (show b.natAbs < 2 ^ 3 by omega) (by omega) (by omega)
      have e0 : B [some (.int b), some (.tup (l.map .int)), some (.int a), some (.int d)] h = .nx [some (.int b), some (.tup (l.map .int)), some (.int (a * b + d)), some (.int d)] h := by
        rw [← hB]
        simp [s_cons, bm]
      rw [List.map_cons, forL]
      simp only [okG, List.all_nil, if_true, bindT_nm, List.set, e0]
      exact e
  obtain ⟨y, e⟩ := run l [] 0 none (by simp) hd (Nat.pow_pos (by decide))
  simp only [List.cons_append, List.nil_append]
  rw [e]
  simp [s_cons, nmb]

/-! worth -/
def wth (b : Int) (A B : List Int) : Int × Int := lo (nmb b A * (b ^ B.length - 1) + nmb b B) ((b ^ B.length - 1) * b ^ A.length)
def m_worth_of : List S := [
  .asg (.tp [.nm 2, .nm 3]) (.v 1),
  .asg (.nm 4) (.call "made" [.call "number_of" [.v 0, .v 3], .bin .sub (.call "power" [.v 0, .bi .len [.v 3]]) (.c (.int 1))]),
  .ret (.call "over" [.call "plus" [.call "whole" [.call "number_of" [.v 0, .v 2]], .v 4], .call "whole" [.call "power" [.v 0, .bi .len [.v 2]]]])]
abbrev its (l : List Int) : D := .tup (l.map .int)
abbrev rowD (A B : List Int) : D := .tup [its A, its B]
structure WT (T : Tbl) : Prop extends FT T where
  whole : T "whole" = some (.fn 1 1 m_whole)
  plus : T "plus" = some (.fn 2 2 m_plus)
  over : T "over" = some (.fn 2 2 m_over)
  power : T "power" = some (.fn 2 4 m_power)
  number_of : T "number_of" = some (.fn 2 4 m_number_of)
  worth_of : T "worth_of" = some (.fn 2 5 m_worth_of)
theorem pow_gt {b : Int} (b0 : 2 ≤ b) : ∀ n : Nat, 0 < n → 2 ≤ b ^ n
  | 1, _ => by rw [Int.pow_one]; exact b0
  | n + 2, _ => by
    have := pow_gt b0 (n + 1) (by omega)
    rw [Int.pow_succ]
    have h2 : b ^ (n + 1) * 1 ≤ b ^ (n + 1) * b := Int.mul_le_mul_of_nonneg_left (by omega) (by omega)
    omega
theorem _root_.Int.natAbs_le_natAbs_of_pos {a b : Int} (h : 0 < a) (hb : a ≤ b) : a.natAbs ≤ b.natAbs := by omega
theorem s_over' {p q : Int × Int} {a c n m : Nat} (F : FT T) (ht : T "over" = some (.fn 2 2 m_over)) (p1 : p.1.natAbs < 2 ^ a) (p2 : 0 < p.2) (p3 : p.2.natAbs < 2 ^ n) (q1 : 0 < q.1) (q2 : q.1.natAbs < 2 ^ m) (q3 : q.2.natAbs < 2 ^ c) (hn : n + m < 9000) (ha : a ≤ 20000) (hc : c ≤ 20000) : callN T G whlC (k + 3) "over" [fr p, fr q] h = .ok (fr (lover p q)) h := by
  have g := Int.mul_pos p2 q1
  have ng : ¬ q.1 < 0 := by omega
  rw [call_fn ht rfl]
  simp [m_over, s_cons, start, ng, bmB (h := h) p1 q3 (by omega) (by omega), bmB (h := h) p3 q2 (by omega) (by omega), s_madeB F g (mul_bits p3 q2) hn, lover]
theorem s_worth_of (F : WT T) (b0 : 2 ≤ b) (b1 : b ≤ 5) {A B : List Int} {s : Nat} (hA : ∀ d ∈ A, d.natAbs < 2 ^ s) (hB : ∀ d ∈ B, d.natAbs < 2 ^ s) (hB0 : B ≠ []) (hl : s + 3 * (A.length + B.length) ≤ 4000 ∨ s ≤ 100 ∧ A.length + B.length ≤ 2005) :
    callN T G whlC (k + 4) "worth_of" [.int b, rowD A B] h = .ok (fr (wth b A B)) h := by
  have lA : s + 3 * A.length ≤ 8000 := by omega
  have lB : s + 3 * B.length ≤ 8000 := by omega
  have lAB : s + 3 * A.length + 3 * B.length ≤ 8000 := by omega
  have m0 : 0 < B.length := List.length_pos_iff.mpr hB0
  obtain ⟨pB0, pB1, pB2⟩ := pow_bits b0 b1 B.length
  obtain ⟨pA0, pA1, pA2⟩ := pow_bits b0 b1 A.length
  have pB := pow_gt b0 B.length m0
  have nA := nmb_bits b0 b1 A [] 0 (Nat.pow_pos (by decide)) hA
  have nB := nmb_bits b0 b1 B [] 0 (Nat.pow_pos (by decide)) hB
  simp only [List.length_nil, Nat.zero_add] at nA nB
  have e0 : 0 < b ^ B.length - 1 := by omega
  have e1 : (b ^ B.length - 1).natAbs < 2 ^ (3 * B.length + 1) := by omega
  have sA : callN T G whlC (k + 3) "number_of" [.int b, its A] h = .ok (.int (nmb b A)) h := s_number_of (k := k + 2) F.number_of b0 b1 hA (by omega)
  have sB : callN T G whlC (k + 3) "number_of" [.int b, its B] h = .ok (.int (nmb b B)) h := s_number_of (k := k + 2) F.number_of b0 b1 hB (by omega)
  have wA : callN T G whlC (k + 3) "power" [.int b, .int (A.length : Nat)] h = .ok (.int (b ^ A.length)) h := s_power (k := k + 2) F.power b0 b1 (by omega)
  have wB : callN T G whlC (k + 3) "power" [.int b, .int (B.length : Nat)] h = .ok (.int (b ^ B.length)) h := s_power (k := k + 2) F.power b0 b1 (by omega)
  have md : callN T G whlC (k + 3) "made" [.int (nmb b B), .int (b ^ B.length - 1)] h = .ok (fr (lo (nmb b B) (b ^ B.length - 1))) h := s_madeB (k := k + 1) F.toFT e0 e1 (by omega)
  have w1 : ∀ i : Int, callN T G whlC (k + 3) "whole" [.int i] h = .ok (fr (i, 1)) h := fun i => s_whole (k := k + 2) F.whole
  have bt : Bn (s + 3 * B.length + 1) (lo (nmb b B) (b ^ B.length - 1)) := lo_bn ⟨bits_mono nB (by omega), e0, bits_mono e1 (by omega)⟩
  have ba : Bn (s + 3 * A.length + 1) (nmb b A, 1) := ⟨bits_mono nA (by omega), by simp, by simp only; exact Nat.one_lt_two_pow (by omega)⟩
  have q0 := (lo_cop (t := nmb b B) e0).1
  have pl : callN T G whlC (k + 3) "plus" [fr (nmb b A, 1), fr (lo (nmb b B) (b ^ B.length - 1))] h = .ok (fr (ladd (nmb b A, 1) (lo (nmb b B) (b ^ B.length - 1)))) h := s_plusB (k := k) F.toFT F.plus ba bt (by omega)
  have ev : ladd (nmb b A, 1) (lo (nmb b B) (b ^ B.length - 1)) = lo (nmb b A * (b ^ B.length - 1) + nmb b B) (b ^ B.length - 1) := by
    rw [← lo_one (nmb b A), ladd_lo (by decide) e0]
    simp
  have bp : Bn (s + 3 * A.length + 3 * B.length + 2) (lo (nmb b A * (b ^ B.length - 1) + nmb b B) (b ^ B.length - 1)) := lo_bn ⟨by
    have h1 := mul_bits nA e1
    have h2 := bits_mono nB (show s + 3 * B.length ≤ s + 3 * A.length + (3 * B.length + 1) by omega)
    have := add_bits h1 h2
    exact bits_mono this (by omega), e0, bits_mono e1 (by omega)⟩
  have bo : Bn (3 * A.length + 1) (b ^ A.length, 1) := ⟨pA1, by simp, by simp only; exact Nat.one_lt_two_pow (by omega)⟩
  rw [ev] at pl
  have ov : callN T G whlC (k + 3) "over" [fr (lo (nmb b A * (b ^ B.length - 1) + nmb b B) (b ^ B.length - 1)), fr (b ^ A.length, 1)] h = .ok (fr (wth b A B)) h := by
    rw [s_over' (k := k) F.toFT F.over bp.1 bp.2.1 (bits_mono (Nat.lt_of_le_of_lt (Int.natAbs_le_natAbs_of_pos bp.2.1 (lo_le e0).2.2) e1) (Nat.le_refl _)) pA0 pA1 (by simp only; exact Nat.one_lt_two_pow (n := 1) (by omega)) (by omega) (by omega) (by omega), lover_lo e0 pA0]
    rfl
  rw [call_fn F.worth_of rfl]
  have ln : ∀ l : List Int, builtin .len [its l] h = .ok (.int (l.length : Nat)) h := fun l => by simp [builtin, lenOf]
  simp only [m_worth_of, start, List.map, List.replicate]
  rw [s_cons]
  simp
  rw [s_cons]
  simp [sB, ln, wB, md]
  rw [s_cons]
  simp [sA, ln, wA, w1, pl, ov]
end
end Y

set_option linter.all false
set_option maxRecDepth 100000
set_option maxHeartbeats 1000000
/-! Neat rows. -/
namespace Y
open PySem (Str)

@[simp] theorem r_slc (Z : Sg) (ρ : Env) (h : Hp) (a : E) (lo hi : Option E) : evE Z (.slc a lo hi) ρ h = (evE Z a ρ h).bind fun x h => (evO Z lo ρ h).bind fun l h => (evO Z hi ρ h).bind fun u h => slice x l u h := by rw [evE]
@[simp] theorem r_o0 (Z : Sg) (ρ : Env) (h : Hp) : evO Z none ρ h = .ok none h := by rw [evO]
@[simp] theorem r_o1 (Z : Sg) (ρ : Env) (h : Hp) (e : E) : evO Z (some e) ρ h = (evE Z e ρ h).bind fun x h => (match intO x with | some i => .ok (some i) h | none => .bad) := by rw [evO]; try rfl
@[simp] theorem intO_int (i : Int) : intO (.int i) = some i := rfl
@[simp] theorem slice_its (l : List Int) (lo hi : Option Int) (h : Hp) : slice (its l) lo hi h = .ok (its (cut l lo hi)) h := by
  simp [slice, cut, its, List.map_take, List.map_drop]
@[simp] theorem len_its (l : List Int) (h : Hp) : builtin .len [its l] h = .ok (.int (l.length : Nat)) h := by simp [builtin, lenOf]
@[simp] theorem add_its (l m : List Int) (h : Hp) (hl : l.length + m.length ≤ line) : binop .add (its l) (its m) h = .ok (its (l ++ m)) h := by
  simp [binop, its, hl]
theorem pureL_its : ∀ l : List Int, D.pureL (l.map D.int) = true
  | [] => rfl
  | _ :: l => by rw [List.map_cons, D.pureL, pureL_its l]; rfl
theorem depthL_its : ∀ l : List Int, D.depthL (l.map D.int) = 0
  | [] => rfl
  | _ :: l => by rw [List.map_cons, D.depthL, depthL_its l]; rfl
theorem eqvL_its : ∀ l m : List Int, D.eqvL (l.map D.int) (m.map D.int) = decide (l = m)
  | [], [] => by simp [D.eqvL]
  | [], _ :: _ => by simp [D.eqvL]
  | _ :: _, [] => by simp [D.eqvL]
  | a :: l, b :: m => by
    rw [List.map_cons, List.map_cons, D.eqvL, eqvL_its l m, D.eqv]
    by_cases h1 : a = b <;> by_cases h2 : l = m <;> simp [h1, h2]
@[simp] theorem eq_its (l m : List Int) (h : Hp) : compareR .eq (its l) (its m) h = .ok (.bl (decide (l = m))) h := by
  simp [compareR, compare, eq?, its, D.pure, pureL_its, D.depth, depthL_its, D.eqv, eqvL_its]
theorem cut_take {l : List Int} {s : Nat} (hs : s ≤ l.length) : cut l none (some (s : Int)) = l.take s := by
  have e : ¬ ((s : Int) < 0) := by omega
  simp [cut, bound, e, hs]
theorem cut_init {l : List Int} (hl : l ≠ []) : cut l none (some (-1)) = l.dropLast := by
  have : 0 < l.length := List.length_pos_iff.mpr hl
  rw [List.dropLast_eq_take]
  simp [cut, bound]
  congr 1
  omega
theorem cut_end (l : List Int) (c : Int) : cut (l ++ [c]) (some (-1)) none = [c] := by
  have b1 : bound (l ++ [c]).length 0 (some (-1)) = l.length := by simp [bound]; omega
  unfold cut
  rw [b1]
  simp [bound]
theorem ix_last (l : List Int) (c : Int) (h : Hp) : index (its (l ++ [c])) (.int (-1)) h = .ok (.int c) h := by
  have e : place ((l ++ [c]).map D.int).length (-1) = some l.length := by
    unfold place
    rw [if_neg (by decide), if_pos (by simp; omega)]
    simp
    omega
  show ofO ((place ((l ++ [c]).map D.int).length (-1)).bind fun j => ((l ++ [c]).map D.int)[j]?) h = _
  rw [e]
  simp
/-- s goes into B evenly -/
def perOk (B : List Int) (s : Nat) : Bool := decide (B.length % s = 0) && decide (B = (List.replicate (B.length / s) (B.take s)).flatten)
def shp (B : List Int) (s : Nat) : Nat → List Int
  | 0 => B
  | n + 1 => if perOk B s then B.take s else shp B (s + 1) n
/-- the round turned back -/
def rot : List Int → List Int → List Int × List Int
  | [], B => ([], B)
  | a :: r, B => if B.getLast? = some a then rot r (a :: B.dropLast) else ((a :: r).reverse, B)
def neat (A B : List Int) : List Int × List Int := rot A.reverse (shp B 1 (B.length - 1))
def m_neat_of : List S := [
  .asg (.tp [.nm 1, .nm 2]) (.v 0),
  .asg (.nm 3) (.bi .len [.v 2]),
  .for_ (.nm 4) (.rng2 (.c (.int 1)) (.v 3)) [
    .iff (.and (.tr (.cmp .eq (.bin .mod (.v 3) (.v 4)) (.c (.int 0)))) (.tr (.cmp .eq (.v 2) (.bin .mul (.slc (.v 2) none (some (.v 4))) (.bin .fdiv (.v 3) (.v 4)))))) [
      .asg (.nm 2) (.slc (.v 2) none (some (.v 4))),
      .brk] []],
  .whl (.and (.tr (.cmp .gt (.bi .len [.v 1]) (.c (.int 0)))) (.tr (.cmp .eq (.idx (.v 1) (.neg (.c (.int 1)))) (.idx (.v 2) (.neg (.c (.int 1))))))) [
    .asg (.tp [.nm 1, .nm 2]) (.tup [.slc (.v 1) none (some (.neg (.c (.int 1)))), .bin .add (.slc (.v 2) (some (.neg (.c (.int 1)))) none) (.slc (.v 2) none (some (.neg (.c (.int 1)))))])],
  .ret (.tup [.v 1, .v 2])]
@[simp] theorem s_brk (Z : Sg) (ρ : Env) (h : Hp) : evS Z .brk ρ h = .bk ρ h := by rw [evS]
@[simp] theorem s_cnt (Z : Sg) (ρ : Env) (h : Hp) : evS Z .cnt ρ h = .ct ρ h := by rw [evS]
theorem range2_nat {a n : Nat} (ha : a ≤ 100) (hn : n ≤ 1000000) : range2 (.int a) (.int n) = some ⟨irange a (n - a), [], none⟩ := by
  unfold range2
  simp only
  rw [if_pos]
  · rw [show ((n : Int) - (a : Int)).toNat = n - a by omega]
  · have : line = 16777216 := rfl
    simp only [Bool.and_eq_true, decide_eq_true_eq]
    omega
/-! values without objects -/
mutual
theorem news_pure (n : Nat) : ∀ (d : D), d.pure = true → ∀ acc, news n d acc = acc ∧ ren n [] d = d
  | .tup ds, hd, acc => by
    obtain ⟨h1, h2⟩ := newsL_pure n ds hd acc
    exact ⟨by rw [news, h1], by rw [ren, h2]⟩
  | .non, _, _ => ⟨rfl, rfl⟩
  | .bl _, _, _ => ⟨rfl, rfl⟩
  | .int _, _, _ => ⟨rfl, rfl⟩
  | .str _, _, _ => ⟨rfl, rfl⟩
  | .ref _, hd, _ => by simp [D.pure] at hd
  | .gl _, hd, _ => by simp [D.pure] at hd
  | .ty _, hd, _ => by simp [D.pure] at hd
theorem newsL_pure (n : Nat) : ∀ (ds : List D), D.pureL ds = true → ∀ acc, newsL n ds acc = acc ∧ renL n [] ds = ds
  | [], _, _ => ⟨rfl, rfl⟩
  | d :: ds, hd, acc => by
    rw [D.pureL, Bool.and_eq_true] at hd
    obtain ⟨h1, h2⟩ := news_pure n d hd.1 acc
    obtain ⟨h3, h4⟩ := newsL_pure n ds hd.2 acc
    exact ⟨by rw [newsL, h1, h3], by rw [renL, h2, h4]⟩
end
theorem fin_pure {h x : Hp} {d : D} (hd : d.pure = true) : fin h (.rt d (h ++ x)) = .ok d h := by
  obtain ⟨h1, h2⟩ := news_pure h.length d hd []
  show left h d (h ++ x) = _
  unfold left
  simp [h1, h2, elder_app]
theorem fin_pure0 {h : Hp} {d : D} (hd : d.pure = true) : fin h (.rt d h) = .ok d h := by
  have := fin_pure (h := h) (x := []) hd
  simpa using this
theorem pure_its (l : List Int) : (its l).pure = true := pureL_its l
theorem pure_row (A B : List Int) : (rowD A B).pure = true := by simp [rowD, D.pure, D.pureL, pureL_its]
section
variable {T : Tbl} {G : String → Option D} {W : Wh} {k : Nat} {h : Hp} {b : Int}
theorem s_neat_of (ht : T "neat_of" = some (.fn 1 5 m_neat_of)) {A B : List Int} (hB0 : B ≠ []) (hB : B.length ≤ 1000) : callN T G whlC (k + 1) "neat_of" [rowD A B] h = .ok (rowD (neat A B).1 (neat A B).2) h := by
  have m0 : 0 < B.length := List.length_pos_iff.mpr hB0
  rw [call_fn ht rfl]
  simp only [m_neat_of, start, List.map, List.replicate]
  rw [s_cons]
  simp
  rw [s_cons]
  simp
  rw [s_cons, for_src (s := ⟨irange (1 : Nat) (B.length - 1), [], none⟩) (h' := h) (by simp; rw [show (1 : Int) = ((1 : Nat) : Int) from rfl, range2_nat (by omega) (by omega)]; rfl) rfl]
  generalize hBd : (fun ρ h => evSs (⟨callN T G whlC k, whlC, G⟩ : Sg) [.iff (.and (.tr (.cmp .eq (.bin .mod (.v 3) (.v 4)) (.c (.int 0)))) (.tr (.cmp .eq (.v 2) (.bin .mul (.slc (.v 2) none (some (.v 4))) (.bin .fdiv (.v 3) (.v 4)))))) [
      .asg (.nm 2) (.slc (.v 2) none (some (.v 4))),
      .brk] []] ρ h) = Bd
  have run : ∀ (n s : Nat) (x : Option D), 1 ≤ s → s + n = B.length → ∃ y, forL (.nm 4) [] Bd (irange (s : Int) n) [some (rowD A B), some (its A), some (its B), some (.int B.length), x] h = .nx [some (rowD A B), some (its A), some (its (shp B s n)), some (.int B.length), y] h := by
    intro n
    induction n with
    | zero => intro s x _ _; exact ⟨x, by rw [irange, forL]; rfl⟩
    | succ n ih =>
      intro s x hs hn
      have sp : (0 : Int) < s := by omega
      have e0 : Bd [some (rowD A B), some (its A), some (its B), some (.int B.length), some (.int s)] h = if perOk B s then .bk [some (rowD A B), some (its A), some (its (B.take s)), some (.int B.length), some (.int s)] h else .nx [some (rowD A B), some (its A), some (its B), some (.int B.length), some (.int s)] h := by
        rw [← hBd]
        by_cases q : B.length % s = 0
        · have dv : (B.length : Int) / s = ((B.length / s : Nat) : Int) := (Int.natCast_ediv _ _).symm
          have qi : (B.length : Int) % s = 0 := by rw [← Int.natCast_emod, q]; rfl
          have g1 : B.length / s * s = B.length := Nat.div_mul_cancel (Nat.dvd_of_mod_eq_zero q)
          have g2 : 2 ≤ B.length / s := by
            rcases Nat.lt_or_ge (B.length / s) 2 with z | z
            · have : B.length / s * s ≤ 1 * s := Nat.mul_le_mul_right _ (by omega)
              rw [g1] at this
              omega
            · exact z
          have g3 : B.length / s ≤ B.length := Nat.div_le_self _ _
          have ml : binop .mul (its (B.take s)) (.int ((B.length : Int) / s)) h = .ok (its (List.replicate (B.length / s) (B.take s)).flatten) h := by
            rw [dv]
            have c1 : ¬ (B.take s = []) := by
              intro z
              have := congrArg List.length z
              rw [List.length_take, List.length_nil] at this
              omega
            have c2 : (List.map D.int (B.take s)) ≠ [] := by simpa using c1
            have c3 : (List.map D.int (B.take s)).length ≤ 1000 := by rw [List.length_map, List.length_take]; omega
            have c4 : (2 : Int) ≤ ((B.length / s : Nat) : Int) := by omega
            have c5 : ((B.length / s : Nat) : Int) ≤ 1000 := by omega
            show (if (decide (List.map D.int (B.take s) ≠ []) && decide ((2 : Int) ≤ ((B.length / s : Nat) : Int)) && decide (((B.length / s : Nat) : Int) ≤ 1000) && decide ((List.map D.int (B.take s)).length ≤ 1000)) = true then Res.ok (D.tup (rep (List.map D.int (B.take s)) ((B.length / s : Nat) : Int))) h else Res.bad) = _
            rw [if_pos (by simp only [Bool.and_eq_true, decide_eq_true_eq]; exact ⟨⟨⟨c2, c4⟩, c5⟩, c3⟩)]
            show Res.ok (D.tup (List.replicate _ _).flatten) h = _
            rw [Int.toNat_natCast, its, List.map_flatten, List.map_replicate]
          simp [s_cons, bind_mod sp, qi, cut_take (show s ≤ B.length by omega), bind_fdiv sp (show ((s : Int)).natAbs < 2 ^ 64 by omega), ml]
          by_cases z : B = (List.replicate (B.length / s) (B.take s)).flatten
          · have po : perOk B s = true := by unfold perOk; rw [decide_eq_true q, decide_eq_true z]; rfl
            rw [po, if_pos z]; simp
          · have po : perOk B s = false := by unfold perOk; rw [decide_eq_false z, Bool.and_false]
            rw [po, if_neg z]; simp
        · have po : perOk B s = false := by simp [perOk, q]
          have q' : ¬ ((B.length : Int) % s = 0) := by rw [← Int.natCast_emod]; omega
          simp [s_cons, bind_mod sp, q', po]
      rw [irange, forL]
      simp only [okG, List.all_nil, if_true, bindT_nm, List.set, e0]
      rw [shp]
      by_cases po : perOk B s = true
      · rw [if_pos po, if_pos po]; exact ⟨_, rfl⟩
      · rw [if_neg po, if_neg po]
        obtain ⟨y, e⟩ := ih (s + 1) (some (.int s)) (by omega) (by omega)
        exact ⟨y, by simpa using e⟩
  obtain ⟨y, e⟩ := run (B.length - 1) 1 none (by omega) (by omega)
  simp only [List.cons_append, List.nil_append]
  rw [e]
  simp only [RS.seq_nx]
  have shp0 : ∀ (n s : Nat), 1 ≤ s → s + n = B.length → (shp B s n) ≠ [] ∧ (shp B s n).length ≤ B.length := by
    intro n
    induction n with
    | zero => intro s _ _; exact ⟨hB0, Nat.le_refl _⟩
    | succ n ih =>
      intro s hs hn
      rw [shp]
      split
      · refine ⟨?_, by rw [List.length_take]; omega⟩
        intro z
        have := congrArg List.length z
        rw [List.length_take, List.length_nil] at this
        omega
      · exact ih (s + 1) (by omega) (by omega)
  obtain ⟨c1, c2⟩ := shp0 (B.length - 1) 1 (by omega) (by omega)
  unfold neat
  generalize shp B 1 (B.length - 1) = C at *
  rw [s_cons, s_whl]
  generalize hT : (fun ρ h => evC (⟨callN T G whlC k, whlC, G⟩ : Sg) (.and (.tr (.cmp .gt (.bi .len [.v 1]) (.c (.int 0)))) (.tr (.cmp .eq (.idx (.v 1) (.neg (.c (.int 1)))) (.idx (.v 2) (.neg (.c (.int 1))))))) ρ h) = Tt
  generalize hU : (fun ρ h => evSs (⟨callN T G whlC k, whlC, G⟩ : Sg) [.asg (.tp [.nm 1, .nm 2]) (.tup [.slc (.v 1) none (some (.neg (.c (.int 1)))), .bin .add (.slc (.v 2) (some (.neg (.c (.int 1)))) none) (.slc (.v 2) none (some (.neg (.c (.int 1)))))])] ρ h) = U
  have turn : ∀ (r C : List Int), C ≠ [] → C.length ≤ 1000 → whlC Tt U [some (rowD A B), some (its r.reverse), some (its C), some (.int B.length), y] h = .nx [some (rowD A B), some (its (rot r C).1), some (its (rot r C).2), some (.int B.length), y] h := by
    intro r
    induction r with
    | nil =>
      intro C _ _
      rw [whlC_turn, ← hT]
      simp [rot]
    | cons a r ih =>
      intro C hC hl
      obtain ⟨C', c, rfl⟩ : ∃ C' c, C = C' ++ [c] := ⟨C.dropLast, C.getLast hC, (List.dropLast_concat_getLast hC).symm⟩
      have e1 : (a :: r).reverse = r.reverse ++ [a] := by simp
      have tt : Tt [some (rowD A B), some (its (r.reverse ++ [a])), some (its (C' ++ [c])), some (.int B.length), y] h = .ok (decide (a = c)) h := by
        rw [← hT]
        have p : (0 : Int) < (r.length : Int) + 1 := by omega
        simp [ix_last, p]
      rw [whlC_turn, e1, tt]
      by_cases q : a = c
      · subst q
        have lc : [a].length + C'.length ≤ line := by
          have : line = 16777216 := rfl
          simp at hl ⊢
          omega
        have bd : U [some (rowD A B), some (its (r.reverse ++ [a])), some (its (C' ++ [a])), some (.int B.length), y] h = .nx [some (rowD A B), some (its r.reverse), some (its (a :: C')), some (.int B.length), y] h := by
          rw [← hU]
          have ad : binop .add (its [a]) (its C') h = .ok (its (a :: C')) h := add_its [a] C' h lc
          simp [s_cons, cut_end, cut_init, ad]
        simp only [decide_true, bd]
        rw [ih (a :: C') (by simp) (by simp at hl ⊢; omega)]
        simp [rot]
      · have : ¬ (some c = some a) := by simp; exact fun z => q z.symm
        simp [q, rot, this]
  have := turn A.reverse C c1 (by omega)
  rw [List.reverse_reverse] at this
  dsimp only
  rw [this]
  simp [s_cons]
  exact fin_pure0 (pure_row _ _)
end
end Y

set_option linter.all false
set_option maxRecDepth 100000
set_option maxHeartbeats 1000000
/-! The law's own neat rows. -/
namespace Y
open PySem (Str)

abbrev lsi (l : List Int) : Ob := .lst (l.map .int)
theorem cutMap (l : List Int) (lo hi : Option Int) : cut (l.map D.int) lo hi = (cut l lo hi).map D.int := by simp [cut, List.map_take, List.map_drop]
section
variable {h : Hp} {q : Nat} {l : List Int}
theorem slice_lsi (hq : h[q]? = some (lsi l)) (lo hi : Option Int) : slice (.ref q) lo hi h = .ok (.ref h.length) (h ++ [lsi (cut l lo hi)]) := by
  simp only [slice, hq, new, cutMap]
theorem len_lsi (hq : h[q]? = some (lsi l)) : builtin .len [.ref q] h = .ok (.int (l.length : Nat)) h := by simp [builtin, lenOf, hq]
theorem ix_lsi (hq : h[q]? = some (lsi l)) {i : Nat} (hi : i < l.length) : index (.ref q) (.int (i : Nat)) h = .ok (.int l[i]) h := by
  have e : place (l.map D.int).length (i : Int) = some i := by
    unfold place
    rw [if_pos (by omega), List.length_map, if_pos (by omega)]
    simp
  simp only [index, hq, item, e, Option.bind_some, List.getElem?_map]
  rw [List.getElem?_eq_getElem hi]
  rfl
theorem ixl_lsi {c : Int} (hq : h[q]? = some (lsi (l ++ [c]))) : index (.ref q) (.int (-1)) h = .ok (.int c) h := by
  have e : place ((l ++ [c]).map D.int).length (-1) = some l.length := by
    unfold place
    rw [if_neg (by decide), if_pos (by simp; omega)]
    simp
    omega
  simp only [index, hq, item, e, Option.bind_some]
  simp
theorem tup_lsi (hq : h[q]? = some (lsi l)) : builtin .tup [.ref q] h = .ok (its l) h := by simp [builtin, items?, hq]
theorem list_its : builtin .list [its l] h = .ok (.ref h.length) (h ++ [lsi l]) := by simp [builtin, items?, new]
theorem pop_lsi {c : Int} (hq : h[q]? = some (lsi (l ++ [c]))) : lstM q ((l ++ [c]).map D.int) .pop [] h = .ok (.int c) (h.set q (lsi l)) := by
  have e : ((l ++ [c]).map D.int)[((l ++ [c]).map D.int).length - 1]? = some (.int c) := by simp
  have e2 : ((l ++ [c]).map D.int).dropLast = l.map D.int := by simp
  simp only [lstM, e, e2]
end
theorem blsOf_map : ∀ l : List Bool, blsOf (l.map D.bl) = some l
  | [] => rfl
  | b :: l => by rw [List.map_cons, blsOf, blsOf_map l]; rfl
theorem all_bls {h : Hp} {q : Nat} {l : List Bool} (hq : h[q]? = some (.lst (l.map .bl))) : builtin .all [.ref q] h = .ok (.bl (l.all id)) h := by
  simp [builtin, list?, hq, blsOf_map]
def nlist (lo : Nat) : Nat → List Nat
  | 0 => []
  | n + 1 => lo :: nlist (lo + 1) n
theorem irange_nat : ∀ (n lo : Nat), irange (lo : Int) n = (nlist lo n).map fun i => D.int (i : Nat)
  | 0, _ => rfl
  | n + 1, lo => by
    have := irange_nat n (lo + 1)
    rw [irange, nlist, List.map_cons, ← this]
    rfl
theorem mem_nlist : ∀ {n lo x : Nat}, x ∈ nlist lo n ↔ lo ≤ x ∧ x < lo + n
  | 0, lo, x => by simp [nlist]; try omega
  | n + 1, lo, x => by rw [nlist, List.mem_cons, mem_nlist]; omega
theorem flat_get {L : List Int} {s : Nat} (hs : 0 < s) (hL : L.length = s) : ∀ (k i : Nat), i < k * s → ((List.replicate k L).flatten)[i]? = L[i % s]?
  | 0, i, hi => by omega
  | k + 1, i, hi => by
    rw [List.replicate_succ, List.flatten_cons]
    by_cases q : i < s
    · rw [List.getElem?_append_left (by omega), Nat.mod_eq_of_lt q]
    · rw [List.getElem?_append_right (by omega), flat_get hs hL k (i - L.length) (by rw [Nat.succ_mul] at hi; omega), hL]
      congr 1
      rw [← Nat.mod_eq_sub_mod (by omega)]
theorem perOk_iff {B : List Int} {s : Nat} (hs : 0 < s) (hB : B ≠ []) : perOk B s = true ↔ B.length % s = 0 ∧ ∀ i, i < B.length → B[i]? = B[i % s]? := by
  have m0 : 0 < B.length := List.length_pos_iff.mpr hB
  unfold perOk
  rw [Bool.and_eq_true, decide_eq_true_eq, decide_eq_true_eq]
  refine and_congr_right fun q => ?_
  have g1 : B.length / s * s = B.length := Nat.div_mul_cancel (Nat.dvd_of_mod_eq_zero q)
  have sl : s ≤ B.length := Nat.le_of_dvd m0 (Nat.dvd_of_mod_eq_zero q)
  have lt : (B.take s).length = s := by rw [List.length_take]; omega
  have tk : ∀ i, (B.take s)[i % s]? = B[i % s]? := fun i => by rw [List.getElem?_take_of_lt (Nat.mod_lt _ hs)]
  constructor
  · intro z i hi
    conv => lhs; rw [z]
    rw [flat_get hs lt _ i (by omega), tk]
  · intro z
    apply List.ext_getElem?
    intro i
    by_cases hi : i < B.length
    · rw [flat_get hs lt _ i (by omega), tk, z i hi]
    · have e2 : (List.replicate (B.length / s) (B.take s)).flatten.length = B.length := by simp [lt, g1]
      rw [List.getElem?_eq_none (by omega), List.getElem?_eq_none (by omega)]
def m__law_neat : List S := [
  .asg (.tp [.nm 1, .nm 2]) (.tup [.bi .list [.idx (.v 0) (.c (.int 0))], .bi .list [.idx (.v 0) (.c (.int 1))]]),
  .for_ (.nm 3) (.rng2 (.c (.int 1)) (.bi .len [.v 2])) [
    .iff (.and (.tr (.cmp .eq (.bin .mod (.bi .int [.bi .len [.v 2]]) (.v 3)) (.c (.int 0)))) (.tr (.bi .all [.lc (.cmp .eq (.idx (.v 2) (.v 4)) (.idx (.v 2) (.bin .mod (.bi .int [.v 4]) (.v 3)))) (.nm 4) (.rng (.bi .len [.v 2])) []]))) [
      .asg (.nm 2) (.slc (.v 2) none (some (.v 3))),
      .brk] []],
  .whl (.and (.tr (.cmp .gt (.bi .len [.v 1]) (.c (.int 0)))) (.tr (.cmp .eq (.idx (.v 1) (.neg (.c (.int 1)))) (.idx (.v 2) (.neg (.c (.int 1))))))) [
    .asg (.nm 2) (.bin .add (.lst [.mt (.v 1) .pop []]) (.slc (.v 2) none (some (.neg (.c (.int 1))))))],
  .ret (.tup [.bi .tup [.v 1], .bi .tup [.v 2]])]
theorem get_right {h J : Hp} {i : Nat} : (h ++ J)[h.length + i]? = J[i]? := by rw [List.getElem?_append_right (by omega), Nat.add_sub_cancel_left]
section
variable {T : Tbl} {G : String → Option D} {W : Wh} {k : Nat} {h : Hp} {b : Int}
theorem s_lneat (ht : T "_law_neat" = some (.fn 1 5 m__law_neat)) {A B : List Int} (hB0 : B ≠ []) (hB : B.length ≤ 100000) : callN T G whlC (k + 1) "_law_neat" [rowD A B] h = .ok (rowD (neat A B).1 (neat A B).2) h := by
  have m0 : 0 < B.length := List.length_pos_iff.mpr hB0
  rw [call_fn ht rfl]
  simp only [m__law_neat, start, List.map, List.replicate]
  rw [s_cons]
  simp [list_its]
  rw [s_cons]
  have q0 : ∀ J : Hp, (h ++ ([lsi A, lsi B] ++ J))[h.length + 1]? = some (lsi B) := fun J => get_right
  have p0 : ∀ J : Hp, (h ++ ([lsi A, lsi B] ++ J))[h.length]? = some (lsi A) := fun J => get_right (i := 0)
  have l0 : ∀ J : Hp, builtin .len [.ref (h.length + 1)] (h ++ ([lsi A, lsi B] ++ J)) = .ok (.int (B.length : Nat)) (h ++ ([lsi A, lsi B] ++ J)) := fun J => len_lsi (q0 J)
  rw [for_src (s := ⟨irange (1 : Nat) (B.length - 1), [], none⟩) (h' := h ++ ([lsi A, lsi B] ++ [])) (by
    have := l0 []
    simp only [List.append_nil] at this
    simp [this]; rw [show (1 : Int) = ((1 : Nat) : Int) from rfl, range2_nat (by omega) (by omega)]; rfl) rfl]
  generalize hBd : (fun ρ h => evSs (⟨callN T G whlC k, whlC, G⟩ : Sg) [.iff (.and (.tr (.cmp .eq (.bin .mod (.bi .int [.bi .len [.v 2]]) (.v 3)) (.c (.int 0)))) (.tr (.bi .all [.lc (.cmp .eq (.idx (.v 2) (.v 4)) (.idx (.v 2) (.bin .mod (.bi .int [.v 4]) (.v 3)))) (.nm 4) (.rng (.bi .len [.v 2])) []]))) [
      .asg (.nm 2) (.slc (.v 2) none (some (.v 3))),
      .brk] []] ρ h) = Bd
  have run : ∀ (n s : Nat) (x : Option D) (J : Hp), 1 ≤ s → s + n = B.length → ∃ y J' q, (h ++ ([lsi A, lsi B] ++ J'))[q]? = some (lsi (shp B s n)) ∧ q ≠ h.length ∧ h.length ≤ q ∧ forL (.nm 3) [] Bd (irange (s : Int) n) [some (rowD A B), some (.ref h.length), some (.ref (h.length + 1)), x, none] (h ++ ([lsi A, lsi B] ++ J)) = .nx [some (rowD A B), some (.ref h.length), some (.ref q), y, none] (h ++ ([lsi A, lsi B] ++ J')) := by
    intro n
    induction n with
    | zero => intro s x J _ _; exact ⟨x, J, h.length + 1, q0 J, by omega, by omega, by rw [irange, forL]; rfl⟩
    | succ n ih =>
      intro s x J hs hn
      have sp : (0 : Int) < s := by omega
      have hl : (irange (0 : Nat) B.length).length ≤ line := by
        have : line = 16777216 := rfl
        rw [irange_len]; omega
      have e0 : ∃ J', Bd [some (rowD A B), some (.ref h.length), some (.ref (h.length + 1)), some (.int s), none] (h ++ ([lsi A, lsi B] ++ J)) = if perOk B s then .bk [some (rowD A B), some (.ref h.length), some (.ref (h ++ ([lsi A, lsi B] ++ J')).length), some (.int s), none] (h ++ ([lsi A, lsi B] ++ (J' ++ [lsi (B.take s)]))) else .nx [some (rowD A B), some (.ref h.length), some (.ref (h.length + 1)), some (.int s), none] (h ++ ([lsi A, lsi B] ++ J')) := by
        by_cases q : B.length % s = 0
        · have qi : (B.length : Int) % s = 0 := by rw [← Int.natCast_emod, q]; rfl
          have sl : s ≤ B.length := Nat.le_of_dvd m0 (Nat.dvd_of_mod_eq_zero q)
          have hi : evI ⟨callN T G whlC k, whlC, G⟩ (.rng (.bi .len [.v 2])) [some (rowD A B), some (.ref h.length), some (.ref (h.length + 1)), some (.int s), none] (h ++ ([lsi A, lsi B] ++ J)) = .ok ⟨irange (0 : Nat) B.length, [], none⟩ (h ++ ([lsi A, lsi B] ++ J)) := by
            have := l0 J
            simp only [List.cons_append, List.nil_append] at this ⊢
            have hl2 : B.length ≤ line := by have : line = 16777216 := rfl; omega
            simp [this, range1_nat hl2]
          have lc := lc_src (e := .cmp .eq (.idx (.v 2) (.v 4)) (.idx (.v 2) (.bin .mod (.bi .int [.v 4]) (.v 3)))) (t := .nm 4) (cs := []) hi rfl hl rfl (fun _ => true) (fun d => match d with | .int i => .bl (decide (B[i.toNat]? = B[i.toNat % s]?)) | d => d) (fun d hd => by
            rw [irange_nat] at hd
            simp only [List.mem_map] at hd
            obtain ⟨i, hi, rfl⟩ := hd
            have i1 := (mem_nlist.mp hi).2
            rw [Nat.zero_add] at i1
            have i2 : i % s < B.length := Nat.lt_of_lt_of_le (Nat.mod_lt _ (by omega)) sl
            refine ⟨_, rfl, by simp, fun _ => ?_⟩
            have x1 := ix_lsi (q0 J) i1
            have x2 := ix_lsi (q0 J) i2
            have md : binop .mod (.int (i : Nat)) (.int s) (h ++ ([lsi A, lsi B] ++ J)) = .ok (.int ((i % s : Nat) : Nat)) (h ++ ([lsi A, lsi B] ++ J)) := by rw [bind_mod sp]; rfl
            simp only [slots_nm, forget_1, List.set, r_cmp, r_idx, r_v2, r_v4, Res.bind_ok, x1, r_bin, r_bi, r_cons, r_nil, bi_int, r_v3, md, x2, cR_eq]
            simp [i1, i2])
          rw [filter_all, irange_nat, List.map_map] at lc
          have mm : List.map ((fun d => match d with | .int i => D.bl (decide (B[i.toNat]? = B[i.toNat % s]?)) | d => d) ∘ fun i : Nat => D.int (i : Nat)) (nlist 0 B.length) = ((nlist 0 B.length).map fun i => decide (B[i]? = B[i % s]?)).map D.bl := by
            rw [List.map_map]; apply List.map_congr_left; intro i _; simp
          rw [mm] at lc
          generalize hbs : ((nlist 0 B.length).map fun i => decide (B[i]? = B[i % s]?)) = bs at lc
          have al : bs.all id = perOk B s := by
            rw [Bool.eq_iff_iff, perOk_iff (by omega) hB0, ← hbs, List.all_eq_true]
            simp only [List.mem_map, id]
            constructor
            · intro z
              refine ⟨q, fun i hi => ?_⟩
              have := z _ ⟨i, mem_nlist.mpr ⟨by omega, by omega⟩, rfl⟩
              simpa using this
            · rintro ⟨_, z⟩ x ⟨i, hi, rfl⟩
              have := (mem_nlist.mp hi).2
              simpa using z i (by omega)
          refine ⟨J ++ [.lst (bs.map .bl)], ?_⟩
          have sh : h ++ ([lsi A, lsi B] ++ J) ++ [Ob.lst (bs.map .bl)] = h ++ ([lsi A, lsi B] ++ (J ++ [.lst (bs.map .bl)])) := by simp
          rw [sh] at lc
          have ab := all_bls (h := h ++ ([lsi A, lsi B] ++ (J ++ [.lst (bs.map .bl)]))) (q := (h ++ ([lsi A, lsi B] ++ J)).length) (l := bs) (by rw [← sh]; exact List.getElem?_concat_length)
          rw [al] at ab
          have t1 : evC ⟨callN T G whlC k, whlC, G⟩ (.and (.tr (.cmp .eq (.bin .mod (.bi .int [.bi .len [.v 2]]) (.v 3)) (.c (.int 0)))) (.tr (.bi .all [.lc (.cmp .eq (.idx (.v 2) (.v 4)) (.idx (.v 2) (.bin .mod (.bi .int [.v 4]) (.v 3)))) (.nm 4) (.rng (.bi .len [.v 2])) []]))) [some (rowD A B), some (.ref h.length), some (.ref (h.length + 1)), some (.int s), none] (h ++ ([lsi A, lsi B] ++ J)) = .ok (perOk B s) (h ++ ([lsi A, lsi B] ++ (J ++ [.lst (bs.map .bl)]))) := by
            rw [r_cand]
            simp only [r_ctr, r_cmp, r_bin, r_bi, r_cons, r_nil, r_v2, r_v3, Res.bind_ok, l0 J, bi_int, bind_mod sp, r_c, cR_eq, qi, decide_true, tR_bl, if_true, lc, ab]
          rw [← hBd]
          dsimp only
          rw [s_cons, s_iff, t1]
          simp only [Res.into_ok]
          by_cases po : perOk B s = true
          · rw [if_pos po, if_pos po]
            have sl2 := slice_lsi (q0 (J ++ [.lst (bs.map .bl)])) none (some (s : Int))
            rw [cut_take sl] at sl2
            rw [s_cons]
            simp only [s_asg, r_slc, r_v2, r_v3, Res.bind_ok, r_o0, r_o1, intO_int, sl2, Res.into_ok, bindT_nm, List.set, RS.seq_nx, s_cons, s_brk, RS.seq_bk]
            simp
          · rw [if_neg po, if_neg po]
            simp
        · have po : perOk B s = false := by simp [perOk, q]
          have q' : ¬ ((B.length : Int) % s = 0) := by rw [← Int.natCast_emod]; omega
          refine ⟨J, ?_⟩
          rw [← hBd]
          dsimp only
          rw [s_cons, s_iff, r_cand]
          simp only [r_ctr, r_cmp, r_bin, r_bi, r_cons, r_nil, r_v2, r_v3, Res.bind_ok, l0 J, bi_int, bind_mod sp, r_c, cR_eq, decide_eq_false q', tR_bl, if_false, po, Bool.false_eq_true, Res.into_ok, s_nil, RS.seq_nx]
      obtain ⟨J', e0⟩ := e0
      rw [irange, forL]
      simp only [okG, List.all_nil, if_true, bindT_nm, List.set, e0]
      rw [shp]
      by_cases po : perOk B s = true
      · rw [if_pos po, if_pos po]
        refine ⟨_, _, _, ?_, ?_, ?_, rfl⟩
        · rw [show h ++ ([lsi A, lsi B] ++ (J' ++ [lsi (B.take s)])) = h ++ ([lsi A, lsi B] ++ J') ++ [lsi (B.take s)] by simp]
          exact List.getElem?_concat_length
        · simp
        · simp
      · rw [if_neg po, if_neg po]
        obtain ⟨y, J2, q, a1, a2, a4, a3⟩ := ih (s + 1) (some (.int s)) J' (by omega) (by omega)
        exact ⟨y, J2, q, a1, a2, a4, by simpa using a3⟩
  obtain ⟨y, J', q, a1, a2, a4, e⟩ := run (B.length - 1) 1 none [] (by omega) (by omega)
  rw [e]
  simp only [RS.seq_nx]
  have c0 := p0 J'
  have shp0 : ∀ (n s : Nat), 1 ≤ s → s + n = B.length → (shp B s n) ≠ [] := by
    intro n
    induction n with
    | zero => intro s _ _; exact hB0
    | succ n ih =>
      intro s hs hn
      rw [shp]
      split
      · intro z
        have := congrArg List.length z
        rw [List.length_take, List.length_nil] at this
        omega
      · exact ih (s + 1) (by omega) (by omega)
  have shp1 : ∀ (n s : Nat), (shp B s n).length ≤ B.length := by
    intro n
    induction n with
    | zero => intro s; exact Nat.le_refl _
    | succ n ih =>
      intro s
      rw [shp]
      split
      · rw [List.length_take]; omega
      · exact ih (s + 1)
  have c1 := shp0 (B.length - 1) 1 (by omega) (by omega)
  have c2 := shp1 (B.length - 1) 1
  unfold neat
  generalize shp B 1 (B.length - 1) = C at *
  generalize hJ : [lsi A, lsi B] ++ J' = J at *
  clear e hJ
  rw [s_cons, s_whl]
  generalize hT : (fun ρ h => evC (⟨callN T G whlC k, whlC, G⟩ : Sg) (.and (.tr (.cmp .gt (.bi .len [.v 1]) (.c (.int 0)))) (.tr (.cmp .eq (.idx (.v 1) (.neg (.c (.int 1)))) (.idx (.v 2) (.neg (.c (.int 1))))))) ρ h) = Tt
  generalize hU : (fun ρ h => evSs (⟨callN T G whlC k, whlC, G⟩ : Sg) [.asg (.nm 2) (.bin .add (.lst [.mt (.v 1) .pop []]) (.slc (.v 2) none (some (.neg (.c (.int 1))))))] ρ h) = U
  have turn : ∀ (r C : List Int) (q : Nat) (J : Hp), C ≠ [] → C.length ≤ 100000 → q ≠ h.length → h.length ≤ q → (h ++ J)[h.length]? = some (lsi r.reverse) → (h ++ J)[q]? = some (lsi C) → ∃ q' J', (h ++ J')[h.length]? = some (lsi (rot r C).1) ∧ (h ++ J')[q']? = some (lsi (rot r C).2) ∧ whlC Tt U [some (rowD A B), some (.ref h.length), some (.ref q), y, none] (h ++ J) = .nx [some (rowD A B), some (.ref h.length), some (.ref q'), y, none] (h ++ J') := by
    intro r
    induction r with
    | nil =>
      intro C q J _ _ _ _ hp hq
      refine ⟨q, J, hp, hq, ?_⟩
      have ln := len_lsi hp
      rw [whlC_turn, ← hT]
      simp only [r_cand, r_ctr, r_cmp, r_bi, r_cons, r_nil, r_v1, Res.bind_ok, ln, r_c, cR_gt, tR_bl]
      simp
    | cons a r ih =>
      intro C q J hC hl hne hge hp hq
      obtain ⟨C', c, rfl⟩ : ∃ C' c, C = C' ++ [c] := ⟨C.dropLast, C.getLast hC, (List.dropLast_concat_getLast hC).symm⟩
      have e1 : (a :: r).reverse = r.reverse ++ [a] := by simp
      rw [e1] at hp
      have p : (0 : Int) < ((r.reverse ++ [a]).length : Nat) := by simp; try omega
      have tt : Tt [some (rowD A B), some (.ref h.length), some (.ref q), y, none] (h ++ J) = .ok (decide (a = c)) (h ++ J) := by
        rw [← hT]
        have ln := len_lsi hp
        simp only [r_cand, r_ctr, r_cmp, r_bi, r_cons, r_nil, r_v1, r_v2, Res.bind_ok, ln, r_c, cR_gt, tR_bl, decide_eq_true p, if_true, r_idx, r_neg, ixl_lsi hp, ixl_lsi hq, cR_eq]
      rw [whlC_turn, tt]
      by_cases z : a = c
      · subst z
        obtain ⟨q2, J2, hh2⟩ : ∃ q2 J2, (h ++ J2)[h.length]? = some (lsi r.reverse) ∧ (h ++ J2)[q2]? = some (lsi (a :: C')) ∧ q2 ≠ h.length ∧ h.length ≤ q2 ∧ U [some (rowD A B), some (.ref h.length), some (.ref q), y, none] (h ++ J) = .nx [some (rowD A B), some (.ref h.length), some (.ref q2), y, none] (h ++ J2) := by
          have lp : h.length < (h ++ J).length := (List.getElem?_eq_some_iff.mp hp).1
          have sq : ((h ++ J).set h.length (lsi r.reverse))[q]? = some (lsi (C' ++ [a])) := by rw [List.getElem?_set_ne (Ne.symm hne)]; exact hq
          have sp : ((h ++ J).set h.length (lsi r.reverse))[h.length]? = some (lsi r.reverse) := List.getElem?_set_self lp
          obtain ⟨J1, hJ1⟩ : ∃ J1, (h ++ J).set h.length (lsi r.reverse) = h ++ J1 := ⟨_, List.set_append_right _ _ (Nat.le_refl _)⟩
          rw [hJ1] at sq sp
          have ap : ∀ {i : Nat} {o : Ob} (x : Hp), (h ++ J1)[i]? = some o → (h ++ J1 ++ x)[i]? = some o := fun x e => by rw [List.getElem?_append_left (List.getElem?_eq_some_iff.mp e).1]; exact e
          have hq1 := ap [Ob.lst [D.int a]] sq
          have sl := slice_lsi hq1 none (some (-1))
          rw [cut_init (by simp), List.dropLast_concat] at sl
          have ad : binop .add (.ref (h ++ J1).length) (.ref (h ++ J1 ++ [Ob.lst [D.int a]]).length) (h ++ J1 ++ [Ob.lst [D.int a]] ++ [lsi C']) = .ok (.ref (h ++ J1 ++ [Ob.lst [D.int a]] ++ [lsi C']).length) (h ++ J1 ++ [Ob.lst [D.int a]] ++ [lsi C'] ++ [lsi (a :: C')]) := by
            have z1 : (h ++ J1 ++ [Ob.lst [D.int a]] ++ [lsi C'])[(h ++ J1).length]? = some (.lst [D.int a]) := by
              rw [List.getElem?_append_left (by simp)]; exact List.getElem?_concat_length
            have z2 : (h ++ J1 ++ [Ob.lst [D.int a]] ++ [lsi C'])[(h ++ J1 ++ [Ob.lst [D.int a]]).length]? = some (lsi C') := List.getElem?_concat_length
            have z3 : [D.int a].length + (C'.map D.int).length ≤ line := by
              have : line = 16777216 := rfl
              simp at hl ⊢
              omega
            unfold binop
            simp only [z1, z2]
            rw [if_pos z3]
            rfl
          refine ⟨(h ++ J1 ++ [Ob.lst [D.int a]] ++ [lsi C']).length, J1 ++ [Ob.lst [D.int a], lsi C', lsi (a :: C')], ?_, ?_, by simp, by simp; try omega, ?_⟩
          · rw [← List.append_assoc]; exact ap _ sp
          · have : h ++ (J1 ++ [Ob.lst [D.int a], lsi C', lsi (a :: C')]) = h ++ J1 ++ [Ob.lst [D.int a]] ++ [lsi C'] ++ [lsi (a :: C')] := by simp
            rw [this]; exact List.getElem?_concat_length
          · rw [← hU]
            dsimp only
            have mt : evE (⟨callN T G whlC k, whlC, G⟩ : Sg) (.mt (.v 1) .pop []) [some (rowD A B), some (.ref h.length), some (.ref q), y, none] (h ++ J) = .ok (.int a) (h ++ J1) := by
              rw [r_mt, r_v1]
              simp only [Res.bind_ok, kindOf, hp, has, r_nil, if_true, method]
              rw [← hJ1]
              exact pop_lsi hp
            rw [s_cons]
            simp only [s_asg, r_bin, r_lst, r_cons, r_nil, mt, Res.bind_ok, new, r_slc, r_v2, r_o0, r_o1, r_neg, r_c, intO_int, sl, ad, Res.into_ok, bindT_nm, List.set, RS.seq_nx, s_nil]
            simp
        obtain ⟨b1, b2, b3, b5, b4⟩ := hh2
        simp only [decide_true, b4]
        obtain ⟨q', J3, d1, d2, d3⟩ := ih (a :: C') q2 J2 (by simp) (by simp at hl ⊢; omega) b3 b5 b1 b2
        have er : rot (a :: r) (C' ++ [a]) = rot r (a :: C') := by rw [rot]; simp
        rw [er]
        exact ⟨q', J3, d1, d2, d3⟩
      · have : ¬ (some c = some a) := by simp; exact fun y => z y.symm
        have er : rot (a :: r) (C' ++ [c]) = (r.reverse ++ [a], C' ++ [c]) := by rw [rot]; simp [this]
        rw [er]
        refine ⟨q, J, hp, hq, ?_⟩
        simp [z]
  obtain ⟨q', J2, d1, d2, d3⟩ := turn A.reverse C q J c1 (by omega) a2 a4 (by rw [List.reverse_reverse]; exact c0) a1
  dsimp only
  rw [d3]
  simp only [RS.seq_nx, s_cons, s_ret, r_tup, r_cons, r_nil, r_bi, r_v1, r_v2, Res.bind_ok, tup_lsi d1, tup_lsi d2, Res.into_ok, RS.seq_rt]
  exact fin_pure (pure_row _ _)
end
end Y

set_option linter.all false
set_option maxRecDepth 100000
set_option maxHeartbeats 1000000
/-! Digits that write a number: what is left behind them. -/
namespace Y
open PySem (Str)

/-- what is left of p / q behind some digits -/
def aft (b q : Int) (p : Int) (ds : List Int) : Int := ds.foldl (fun p d => p * b - d * q) p
/-- each step is one of S -/
def AllS (S : Int → Int → Prop) (b q : Int) : Int → List Int → Prop
  | _, [] => True
  | p, d :: ds => S p d ∧ AllS S b q (p * b - d * q) ds
def sts (b q : Int) : Int → List Int → List Int
  | _, [] => []
  | p, d :: ds => p :: sts b q (p * b - d * q) ds
def Legal (b q : Int) (p d : Int) : Prop := 1 - b ≤ d ∧ d ≤ b - 1 ∧ -q ≤ p * b - d * q ∧ p * b - d * q ≤ q
def LeastD (b q : Int) (p d : Int) : Prop := Legal b q p d ∧ ∀ e, Legal b q p e → d ≤ e
def MostD (b q : Int) (p d : Int) : Prop := Legal b q p d ∧ ∀ e, Legal b q p e → e ≤ d
section
variable {S : Int → Int → Prop} {b q : Int}
theorem aft_app (p : Int) (l m : List Int) : aft b q p (l ++ m) = aft b q (aft b q p l) m := List.foldl_append
theorem aft_cons (p d : Int) (m : List Int) : aft b q p (d :: m) = aft b q (p * b - d * q) m := rfl
theorem allS_app : ∀ (l m : List Int) (p : Int), AllS S b q p (l ++ m) ↔ AllS S b q p l ∧ AllS S b q (aft b q p l) m
  | [], m, p => by simp [AllS, aft]
  | d :: l, m, p => by
    rw [List.cons_append, AllS, AllS, allS_app l m, aft_cons, and_assoc]
theorem sts_app : ∀ (l m : List Int) (p : Int), sts b q p (l ++ m) = sts b q p l ++ sts b q (aft b q p l) m
  | [], m, p => rfl
  | d :: l, m, p => by rw [List.cons_append, sts, sts, sts_app l m, aft_cons]; rfl
theorem sts_len : ∀ (l : List Int) (p : Int), (sts b q p l).length = l.length
  | [], p => rfl
  | d :: l, p => by rw [sts, List.length_cons, List.length_cons, sts_len l]
theorem aft_nmb : ∀ (l : List Int) (p : Int), aft b q p l = p * b ^ l.length - q * nmb b l
  | [], p => by simp [aft, nmb]
  | d :: l, p => by
    rw [aft_cons, aft_nmb l, nmb_cons, List.length_cons, Int.pow_succ]
    grind
theorem AllS.imp {S' : Int → Int → Prop} (h : ∀ p d, S p d → S' p d) : ∀ (l : List Int) (p : Int), AllS S b q p l → AllS S' b q p l
  | [], _, _ => trivial
  | d :: l, p, ⟨h1, h2⟩ => ⟨h _ _ h1, AllS.imp h l _ h2⟩
/-- A, then B for ever, writes p / q by steps of S -/
structure Wr (S : Int → Int → Prop) (b q p : Int) (A B : List Int) : Prop where
  ne : B ≠ []
  all : AllS S b q p (A ++ B)
  rnd : aft b q (aft b q p A) B = aft b q p A
theorem Wr.imp {S' : Int → Int → Prop} {p : Int} {A B : List Int} (w : Wr S b q p A B) (h : ∀ p d, S p d → S' p d) : Wr S' b q p A B := ⟨w.ne, w.all.imp h _ _, w.rnd⟩
theorem wth_of {p : Int} {A B : List Int} (b0 : 2 ≤ b) (q0 : 0 < q) (w : Wr S b q p A B) : wth b A B = lo p q := by
  have m0 : 0 < B.length := List.length_pos_iff.mpr w.ne
  have pB := pow_gt b0 B.length m0
  have pA : 0 < b ^ A.length := Int.pow_pos (by omega)
  have e1 := aft_nmb (b := b) (q := q) A p
  have e2 := aft_nmb (b := b) (q := q) B (aft b q p A)
  rw [w.rnd] at e2
  unfold wth
  refine lo_eq (Int.mul_pos (by omega) pA) q0 ?_
  generalize aft b q p A = r at *
  generalize b ^ B.length = u at *
  generalize b ^ A.length = v at *
  subst e1
  grind
/-- neat keeps what is written -/
theorem rot_wr : ∀ (r A B : List Int), A = r.reverse → ∀ {p : Int}, 2 ≤ b → Wr S b q p A B → Wr S b q p (rot r B).1 (rot r B).2
  | [], A, B, e, p, _, w => by subst e; exact w
  | a :: r, A, B, e, p, b0, w => by
    subst e
    rw [rot]
    split
    · rename_i hl
      obtain ⟨B', rfl⟩ : ∃ B', B = B' ++ [a] := by
        obtain ⟨B', c, rfl⟩ : ∃ C' c, B = C' ++ [c] := ⟨B.dropLast, B.getLast w.ne, (List.dropLast_concat_getLast w.ne).symm⟩
        rw [List.getLast?_concat] at hl
        cases hl
        exact ⟨B', rfl⟩
      rw [List.dropLast_concat]
      refine rot_wr r _ _ rfl b0 ⟨by simp, ?_, ?_⟩
      · have := w.all
        rw [List.reverse_cons, List.append_assoc, ← List.append_assoc [a] B' [a], ← List.append_assoc, allS_app] at this
        exact this.1
      · have h1 := w.rnd
        rw [List.reverse_cons] at h1
        have e1 : aft b q p (r.reverse ++ [a]) = aft b q p r.reverse * b - a * q := by rw [aft_app]; rfl
        rw [e1] at h1
        have e2 : aft b q (aft b q p r.reverse * b - a * q) (B' ++ [a]) = aft b q (aft b q p r.reverse * b - a * q) B' * b - a * q := by rw [aft_app]; rfl
        rw [e2] at h1
        rw [aft_cons]
        generalize aft b q (aft b q p r.reverse * b - a * q) B' = s at *
        have : s * b = aft b q p r.reverse * b := by omega
        exact Int.eq_of_mul_eq_mul_right (by omega) this
    · exact w
theorem per_aft (b0 : 2 ≤ b) {C : List Int} {r : Int} : ∀ k : Nat, ∃ g : Int, (0 < k → 0 < g) ∧ 0 ≤ g ∧ aft b q r (List.replicate k C).flatten - r = (aft b q r C - r) * g
  | 0 => ⟨0, by simp, by simp, by simp [aft]⟩
  | k + 1 => by
    obtain ⟨g, _, g1, e⟩ := per_aft b0 (C := C) (r := r) k
    have pC : 0 < b ^ C.length := Int.pow_pos (by omega)
    refine ⟨g * b ^ C.length + 1, fun _ => by have := Int.mul_nonneg g1 (Int.le_of_lt pC); omega, by have := Int.mul_nonneg g1 (Int.le_of_lt pC); omega, ?_⟩
    rw [show (List.replicate (k + 1) C).flatten = (List.replicate k C).flatten ++ C by rw [List.replicate_succ', List.flatten_append]; simp, aft_app, aft_nmb C, aft_nmb C]
    rw [aft_nmb C] at e
    generalize aft b q r (List.replicate k C).flatten = s at *
    generalize b ^ C.length = v at *
    grind
theorem shp_wr {p : Int} {A B : List Int} (b0 : 2 ≤ b) (w : Wr S b q p A B) : ∀ (n s : Nat), 1 ≤ s → s + n = B.length → Wr S b q p A (shp B s n)
  | 0, s, _, _ => w
  | n + 1, s, hs, hn => by
    rw [shp]
    split
    · rename_i po
      unfold perOk at po
      rw [Bool.and_eq_true, decide_eq_true_eq, decide_eq_true_eq] at po
      obtain ⟨h1, h2⟩ := po
      have k0 : 0 < B.length / s := Nat.div_pos (by omega) (by omega)
      refine ⟨?_, ?_, ?_⟩
      · intro z
        have := congrArg List.length z
        rw [List.length_take, List.length_nil] at this
        omega
      · have := w.all
        rw [← List.take_append_drop s B, ← List.append_assoc, allS_app] at this
        exact this.1
      · obtain ⟨g, g0, _, e⟩ := per_aft b0 (q := q) (C := B.take s) (r := aft b q p A) (B.length / s)
        rw [← h2, w.rnd, Int.sub_self] at e
        rcases Int.mul_eq_zero.mp e.symm with z | z
        · omega
        · have := g0 k0; omega
    · exact shp_wr b0 w n (s + 1) (by omega) (by omega)
theorem neat_wr {p : Int} {A B : List Int} (b0 : 2 ≤ b) (w : Wr S b q p A B) : Wr S b q p (neat A B).1 (neat A B).2 := by
  have m0 : 0 < B.length := List.length_pos_iff.mpr w.ne
  exact rot_wr _ A _ (by rw [List.reverse_reverse]) b0 (shp_wr b0 w _ _ (by omega) (by omega))
/-! the digits in order -/
theorem Wr.more {p : Int} {A B : List Int} (w : Wr S b q p A B) : ∀ k : Nat, AllS S b q p (A ++ (List.replicate k B).flatten) ∧ aft b q p (A ++ (List.replicate k B).flatten) = aft b q p A
  | 0 => by
    have := w.all
    rw [allS_app] at this
    simpa using this.1
  | k + 1 => by
    obtain ⟨h1, h2⟩ := w.more k
    have := w.all
    rw [allS_app] at this
    rw [show (List.replicate (k + 1) B).flatten = (List.replicate k B).flatten ++ B by rw [List.replicate_succ', List.flatten_append]; simp, ← List.append_assoc]
    refine ⟨by rw [allS_app, h2]; exact ⟨h1, this.2⟩, by rw [aft_app, h2, w.rnd]⟩
theorem AllS.take {p : Int} {l : List Int} (n : Nat) (h : AllS S b q p l) : AllS S b q p (l.take n) := by
  rw [← List.take_append_drop n l, allS_app] at h
  exact h.1
theorem lex_least : ∀ (l m : List Int) (p : Int), l.length = m.length → AllS (LeastD b q) b q p l → AllS (Legal b q) b q p m → lexLe l m = true
  | [], _, _, _, _, _ => by simp [lexLe]
  | a :: l, [], _, e, _, _ => by simp at e
  | a :: l, c :: m, p, e, ⟨h1, h2⟩, ⟨h3, h4⟩ => by
    have := h1.2 _ h3
    rw [lexLe]
    by_cases z : a = c
    · subst z
      simp [lex_least l m _ (by simpa using e) h2 h4]
    · have : a < c := by omega
      simp [this]
theorem lex_most : ∀ (l m : List Int) (p : Int), l.length = m.length → AllS (Legal b q) b q p l → AllS (MostD b q) b q p m → lexLe l m = true
  | [], _, _, _, _, _ => by simp [lexLe]
  | a :: l, [], _, e, _, _ => by simp at e
  | a :: l, c :: m, p, e, ⟨h1, h2⟩, ⟨h3, h4⟩ => by
    have := h3.2 _ h1
    rw [lexLe]
    by_cases z : a = c
    · subst z
      simp [lex_most l m _ (by simpa using e) h2 h4]
    · have : a < c := by omega
      simp [this]
/-! the other sign -/
theorem rot_map {f : Int → Int} (hf : ∀ x y, f x = f y → x = y) : ∀ (r B : List Int), B ≠ [] → rot (r.map f) (B.map f) = ((rot r B).1.map f, (rot r B).2.map f)
  | [], B, _ => rfl
  | a :: r, B, hB => by
    obtain ⟨B', c, rfl⟩ : ∃ C' c, B = C' ++ [c] := ⟨B.dropLast, B.getLast hB, (List.dropLast_concat_getLast hB).symm⟩
    rw [List.map_cons, rot, rot, List.map_append, List.map_cons, List.map_nil, List.getLast?_concat, List.getLast?_concat, List.dropLast_concat, List.dropLast_concat]
    by_cases z : c = a
    · subst z
      rw [if_pos rfl, if_pos rfl, ← List.map_cons, rot_map hf r (c :: B') (by simp)]
    · have : ¬ (some (f c) = some (f a)) := by simp; exact fun y => z (hf _ _ y)
      have z' : ¬ (some c = some a) := by simpa using z
      rw [if_neg this, if_neg z']
      simp
theorem shp_map {f : Int → Int} (hf : ∀ x y, f x = f y → x = y) (B : List Int) : ∀ (n s : Nat), shp (B.map f) s n = (shp B s n).map f
  | 0, s => rfl
  | n + 1, s => by
    have e : perOk (B.map f) s = perOk B s := by
      unfold perOk
      rw [List.length_map, ← List.map_take, ← List.map_replicate, ← List.map_flatten]
      have : (B.map f = ((List.replicate (B.length / s) (B.take s)).flatten).map f) ↔ (B = (List.replicate (B.length / s) (B.take s)).flatten) := ⟨fun z => (List.map_inj_right fun x y h => hf x y h).mp z, fun z => congrArg _ z⟩
      simp only [this]
    rw [shp, shp, e, shp_map hf B n]
    split
    · rw [List.map_take]
    · rfl
theorem shp_ne {B : List Int} (hB : B ≠ []) : ∀ (n s : Nat), 1 ≤ s → shp B s n ≠ []
  | 0, _, _ => hB
  | n + 1, s, hs => by
    have m0 : 0 < B.length := List.length_pos_iff.mpr hB
    rw [shp]
    split
    · intro z
      have := congrArg List.length z
      rw [List.length_take, List.length_nil] at this
      omega
    · exact shp_ne hB n (s + 1) (by omega)
theorem neat_map {f : Int → Int} (hf : ∀ x y, f x = f y → x = y) (A B : List Int) (hB : B ≠ []) : neat (A.map f) (B.map f) = ((neat A B).1.map f, (neat A B).2.map f) := by
  unfold neat
  rw [List.length_map, shp_map hf, ← List.map_reverse, rot_map hf _ _ (shp_ne hB _ _ (by omega))]
/-! the round of the least digits is short -/
theorem least_pos {p d : Int} (b0 : 2 ≤ b) (q0 : 0 < q) (h : LeastD b q p d) : (0 < p → 0 < p * b - d * q) ∧ (p * b - d * q ≤ 0 → d = 1 - b) := by
  have key : p * b - d * q ≤ 0 → d = 1 - b := fun z => by
    obtain ⟨⟨l1, l2, l3, l4⟩, m⟩ := h
    rcases Int.lt_or_le (1 - b) d with y | y
    · have := m (d - 1) ⟨by omega, by omega, by rw [Int.sub_mul]; omega, by rw [Int.sub_mul]; omega⟩
      omega
    · omega
  refine ⟨fun hp => ?_, key⟩
  rcases Int.lt_or_le 0 (p * b - d * q) with y | y
  · exact y
  · have e := key y
    subst e
    have h1 : 0 < p * b := Int.mul_pos hp (by omega)
    have h2 : 0 < (b - 1) * q := Int.mul_pos (by omega) q0
    rw [show (1 - b) * q = -((b - 1) * q) by grind] at y
    omega
theorem least_stays (b0 : 2 ≤ b) (q0 : 0 < q) : ∀ (l : List Int) (p : Int), 0 < p → AllS (LeastD b q) b q p l → (∀ r ∈ sts b q p l, 0 < r) ∧ 0 < aft b q p l
  | [], p, hp, _ => ⟨by simp [sts], hp⟩
  | d :: l, p, hp, ⟨h1, h2⟩ => by
    obtain ⟨g1, g2⟩ := least_stays b0 q0 l _ ((least_pos b0 q0 h1).1 hp) h2
    refine ⟨fun r hr => ?_, g2⟩
    rw [sts, List.mem_cons] at hr
    rcases hr with rfl | hr
    · exact hp
    · exact g1 r hr
/-- if none behind is above 0, the rests go away from -q -/
theorem least_falls (b0 : 2 ≤ b) (q0 : 0 < q) : ∀ (l : List Int) (p : Int), AllS (LeastD b q) b q p l → aft b q p l ≤ 0 → aft b q p l + q = (p + q) * b ^ l.length
  | [], p, _, _ => by simp [aft]
  | d :: l, p, ⟨h1, h2⟩, h => by
    rw [aft_cons] at h ⊢
    have n0 : p * b - d * q ≤ 0 := by
      rcases Int.lt_or_le 0 (p * b - d * q) with y | y
      · have := (least_stays b0 q0 l _ y h2).2; omega
      · exact y
    have e := (least_pos b0 q0 h1).2 n0
    rw [least_falls b0 q0 l _ h2 h, e, List.length_cons, Int.pow_succ]
    grind
theorem sts_ne {p : Int} {d : Int} {l : List Int} : p ∈ sts b q p (d :: l) := by rw [sts]; exact List.mem_cons_self ..
theorem nodup_le {q : Int} (q0 : 0 ≤ q) {L : List Int} (nd : L.Nodup) (h : ∀ x ∈ L, 0 < x ∧ x ≤ q) : (L.length : Int) ≤ q := by
  have nd' : (L.map Int.toNat).Nodup := by
    rw [List.Nodup, List.pairwise_map]
    exact nd.imp_of_mem fun {x y} hx hy ne e => ne (by have := h x hx; have := h y hy; omega)
  have := le_of_nodup (q.toNat + 1) ((0 : Nat) :: L.map Int.toNat) (by
    rw [List.nodup_cons]
    refine ⟨fun z => ?_, nd'⟩
    rw [List.mem_map] at z
    obtain ⟨x, hx, e⟩ := z
    have := h x hx
    omega) (fun x hx => by
    rw [List.mem_cons] at hx
    rcases hx with rfl | hx
    · omega
    · rw [List.mem_map] at hx
      obtain ⟨y, hy, rfl⟩ := hx
      have := h y hy
      omega)
  rw [List.length_cons, List.length_map] at this
  omega
theorem nodup_le2 {q : Int} (q0 : 0 ≤ q) {L : List Int} (nd : L.Nodup) (h : ∀ x ∈ L, -q ≤ x ∧ x ≤ q) : (L.length : Int) ≤ 2 * q + 1 := by
  have := nodup_le (q := 2 * q + 1) (by omega) (L := L.map fun x => x + q + 1) (by
    rw [List.Nodup, List.pairwise_map]
    exact nd.imp fun {x y} ne e => ne (by omega)) (fun x hx => by
    rw [List.mem_map] at hx
    obtain ⟨y, hy, rfl⟩ := hx
    have := h y hy
    omega)
  rw [List.length_map] at this
  exact this
theorem legal_sts : ∀ (l : List Int) (p : Int), -q ≤ p ∧ p ≤ q → AllS (Legal b q) b q p l → ∀ r ∈ sts b q p l, -q ≤ r ∧ r ≤ q
  | [], _, _, _, r, hr => by simp [sts] at hr
  | d :: l, p, hp, ⟨h1, h2⟩, r, hr => by
    rw [sts, List.mem_cons] at hr
    rcases hr with rfl | hr
    · exact hp
    · exact legal_sts l _ ⟨h1.2.2.1, h1.2.2.2⟩ h2 r hr
theorem least_round (b0 : 2 ≤ b) (q0 : 0 < q) {p : Int} {A B : List Int} (hp : -q ≤ p ∧ p ≤ q) (w : Wr (LeastD b q) b q p A B) (nd : (sts b q p (A ++ B)).Nodup) : (B.length : Int) ≤ q := by
  rw [sts_app] at nd
  have all := w.all
  rw [allS_app] at all
  have lg := legal_sts (A ++ B) p hp (w.all.imp (fun _ _ h => h.1) _ _)
  rw [sts_app] at lg
  rcases Int.lt_or_le 0 (aft b q p A) with y | y
  · have ps := (least_stays b0 q0 B _ y all.2).1
    have := nodup_le (q := q) (by omega) (List.nodup_append.mp nd).2.1 (fun x hx => ⟨ps x hx, (lg x (List.mem_append_right _ hx)).2⟩)
    rw [sts_len] at this
    exact this
  · have fl := least_falls b0 q0 B _ all.2 (by rw [w.rnd]; exact y)
    rw [w.rnd] at fl
    cases hB : B with
    | nil => exact absurd hB w.ne
    | cons d B' =>
      rw [hB] at fl all nd
      have e : aft b q p A + q = 0 := by
        have pw := pow_gt b0 (d :: B').length (by simp)
        have l1 := (lg (aft b q p A) (by rw [hB]; exact List.mem_append_right _ sts_ne)).1
        rcases Int.lt_or_le 0 (aft b q p A + q) with z | z
        · have : (aft b q p A + q) * 2 ≤ (aft b q p A + q) * b ^ (d :: B').length := Int.mul_le_mul_of_nonneg_left pw (by omega)
          omega
        · omega
      cases B' with
      | nil => simp; omega
      | cons c B' =>
        exfalso
        obtain ⟨⟨⟨k1, k2, k3, k4⟩, mm⟩, _⟩ := all.2
        have e2 : aft b q p A * b - (1 - b) * q = -q := by
          have : aft b q p A = -q := by omega
          rw [this]; grind
        have hd : d ≤ 1 - b := mm (1 - b) ⟨by omega, by omega, by omega, by omega⟩
        have e3 : d = 1 - b := by omega
        have nd2 := (List.nodup_append.mp nd).2.1
        rw [sts, sts, List.nodup_cons] at nd2
        apply nd2.1
        rw [e3, e2]
        have : aft b q p A = -q := by omega
        rw [this]
        exact List.mem_cons_self ..
end
end Y

set_option linter.all false
set_option maxRecDepth 100000
set_option maxHeartbeats 1000000
/-! Going on, by integers. -/
namespace Y
open PySem (Str)

/-- the digits that go on -/
def digs (b q P : Int) : List Int := (ilist (1 - b) (b - (1 - b)).toNat).filter fun d => decide (((P * b - d * q).natAbs : Int) ≤ q)
theorem mem_ilist' : ∀ {n : Nat} {lo x : Int}, x ∈ ilist lo n ↔ lo ≤ x ∧ x < lo + n
  | 0, lo, x => by simp [ilist]; try omega
  | n + 1, lo, x => by rw [ilist, List.mem_cons, mem_ilist']; omega
theorem ilist_up : ∀ (n : Nat) (lo : Int), (ilist lo n).Pairwise (· < ·)
  | 0, _ => List.Pairwise.nil
  | n + 1, lo => by
    rw [ilist, List.pairwise_cons]
    exact ⟨fun x hx => by have := mem_ilist'.mp hx; omega, ilist_up n _⟩
section
variable {b q : Int}
theorem lo_small {t : Int} (q0 : 0 < q) : (((lo t q).1.natAbs : Int) ≤ (lo t q).2) ↔ ((t.natAbs : Int) ≤ q) := by
  obtain ⟨g, g0, h1, h2⟩ := lo_mul (t := t) q0
  generalize lo t q = r at *
  obtain ⟨x, y⟩ := r
  simp only at *
  have e : (t.natAbs : Int) = g * (x.natAbs : Int) := by
    rw [h1, Int.natAbs_mul]
    have : (g.natAbs : Int) = g := by omega
    rw [Int.natCast_mul, this]
  rw [e, h2]
  constructor
  · intro z; exact Int.mul_le_mul_of_nonneg_left z (by omega)
  · intro z; exact Int.le_of_mul_le_mul_left z g0
theorem lo_inj {s t : Int} (q0 : 0 < q) (e : lo s q = lo t q) : s = t := by
  obtain ⟨g, g0, h1, h2⟩ := lo_mul (t := s) q0
  obtain ⟨g', g0', h1', h2'⟩ := lo_mul (t := t) q0
  have p0 := (lo_cop (t := s) q0).1
  rw [e] at h1 h2 p0
  generalize lo t q = r at *
  obtain ⟨x, y⟩ := r
  simp only at *
  have : g = g' := Int.eq_of_mul_eq_mul_right (Int.ne_of_gt p0) (by omega)
  rw [h1, h1', this]
theorem stp_lo (q0 : 0 < q) (P d : Int) : stp b (lo P q) d = lo (P * b - d * q) q := by
  unfold stp
  rw [← lo_one b, lmul_lo q0 (by decide), ← lo_one d, lmin_lo (by omega) (by decide)]
  simp
theorem goes_lo (q0 : 0 < q) (P : Int) : goes b (lo P q) = (digs b q P).map fun d => (d, lo (P * b - d * q) q) := by
  unfold goes digs
  generalize ilist (1 - b) (b - (1 - b)).toNat = l
  induction l with
  | nil => rfl
  | cons d l ih =>
    rw [List.map_cons, List.filter_cons, List.filter_cons, stp_lo q0]
    simp only [lo_small q0]
    split
    · rw [List.map_cons, ih]
    · exact ih
theorem mem_digs (b0 : 2 ≤ b) {P d : Int} : d ∈ digs b q P ↔ Legal b q P d := by
  unfold digs Legal
  rw [List.mem_filter, mem_ilist', decide_eq_true_eq]
  omega
theorem digs_up (P : Int) : (digs b q P).Pairwise (· < ·) := (ilist_up _ _).filter _
theorem digs_ne (b0 : 2 ≤ b) (b1 : b ≤ 5) (q0 : 0 < q) {P : Int} (h : -q ≤ P ∧ P ≤ q) : digs b q P ≠ [] := by
  have ex : ∃ d, Legal b q P d := by
    have m0 := Int.emod_nonneg (P * b) (Int.ne_of_gt q0)
    have m1 := Int.emod_lt_of_pos (P * b) q0
    have m2 := Int.emod_add_mul_ediv (P * b) q
    have hb : b = 2 ∨ b = 3 ∨ b = 4 ∨ b = 5 := by omega
    generalize hv : P * b = v at *
    generalize v % q = m at *
    generalize v / q = e at *
    have lo1 : -b ≤ e := by
      rcases Int.lt_or_le e (-b) with z | z
      · have h1 : q * e ≤ q * (-b - 1) := Int.mul_le_mul_of_nonneg_left (by omega) (by omega)
        have h2 : -q * b ≤ P * b := Int.mul_le_mul_of_nonneg_right h.1 (by omega)
        rw [hv] at h2
        have : q * (-b - 1) = -q * b - q := by grind
        omega
      · exact z
    have hi1 : e ≤ b := by
      rcases Int.lt_or_le b e with z | z
      · have h1 : q * (b + 1) ≤ q * e := Int.mul_le_mul_of_nonneg_left (by omega) (by omega)
        have h2 : P * b ≤ q * b := Int.mul_le_mul_of_nonneg_right h.2 (by omega)
        rw [hv] at h2
        have : q * (b + 1) = q * b + q := by grind
        omega
      · exact z
    have h3 : P * b ≤ q * b := Int.mul_le_mul_of_nonneg_right h.2 (by omega)
    rw [hv] at h3
    by_cases z : e = b
    · refine ⟨b - 1, by omega, by omega, ?_, ?_⟩
      · have : (b - 1) * q = q * b - q := by grind
        rw [z] at m2
        omega
      · have : (b - 1) * q = q * b - q := by grind
        omega
    · by_cases y : e = -b
      · refine ⟨1 - b, by omega, by omega, ?_, ?_⟩
        · have : (1 - b) * q = q * (-b) + q := by grind
          rw [y] at m2
          omega
        · have : (1 - b) * q = q * (-b) + q := by grind
          rw [y] at m2
          omega
      · refine ⟨e, by omega, by omega, ?_, ?_⟩ <;> (have : e * q = q * e := Int.mul_comm _ _; omega)
  obtain ⟨d, hd⟩ := ex
  exact List.ne_nil_of_mem ((mem_digs b0).mpr hd)
def pickL (b q P : Int) : Int := (digs b q P).headD 0
def pickM (b q P : Int) : Int := (digs b q P).getLastD 0
theorem pickL_least (b0 : 2 ≤ b) (b1 : b ≤ 5) (q0 : 0 < q) {P : Int} (h : -q ≤ P ∧ P ≤ q) : LeastD b q P (pickL b q P) := by
  have ne := digs_ne b0 b1 q0 h
  have up := digs_up (b := b) (q := q) P
  have mem := fun d => mem_digs (q := q) b0 (P := P) (d := d)
  unfold pickL
  generalize digs b q P = l at *
  cases l with
  | nil => exact absurd rfl ne
  | cons a l =>
    refine ⟨(mem a).mp (List.mem_cons_self ..), fun e he => ?_⟩
    have := (mem e).mpr he
    rw [List.pairwise_cons] at up
    rcases List.mem_cons.mp this with rfl | z
    · exact Int.le_refl _
    · have := up.1 e z; show a ≤ e; omega
theorem pickM_most (b0 : 2 ≤ b) (b1 : b ≤ 5) (q0 : 0 < q) {P : Int} (h : -q ≤ P ∧ P ≤ q) : MostD b q P (pickM b q P) := by
  have ne := digs_ne b0 b1 q0 h
  have up := digs_up (b := b) (q := q) P
  have mem := fun d => mem_digs (q := q) b0 (P := P) (d := d)
  unfold pickM
  generalize digs b q P = l at *
  obtain ⟨l', a, rfl⟩ : ∃ l' a, l = l' ++ [a] := ⟨l.dropLast, l.getLast ne, (List.dropLast_concat_getLast ne).symm⟩
  have e : (l' ++ [a]).getLastD 0 = a := by simp
  rw [e]
  refine ⟨(mem a).mp (by simp), fun e he => ?_⟩
  have := (mem e).mpr he
  rw [List.pairwise_append] at up
  rcases List.mem_append.mp this with z | z
  · have := up.2.2 e z a (by simp); omega
  · simp at z; omega
theorem pick_neg (b0 : 2 ≤ b) (b1 : b ≤ 5) (q0 : 0 < q) {P : Int} (h : -q ≤ P ∧ P ≤ q) : pickM b q (-P) = -pickL b q P := by
  obtain ⟨⟨l1, l2, l3, l4⟩, lm⟩ := pickL_least b0 b1 q0 h
  obtain ⟨⟨m1, m2, m3, m4⟩, mm⟩ := pickM_most b0 b1 q0 (P := -P) (by omega)
  generalize pickL b q P = x at *
  generalize pickM b q (-P) = y at *
  have e1 : ∀ d : Int, -P * b - -d * q = -(P * b - d * q) := fun d => by grind
  have a1 := lm (-y) ⟨by omega, by omega, by have := e1 (-y); simp at this; rw [this] at m3 m4; simp; omega, by have := e1 (-y); simp at this; rw [this] at m3 m4; simp; omega⟩
  have a2 := mm (-x) ⟨by omega, by omega, by rw [e1]; omega, by rw [e1]; omega⟩
  omega
/-- digit after digit till a rest comes again -/
def ledD (pick : Int → Int) (b q p : Int) : Nat → List Int → List Int
  | 0, ds => ds
  | n + 1, ds => if aft b q p ds ∈ sts b q p ds then ds else ledD pick b q p n (ds ++ [pick (aft b q p ds)])
theorem sts_get : ∀ (ds : List Int) (p : Int) (j : Nat), j < ds.length → (sts b q p ds)[j]? = some (aft b q p (ds.take j))
  | [], _, _, h => by simp at h
  | d :: ds, p, 0, _ => by rw [sts]; rfl
  | d :: ds, p, j + 1, h => by
    rw [sts, List.getElem?_cons_succ, sts_get ds _ j (by simpa using h), List.take_succ_cons, aft_cons]
theorem idx_get : ∀ {l : List Int} {x : Int}, x ∈ l → l.idxOf x < l.length ∧ l[l.idxOf x]? = some x
  | [], x, h => by simp at h
  | a :: l, x, h => by
    rw [List.idxOf_cons]
    by_cases z : a = x
    · subst z; simp
    · have hl : x ∈ l := by
        rcases List.mem_cons.mp h with y | y
        · exact absurd y.symm z
        · exact y
      obtain ⟨h1, h2⟩ := idx_get hl
      have : (a == x) = false := by simp [z]
      simp [this, h1]
      
/-- the row of digits that came round -/
theorem wr_of {S : Int → Int → Prop} {p : Int} {ds : List Int} (all : AllS S b q p ds) (h : aft b q p ds ∈ sts b q p ds) : Wr S b q p (ds.take ((sts b q p ds).idxOf (aft b q p ds))) (ds.drop ((sts b q p ds).idxOf (aft b q p ds))) := by
  obtain ⟨h1, h2⟩ := idx_get h
  generalize (sts b q p ds).idxOf (aft b q p ds) = j at *
  rw [sts_len] at h1
  rw [sts_get ds p j h1] at h2
  have e : aft b q p (ds.take j) = aft b q p ds := Option.some.inj h2
  refine ⟨?_, by rw [List.take_append_drop]; exact all, ?_⟩
  · intro z
    have := congrArg List.length z
    rw [List.length_drop, List.length_nil] at this
    omega
  · rw [← aft_app, List.take_append_drop, e]
end
end Y

set_option linter.all false
set_option maxRecDepth 100000
set_option maxHeartbeats 1000000
/-! Digits led by the first or the last that goes on. -/
namespace Y
open PySem (Str)

def dq (q : Int) (L : List (Int × D)) : List (D × D) := L.map fun x => (fr (lo x.1 q), x.2)
def lkq : List (Int × D) → Int → Option D
  | [], _ => none
  | (P', v) :: r, P => if P' = P then some v else lkq r P
def pl (i : Nat) : List Int → List (Int × D)
  | [] => []
  | P :: r => (P, .int (i : Nat)) :: pl (i + 1) r
theorem frq_inj {p r : Int × Int} (e : fr p = fr r) : p = r := by
  obtain ⟨a, b⟩ := p
  obtain ⟨c, d⟩ := r
  simp at e
  exact Prod.ext e.1 e.2
section
variable {q : Int}
theorem look_dq (q0 : 0 < q) (P : Int) : ∀ L : List (Int × D), look (dq q L) (fr (lo P q)) = lkq L P
  | [] => rfl
  | (P', v) :: r => by
    have ih := look_dq q0 P r
    unfold dq at ih ⊢
    rw [List.map_cons, look, lkq, ih]
    by_cases z : P' = P
    · subst z; simp
    · have : ¬ fr (lo P' q) = fr (lo P q) := fun y => z (lo_inj q0 (frq_inj y))
      simp only [this, z, if_false]
theorem put_dq (q0 : 0 < q) (P : Int) (v : D) : ∀ L : List (Int × D), lkq L P = none → put (dq q L) (fr (lo P q)) v = dq q (L ++ [(P, v)])
  | [], _ => rfl
  | (P', v') :: r, h => by
    rw [lkq] at h
    by_cases z : P' = P
    · rw [if_pos z] at h; cases h
    · rw [if_neg z] at h
      have ih := put_dq q0 P v r h
      unfold dq at ih ⊢
      have : ¬ fr (lo P' q) = fr (lo P q) := fun y => z (lo_inj q0 (frq_inj y))
      rw [List.map_cons, put, if_neg this, ih]
      rfl
theorem lkq_pl (P : Int) : ∀ (L : List Int) (i : Nat), lkq (pl i L) P = if P ∈ L then some (.int ((i + L.idxOf P : Nat) : Int)) else none
  | [], i => by simp [pl, lkq]
  | P' :: r, i => by
    rw [pl, lkq, lkq_pl P r, List.idxOf_cons]
    by_cases z : P' = P
    · subst z; simp
    · have z' : (P' == P) = false := by simp [z]
      have z2 : ¬ P = P' := fun y => z y.symm
      rw [if_neg z, z']
      simp only [List.mem_cons, z2, false_or]
      split
      · simp; omega
      · rfl
theorem pl_snoc (P : Int) : ∀ (L : List Int) (i : Nat), pl i (L ++ [P]) = pl i L ++ [(P, .int ((i + L.length : Nat) : Int))]
  | [], i => by simp [pl]
  | P' :: r, i => by
    rw [List.cons_append, pl, pl, pl_snoc P r, List.length_cons, List.cons_append, show i + 1 + r.length = i + (r.length + 1) by omega]
theorem pl_len : ∀ (L : List Int) (i : Nat), (pl i L).length = L.length
  | [], _ => rfl
  | _ :: r, i => by rw [pl, List.length_cons, List.length_cons, pl_len r]
theorem keyOk_fr (p : Int × Int) : keyOk (fr p) = true := by simp [keyOk, D.keyL, D.key, D.depthL, D.depth]
theorem keyFor_dq (L : List (Int × D)) (p : Int × Int) : keyFor (dq q L) (fr p) = true := by
  unfold keyFor
  rw [keyOk_fr]
  cases L with
  | nil => rfl
  | cons x L => rfl
theorem sts_snoc (b : Int) (ds : List Int) (d p : Int) : sts b q p (ds ++ [d]) = sts b q p ds ++ [aft b q p ds] := by rw [sts_app]; rfl
end
theorem at0 {h J : Hp} {a : Ob} : (h ++ a :: J)[h.length]? = some a := by
  have := get_right (h := h) (J := a :: J) (i := 0)
  simpa using this
theorem at1 {h J : Hp} {a b : Ob} : (h ++ a :: b :: J)[h.length + 1]? = some b := by
  rw [get_right]; rfl
theorem at2 {h J : Hp} {a b c : Ob} : (h ++ a :: b :: c :: J)[h.length + 2]? = some c := by
  rw [get_right]; rfl
theorem set0 {h J : Hp} {a o : Ob} : (h ++ a :: J).set h.length o = h ++ o :: J := by
  rw [List.set_append_right _ _ (Nat.le_refl _), Nat.sub_self]; rfl
theorem set1 {h J : Hp} {a b o : Ob} : (h ++ a :: b :: J).set (h.length + 1) o = h ++ a :: o :: J := by
  rw [List.set_append_right _ _ (by omega), Nat.add_sub_cancel_left]; rfl
theorem set2 {h J : Hp} {a b c o : Ob} : (h ++ a :: b :: c :: J).set (h.length + 2) o = h ++ a :: b :: o :: J := by
  rw [List.set_append_right _ _ (by omega), Nat.add_sub_cancel_left]; rfl
section
variable {h : Hp} {n : Nat} {q : Int}
theorem nin_dq (q0 : 0 < q) {L : List (Int × D)} (hn : h[n]? = some (.dict (dq q L))) (P : Int) : compareR .nin (fr (lo P q)) (.ref n) h = .ok (.bl (!(lkq L P).isSome)) h := by
  simp only [compareR, compare, in?, hn, keyFor_dq, if_true, look_dq q0, Option.map_some]
theorem ix_dq (q0 : 0 < q) {L : List (Int × D)} {v : D} {P : Int} (hn : h[n]? = some (.dict (dq q L))) (hv : lkq L P = some v) : index (.ref n) (fr (lo P q)) h = .ok v h := by
  simp only [index, hn, keyFor_dq, if_true, look_dq q0, hv, ofO_some]
theorem store_dq (q0 : 0 < q) {L : List (Int × D)} {v : D} {P : Int} (hn : h[n]? = some (.dict (dq q L))) (hv : lkq L P = none) (hl : L.length < line) : store (.ref n) (fr (lo P q)) v h = some (h.set n (.dict (dq q (L ++ [(P, v)])))) := by
  have : (dq q L).length < line := by simpa [dq] using hl
  simp only [store, hn, keyFor_dq, decide_eq_true this, Bool.and_self, if_true, put_dq q0 P v L hv]
theorem app_lsi {l : List Int} {d : Int} (hn : h[n]? = some (lsi l)) (hl : l.length < line) (Z : Sg) (ρ : Env) (e1 e2 : E) (h0 : evE Z e1 ρ h = .ok (.ref n) h) (h1 : evE Z e2 ρ h = .ok (.int d) h) : evE Z (.mt e1 .append [e2]) ρ h = .ok .non (h.set n (lsi (l ++ [d]))) := by
  have : (l.map D.int).length < line := by simpa using hl
  rw [r_mt, h0]
  simp only [Res.bind_ok, kindOf, hn, has, if_true, r_cons, h1, r_nil, method, lstM, if_pos this]
  simp only [lsi, List.map_append, List.map_cons, List.map_nil]
end
/-- the pick of a place: the first (0), the last (-1) -/
def pickOf (pc b q : Int) (P : Int) : Int := if pc = 0 then pickL b q P else pickM b q P
theorem ix_goes {b q pc P : Int} {h : Hp} {n : Nat} (hp : pc = 0 ∨ pc = -1) (b0 : 2 ≤ b) (b1 : b ≤ 5) (q0 : 0 < q) (hP : -q ≤ P ∧ P ≤ q) (hn : h[n]? = some (.lst ((goes b (lo P q)).map goD))) :
    index (.ref n) (.int pc) h = .ok (goD (pickOf pc b q P, lo (P * b - pickOf pc b q P * q) q)) h := by
  have ne := digs_ne b0 b1 q0 hP
  rw [goes_lo q0, List.map_map] at hn
  unfold pickOf pickL pickM
  generalize digs b q P = l at *
  rcases hp with rfl | rfl
  · cases l with
    | nil => exact absurd rfl ne
    | cons a l =>
      simp only [index, hn, item]
      simp [place]
  · obtain ⟨l', a, rfl⟩ : ∃ l' a, l = l' ++ [a] := ⟨l.dropLast, l.getLast ne, (List.dropLast_concat_getLast ne).symm⟩
    have e : place (List.map (goD ∘ fun d => (d, lo (P * b - d * q) q)) (l' ++ [a])).length (-1) = some l'.length := by
      unfold place
      rw [if_neg (by decide), if_pos (by simp; omega)]
      simp
      omega
    simp only [index, hn, item, e, Option.bind_some]
    simp
theorem lo_bd20 {q P : Int} (q0 : 0 < q) (q1 : q < 2 ^ 20) (hP : -q ≤ P ∧ P ≤ q) : Bd (lo P q) ∧ (lo P q).1.natAbs < 2 ^ 20 ∧ (lo P q).2 < 2 ^ 20 := by
  obtain ⟨l1, l2, l3⟩ := lo_le (t := P) q0
  exact ⟨⟨by omega, l2, by omega⟩, by omega, by omega⟩
def m_led_writing : List S := [
  .asg (.tp [.nm 3, .nm 4, .nm 5]) (.tup [.dict0, .lst [], .v 1]),
  .whl (.tr (.cmp .nin (.v 5) (.v 3))) [
    .sto (.v 3) (.v 5) (.bi .len [.v 4]),
    .asg (.tp [.nm 6, .nm 5]) (.idx (.call "going_on" [.v 0, .v 5]) (.v 2)),
    .ex (.mt (.v 4) .append [.v 6])],
  .ret (.call "neat_of" [.tup [.bi .tup [.slc (.v 4) none (some (.idx (.v 3) (.v 5)))], .bi .tup [.slc (.v 4) (some (.idx (.v 3) (.v 5))) none]]])]
def m__law_led : List S := [
  .asg (.tp [.nm 3, .nm 4, .nm 5]) (.tup [.lst [], .v 1, .dict0]),
  .whl (.tr (.cmp .nin (.v 4) (.v 5))) [
    .sto (.v 5) (.v 4) (.bi .len [.v 3]),
    .asg (.tp [.nm 6, .nm 4]) (.idx (.call "_law_goes" [.v 0, .v 4]) (.v 2)),
    .ex (.mt (.v 3) .append [.v 6])],
  .ret (.call "_law_neat" [.tup [.bi .tup [.slc (.v 3) none (some (.idx (.v 5) (.v 4)))], .bi .tup [.slc (.v 3) (some (.idx (.v 5) (.v 4))) none]]])]
@[simp] theorem bindT_3 (i j l : Nat) (d e f : D) (ρ : Env) (h : Hp) : bindT (.tp [.nm i, .nm j, .nm l]) (.tup [d, e, f]) ρ h = some (((ρ.set i (some d)).set j (some e)).set l (some f)) := rfl
/-- what led digits are: of steps of S, all rests unlike -/
structure LedS (S : Int → Int → Prop) (b q p : Int) (ds : List Int) : Prop where
  all : AllS S b q p ds
  nd : (sts b q p ds).Nodup
  last : -q ≤ aft b q p ds ∧ aft b q p ds ≤ q
theorem LedS.nil {S : Int → Int → Prop} {b q p : Int} (hp : -q ≤ p ∧ p ≤ q) : LedS S b q p [] := ⟨trivial, List.nodup_nil, hp⟩
theorem LedS.snoc {S : Int → Int → Prop} {b q p d : Int} {ds : List Int} (l : LedS S b q p ds) (hS : ∀ p d, S p d → Legal b q p d) (hn : aft b q p ds ∉ sts b q p ds) (hd : S (aft b q p ds) d) : LedS S b q p (ds ++ [d]) := by
  refine ⟨by rw [allS_app]; exact ⟨l.all, hd, trivial⟩, ?_, ?_⟩
  · rw [sts_snoc, List.nodup_append]
    exact ⟨l.nd, by simp, fun x hx y hy => by simp at hy; subst hy; intro z; exact hn (z ▸ hx)⟩
  · rw [aft_app]
    have := hS _ _ hd
    exact ⟨this.2.2.1, this.2.2.2⟩
theorem LedS.len {S : Int → Int → Prop} {b q p : Int} {ds : List Int} (l : LedS S b q p ds) (q0 : 0 ≤ q) (hS : ∀ p d, S p d → Legal b q p d) (hp : -q ≤ p ∧ p ≤ q) : (ds.length : Int) ≤ 2 * q + 1 := by
  have := nodup_le2 q0 l.nd (legal_sts ds p hp (l.all.imp hS _ _))
  rw [sts_len] at this
  exact this
theorem ledD_ok {S : Int → Int → Prop} {pick : Int → Int} {b q p : Int} (q0 : 0 ≤ q) (hS : ∀ p d, S p d → Legal b q p d) (hpk : ∀ P, -q ≤ P ∧ P ≤ q → S P (pick P)) (hp : -q ≤ p ∧ p ≤ q) :
    ∀ (n : Nat) (ds : List Int), LedS S b q p ds → (2 * q + 2 : Int) ≤ ds.length + n → LedS S b q p (ledD pick b q p n ds) ∧ aft b q p (ledD pick b q p n ds) ∈ sts b q p (ledD pick b q p n ds)
  | 0, ds, l, hn => by have := l.len q0 hS hp; omega
  | n + 1, ds, l, hn => by
    rw [ledD]
    split
    · rename_i hm; exact ⟨l, hm⟩
    · rename_i hm
      exact ledD_ok q0 hS hpk hp n _ (l.snoc hS hm (hpk _ l.last)) (by rw [List.length_append]; simp; omega)
/-- the row that the led digits make -/
def ledRow (pick : Int → Int) (b q p : Int) : List Int × List Int :=
  let ds := ledD pick b q p (2 * q + 2).toNat []
  (ds.take ((sts b q p ds).idxOf (aft b q p ds)), ds.drop ((sts b q p ds).idxOf (aft b q p ds)))
section
variable {T : Tbl} {G : String → Option D} {k : Nat} {h : Hp} {b q p pc : Int}
theorem s_led (F : GT T G) (ht : T "led_writing" = some (.fn 3 7 m_led_writing)) (hnt : T "neat_of" = some (.fn 1 5 m_neat_of)) {S : Int → Int → Prop} (hS : ∀ p d, S p d → Legal b q p d) (hpk : ∀ P, -q ≤ P ∧ P ≤ q → S P (pickOf pc b q P)) (hpc : pc = 0 ∨ pc = -1) (b0 : 2 ≤ b) (b1 : b ≤ 5) (q0 : 0 < q) (q1 : q < 2 ^ 20) (hp : -q ≤ p ∧ p ≤ q) (hshort : (ledRow (pickOf pc b q) b q p).2.length ≤ 1000) :
    callN T G whlC (k + 5) "led_writing" [.int b, fr (lo p q), .int pc] h = .ok (rowD (neat (ledRow (pickOf pc b q) b q p).1 (ledRow (pickOf pc b q) b q p).2).1 (neat (ledRow (pickOf pc b q) b q p).1 (ledRow (pickOf pc b q) b q p).2).2) h := by
  rw [call_fn ht rfl]
  simp only [m_led_writing, start, List.map, List.replicate]
  rw [s_cons]
  simp [new]
  rw [s_cons, s_whl]
  generalize hT : (fun ρ h => evC (⟨callN T G whlC (k + 4), whlC, G⟩ : Sg) (.tr (.cmp .nin (.v 5) (.v 3))) ρ h) = Tt
  generalize hU : (fun ρ h => evSs (⟨callN T G whlC (k + 4), whlC, G⟩ : Sg) [
    .sto (.v 3) (.v 5) (.bi .len [.v 4]),
    .asg (.tp [.nm 6, .nm 5]) (.idx (.call "going_on" [.v 0, .v 5]) (.v 2)),
    .ex (.mt (.v 4) .append [.v 6])] ρ h) = U
  have run : ∀ (n : Nat) (ds : List Int) (x : Option D) (J : Hp), LedS S b q p ds → (2 * q + 2 : Int) ≤ ds.length + n → ∃ x' J', whlC Tt U [some (.int b), some (fr (lo p q)), some (.int pc), some (.ref h.length), some (.ref (h.length + 1)), some (fr (lo (aft b q p ds) q)), x] (h ++ .dict (dq q (pl 0 (sts b q p ds))) :: lsi ds :: J) =
      .nx [some (.int b), some (fr (lo p q)), some (.int pc), some (.ref h.length), some (.ref (h.length + 1)), some (fr (lo (aft b q p (ledD (pickOf pc b q) b q p n ds)) q)), x'] (h ++ .dict (dq q (pl 0 (sts b q p (ledD (pickOf pc b q) b q p n ds)))) :: lsi (ledD (pickOf pc b q) b q p n ds) :: J') := by
    intro n
    induction n with
    | zero => intro ds x J l hn; have := l.len (by omega) hS hp; omega
    | succ n ih =>
      intro ds x J l hn
      have tt : Tt [some (.int b), some (fr (lo p q)), some (.int pc), some (.ref h.length), some (.ref (h.length + 1)), some (fr (lo (aft b q p ds) q)), x] (h ++ .dict (dq q (pl 0 (sts b q p ds))) :: lsi ds :: J) = .ok (decide (aft b q p ds ∉ sts b q p ds)) (h ++ .dict (dq q (pl 0 (sts b q p ds))) :: lsi ds :: J) := by
        rw [← hT]
        simp only [r_ctr, r_cmp, r_v5, r_v3, Res.bind_ok, nin_dq q0 at0, lkq_pl, tR_bl]
        by_cases z : aft b q p ds ∈ sts b q p ds <;> simp [z]
      rw [whlC_turn, tt, ledD]
      by_cases z : aft b q p ds ∈ sts b q p ds
      · rw [if_pos z]
        exact ⟨x, J, by simp [z]⟩
      · rw [if_neg z]
        have ln := l.len (by omega) hS hp
        have lk : lkq (pl 0 (sts b q p ds)) (aft b q p ds) = none := by rw [lkq_pl, if_neg z]
        have line0 : line = 16777216 := rfl
        obtain ⟨g1, g2, g3⟩ := lo_bd20 q0 q1 l.last
        have bd : U [some (.int b), some (fr (lo p q)), some (.int pc), some (.ref h.length), some (.ref (h.length + 1)), some (fr (lo (aft b q p ds) q)), x] (h ++ .dict (dq q (pl 0 (sts b q p ds))) :: lsi ds :: J) =
            .nx [some (.int b), some (fr (lo p q)), some (.int pc), some (.ref h.length), some (.ref (h.length + 1)), some (fr (lo (aft b q p (ds ++ [pickOf pc b q (aft b q p ds)])) q)), some (.int (pickOf pc b q (aft b q p ds)))] (h ++ .dict (dq q (pl 0 (sts b q p (ds ++ [pickOf pc b q (aft b q p ds)])))) :: lsi (ds ++ [pickOf pc b q (aft b q p ds)]) :: (J ++ [.lst ((goes b (lo (aft b q p ds) q)).map goD)])) := by
          rw [← hU]
          dsimp only
          have st : store (.ref h.length) (fr (lo (aft b q p ds) q)) (.int (ds.length : Nat)) (h ++ .dict (dq q (pl 0 (sts b q p ds))) :: lsi ds :: J) = some (h ++ .dict (dq q (pl 0 (sts b q p (ds ++ [pickOf pc b q (aft b q p ds)])))) :: lsi ds :: J) := by
            rw [store_dq q0 at0 lk (by rw [pl_len, sts_len]; omega), set0, sts_snoc, pl_snoc, sts_len, Nat.zero_add]
          have go := s_going_on (G := G) (k := k) (h := h ++ .dict (dq q (pl 0 (sts b q p (ds ++ [pickOf pc b q (aft b q p ds)])))) :: lsi ds :: J) F g1 ⟨g2, g3⟩ b0 b1
          have sh : h ++ Ob.dict (dq q (pl 0 (sts b q p (ds ++ [pickOf pc b q (aft b q p ds)])))) :: lsi ds :: J ++ [Ob.lst ((goes b (lo (aft b q p ds) q)).map goD)] = h ++ .dict (dq q (pl 0 (sts b q p (ds ++ [pickOf pc b q (aft b q p ds)])))) :: lsi ds :: (J ++ [Ob.lst ((goes b (lo (aft b q p ds) q)).map goD)]) := by simp
          rw [sh] at go
          have ix := ix_goes (P := aft b q p ds) (h := h ++ .dict (dq q (pl 0 (sts b q p (ds ++ [pickOf pc b q (aft b q p ds)])))) :: lsi ds :: (J ++ [Ob.lst ((goes b (lo (aft b q p ds) q)).map goD)])) (n := (h ++ .dict (dq q (pl 0 (sts b q p (ds ++ [pickOf pc b q (aft b q p ds)])))) :: lsi ds :: J).length) hpc b0 b1 q0 l.last (by rw [← sh]; exact List.getElem?_concat_length)
          rw [s_cons]
          simp only [s_sto, r_bi, r_cons, r_nil, r_v4, r_v3, r_v5, Res.bind_ok, len_lsi at1, st, Res.into_ok, RS.seq_nx]
          rw [s_cons]
          simp only [s_asg, r_idx, r_call, r_cons, r_nil, r_v0, r_v5, r_v2, Res.bind_ok, go, ix, Res.into_ok, goD, bindT_2, List.set, RS.seq_nx]
          rw [s_cons, s_ex]
          rw [app_lsi (d := pickOf pc b q (aft b q p ds)) at1 (by omega) _ _ _ _ (by simp) (by simp)]
          simp only [Res.into_ok, RS.seq_nx, s_nil, set1]
          rw [aft_app]
          rfl
        have z' : decide (aft b q p ds ∉ sts b q p ds) = true := decide_eq_true z
        rw [z']
        simp only [bd]
        exact ih _ _ _ (l.snoc hS z (hpk _ l.last)) (by rw [List.length_append]; simp; omega)
  obtain ⟨x', J', e⟩ := run (2 * q + 2).toNat [] none [] (LedS.nil hp) (by simp; omega)
  have e' : whlC Tt U [some (.int b), some (fr (lo p q)), some (.int pc), some (.ref h.length), some (.ref (h.length + 1)), some (fr (lo p q)), none] (h ++ [.dict [], .lst []]) = _ := e
  dsimp only
  rw [e']
  obtain ⟨l, hm⟩ := ledD_ok (pick := pickOf pc b q) (by omega) hS hpk hp (2 * q + 2).toNat [] (LedS.nil hp) (by simp; omega)
  have wr := wr_of l.all hm
  unfold ledRow at hshort ⊢
  dsimp only at hshort ⊢
  generalize ledD (pickOf pc b q) b q p (2 * q + 2).toNat [] = ds at *
  obtain ⟨i1, i2⟩ := idx_get hm
  rw [sts_len] at i1
  have lk : lkq (pl 0 (sts b q p ds)) (aft b q p ds) = some (.int ((sts b q p ds).idxOf (aft b q p ds) : Nat)) := by rw [lkq_pl, if_pos hm, Nat.zero_add]
  generalize (sts b q p ds).idxOf (aft b q p ds) = j at *
  have c1 : cut ds none (some (j : Int)) = ds.take j := cut_take (by omega)
  have c2 : cut ds (some (j : Int)) none = ds.drop j := by
    have : ¬ ((j : Int) < 0) := by omega
    have m : min j ds.length = j := by omega
    simp [cut, bound, this, m]
    exact List.take_of_length_le (by simp)
  simp only [RS.seq_nx, s_cons, s_ret, r_call, r_cons, r_nil, r_tup, r_bi, r_slc, r_v4, r_v3, r_v5, r_o0, r_o1, r_idx, Res.bind_ok, ix_dq q0 at0 lk, intO_int, slice_lsi at1, c1, c2]
  have t1 : ∀ (X : Hp) (o : Ob) (l : List Int), X ++ [lsi l] = X ++ [lsi l] → builtin .tup [.ref X.length] (X ++ [lsi l]) = .ok (its l) (X ++ [lsi l]) := fun X o l _ => tup_lsi List.getElem?_concat_length
  rw [t1 _ (.lst []) _ rfl]
  simp only [Res.bind_ok]
  have sh : h ++ Ob.dict (dq q (pl 0 (sts b q p ds))) :: lsi ds :: J' ++ [lsi (ds.take j)] = h ++ Ob.dict (dq q (pl 0 (sts b q p ds))) :: lsi ds :: (J' ++ [lsi (ds.take j)]) := by simp
  rw [sh]
  simp only [ix_dq q0 at0 lk, Res.bind_ok, intO_int, slice_lsi at1, c2]
  rw [t1 _ (.lst []) _ rfl]
  simp only [Res.bind_ok]
  have ne := wr.ne
  rw [s_neat_of (k := k + 3) hnt ne hshort]
  simp only [Res.into_ok, RS.seq_rt, Res.bind_ok]
  rw [List.append_assoc]
  exact fin_pure (pure_row _ _)
end
end Y

set_option linter.all false
set_option maxRecDepth 100000
set_option maxHeartbeats 1000000
/-! Draws beside other objects; the law's led row, its drawn row. -/
namespace Y
open PySem (Str)

/-- all but the hand is kept -/
structure Same (p : Nat) (h h1 : Hp) : Prop where
  len : h1.length = h.length
  at_ : ∀ q, q ≠ p → h1[q]? = h[q]?
theorem Same.refl (p : Nat) (h : Hp) : Same p h h := ⟨rfl, fun _ _ => rfl⟩
theorem Same.trans {p : Nat} {h h1 h2 : Hp} (a : Same p h h1) (b : Same p h1 h2) : Same p h h2 := ⟨b.len.trans a.len, fun q hq => (b.at_ q hq).trans (a.at_ q hq)⟩
theorem Hand.lt {h : Hp} {p c n : Nat} (hh : Hand h p c n) : p < h.length ∧ c < h.length := by
  obtain ⟨_, _, _, _, _, h1, h2, _⟩ := hh
  exact ⟨(List.getElem?_eq_some_iff.mp h1).1, (List.getElem?_eq_some_iff.mp h2).1⟩
theorem split_same {p : Nat} {h J h' : Hp} (hp : p < h.length) (l : h'.length = (h ++ J).length) (s : ∀ q, q ≠ p → h'[q]? = (h ++ J)[q]?) : ∃ h1, h' = h1 ++ J ∧ Same p h h1 := by
  refine ⟨h'.take h.length, ?_, by rw [List.length_take, l, List.length_append]; omega, fun q hq => ?_⟩
  · have e : h'.drop h.length = J := by
      apply List.ext_getElem?
      intro i
      rw [List.getElem?_drop, s _ (by omega), get_right]
    conv => lhs; rw [← List.take_append_drop h.length h', e]
  · by_cases z : q < h.length
    · rw [List.getElem?_take_of_lt z, s q hq, List.getElem?_append_left z]
    · rw [List.getElem?_eq_none (by rw [List.length_take]; omega), List.getElem?_eq_none (by omega)]
theorem Hand.cut {h1 J : Hp} {p c n : Nat} (hp : p < h1.length) (hc : c < h1.length) (hh : Hand (h1 ++ J) p c n) : Hand h1 p c n := by
  obtain ⟨a, ns, b, l, t, e1, e2, e3⟩ := hh
  rw [List.getElem?_append_left hp] at e1
  rw [List.getElem?_append_left hc] at e2
  exact ⟨a, ns, b, l, t, e1, e2, e3⟩
theorem fin_handJ {h h1 J : Hp} {p c n : Nat} {d : D} (s : Same p h h1) (hh : Hand h1 p c n) (hd : d.pure = true) : fin h (.rt d (h1 ++ J)) = .ok d h1 := by
  have lt := hh.lt
  have e : elder h (h1 ++ J) = true := by
    unfold elder
    rw [List.all_eq_true]
    intro i hi
    have hi' := List.mem_range.mp hi
    rw [List.getElem?_append_left (by rw [s.len]; exact hi')]
    by_cases z : i = p
    · subst z
      obtain ⟨_, ns, a, l, t, h1', h2, _⟩ := hh
      rw [h1']
      have := lt.2
      rw [s.len] at this
      simp [Ob.flat, D.underL, D.under, this]
    · rw [s.at_ i z]; simp
  obtain ⟨p1, p2⟩ := news_pure h.length d hd []
  show left h d (h1 ++ J) = _
  unfold left
  simp only [p1, e, p2, List.all_nil, Bool.and_self, if_true, List.filterMap_nil, List.append_nil]
  rw [List.take_append_of_le_length (by rw [s.len]; exact Nat.le_refl _), List.take_of_length_le (by rw [s.len]; exact Nat.le_refl _)]
section
variable {T : Tbl} {G : String → Option D} {W : Wh} {k : Nat} {h J : Hp} {p c n : Nat}
theorem s_drawA {m : Int} (F : DT T) (hh : Hand h p c n) (hn : n < 2 ^ 39) (h0 : 0 < m) (h1 : m.natAbs < 2 ^ 64) :
    ∃ r h1, callN T G W (k + 2) "_law_draw" [.ref p, .int m] (h ++ J) = .ok (.int r) (h1 ++ J) ∧ 0 ≤ r ∧ r < m ∧ Hand h1 p c (n + 1) ∧ Same p h h1 := by
  obtain ⟨r, h', e, r0, r1, hh', l1, q1⟩ := s_draw (G := G) (W := W) (k := k) F.draw F.mixed (hh.app J) hn h0 h1
  have lt := hh.lt
  obtain ⟨h1, rfl, s⟩ := split_same lt.1 l1 q1
  exact ⟨r, h1, e, r0, r1, hh'.cut (by rw [s.len]; exact lt.1) (by rw [s.len]; exact lt.2), s⟩
theorem s_anyA {s : Nat} {xs : List D} (F : DT T) (hh : Hand h p c n) (hn : n < 2 ^ 39) (hs : (h ++ J)[s]? = some (.lst xs)) (hne : xs ≠ []) (hz : xs.length < 1000) (hp : h.length ≤ s) (hpu : ∀ d ∈ xs, d.pure = true) :
    ∃ v h1, callN T G W (k + 3) "_law_any" [.ref p, .ref s] (h ++ J) = .ok v (h1 ++ J) ∧ v ∈ xs ∧ Hand h1 p c (n + 1) ∧ Same p h h1 := by
  have hl : 0 < xs.length := List.length_pos_iff.mpr hne
  have lt := hh.lt
  obtain ⟨r, h1, e, r0, r1, hh', s1⟩ := s_drawA (G := G) (W := W) (k := k) (J := J) (m := xs.length) F hh hn (by omega) (by omega)
  have hr : r.toNat < xs.length := by omega
  refine ⟨xs[r.toNat], h1, ?_, List.getElem_mem hr, hh', s1⟩
  rw [call_fn F.any rfl]
  have ln : builtin .len [.ref s] (h ++ J) = .ok (.int (xs.length : Nat)) (h ++ J) := by simp [builtin, lenOf, hs]
  have hs' : (h1 ++ J)[s]? = some (.lst xs) := by
    rw [List.getElem?_append_right (by rw [s1.len]; exact hp)] 
    rw [List.getElem?_append_right hp] at hs
    rw [s1.len]; exact hs
  have ix : index (.ref s) (.int r) (h1 ++ J) = .ok xs[r.toNat] (h1 ++ J) := by
    have e1 : place xs.length r = some r.toNat := by
      unfold place
      rw [if_pos r0, if_pos r1]
    simp only [index, hs', item, e1, Option.bind_some]
    rw [List.getElem?_eq_getElem hr]
    rfl
  simp only [m__law_any, s_cons, s_ret, start, List.map, List.replicate, r_idx, r_v1, r_v0, r_call, r_cons, r_nil, r_bi, Res.bind_ok, ln, e, ix, Res.into_ok, RS.seq_rt, List.cons_append, List.nil_append]
  have sJ : Same p (h ++ J) (h1 ++ J) := ⟨by simp [s1.len], fun q hq => by
    by_cases z : q < h.length
    · rw [List.getElem?_append_left z, List.getElem?_append_left (by rw [s1.len]; exact z), s1.at_ q hq]
    · have sl := s1.len
      rw [List.getElem?_append_right (by omega), List.getElem?_append_right (by omega), sl]⟩
  have := fin_handJ (J := []) sJ (hh'.app J) (hpu _ (List.getElem_mem hr))
  rw [List.append_nil] at this
  exact this
end
section
variable {T : Tbl} {G : String → Option D} {k : Nat} {h : Hp} {b q p pc : Int}
theorem s_lled (F : LT T) (ht : T "_law_led" = some (.fn 3 7 m__law_led)) (hnt : T "_law_neat" = some (.fn 1 5 m__law_neat)) {S : Int → Int → Prop} (hS : ∀ p d, S p d → Legal b q p d) (hpk : ∀ P, -q ≤ P ∧ P ≤ q → S P (pickOf pc b q P)) (hpc : pc = 0 ∨ pc = -1) (b0 : 2 ≤ b) (b1 : b ≤ 5) (q0 : 0 < q) (q1 : q ≤ 1000) (hp : -q ≤ p ∧ p ≤ q) :
    callN T G whlC (k + 4) "_law_led" [.int b, fr (lo p q), .int pc] h = .ok (rowD (neat (ledRow (pickOf pc b q) b q p).1 (ledRow (pickOf pc b q) b q p).2).1 (neat (ledRow (pickOf pc b q) b q p).1 (ledRow (pickOf pc b q) b q p).2).2) h := by
  rw [call_fn ht rfl]
  simp only [m__law_led, start, List.map, List.replicate]
  rw [s_cons]
  simp [new]
  rw [s_cons, s_whl]
  generalize hT : (fun ρ h => evC (⟨callN T G whlC (k + 3), whlC, G⟩ : Sg) (.tr (.cmp .nin (.v 4) (.v 5))) ρ h) = Tt
  generalize hU : (fun ρ h => evSs (⟨callN T G whlC (k + 3), whlC, G⟩ : Sg) [
    .sto (.v 5) (.v 4) (.bi .len [.v 3]),
    .asg (.tp [.nm 6, .nm 4]) (.idx (.call "_law_goes" [.v 0, .v 4]) (.v 2)),
    .ex (.mt (.v 3) .append [.v 6])] ρ h) = U
  have run : ∀ (n : Nat) (ds : List Int) (x : Option D) (J : Hp), LedS S b q p ds → (2 * q + 2 : Int) ≤ ds.length + n → ∃ x' J', whlC Tt U [some (.int b), some (fr (lo p q)), some (.int pc), some (.ref h.length), some (fr (lo (aft b q p ds) q)), some (.ref (h.length + 1)), x] (h ++ lsi ds :: .dict (dq q (pl 0 (sts b q p ds))) :: J) =
      .nx [some (.int b), some (fr (lo p q)), some (.int pc), some (.ref h.length), some (fr (lo (aft b q p (ledD (pickOf pc b q) b q p n ds)) q)), some (.ref (h.length + 1)), x'] (h ++ lsi (ledD (pickOf pc b q) b q p n ds) :: .dict (dq q (pl 0 (sts b q p (ledD (pickOf pc b q) b q p n ds)))) :: J') := by
    intro n
    induction n with
    | zero => intro ds x J l hn; have := l.len (by omega) hS hp; omega
    | succ n ih =>
      intro ds x J l hn
      have tt : Tt [some (.int b), some (fr (lo p q)), some (.int pc), some (.ref h.length), some (fr (lo (aft b q p ds) q)), some (.ref (h.length + 1)), x] (h ++ lsi ds :: .dict (dq q (pl 0 (sts b q p ds))) :: J) = .ok (decide (aft b q p ds ∉ sts b q p ds)) (h ++ lsi ds :: .dict (dq q (pl 0 (sts b q p ds))) :: J) := by
        rw [← hT]
        simp only [r_ctr, r_cmp, r_v5, r_v4, Res.bind_ok, nin_dq q0 at1, lkq_pl, tR_bl]
        by_cases z : aft b q p ds ∈ sts b q p ds <;> simp [z]
      rw [whlC_turn, tt, ledD]
      by_cases z : aft b q p ds ∈ sts b q p ds
      · rw [if_pos z]
        exact ⟨x, J, by simp [z]⟩
      · rw [if_neg z]
        have ln := l.len (by omega) hS hp
        have lk : lkq (pl 0 (sts b q p ds)) (aft b q p ds) = none := by rw [lkq_pl, if_neg z]
        have line0 : line = 16777216 := rfl
        obtain ⟨g1, g2, g3⟩ := lo_bd20 q0 (by omega) l.last
        have bd : U [some (.int b), some (fr (lo p q)), some (.int pc), some (.ref h.length), some (fr (lo (aft b q p ds) q)), some (.ref (h.length + 1)), x] (h ++ lsi ds :: .dict (dq q (pl 0 (sts b q p ds))) :: J) =
            .nx [some (.int b), some (fr (lo p q)), some (.int pc), some (.ref h.length), some (fr (lo (aft b q p (ds ++ [pickOf pc b q (aft b q p ds)])) q)), some (.ref (h.length + 1)), some (.int (pickOf pc b q (aft b q p ds)))] (h ++ lsi (ds ++ [pickOf pc b q (aft b q p ds)]) :: .dict (dq q (pl 0 (sts b q p (ds ++ [pickOf pc b q (aft b q p ds)])))) :: (J ++ [.lst ((goes b (lo (aft b q p ds) q)).map goD)])) := by
          rw [← hU]
          dsimp only
          have st : store (.ref (h.length + 1)) (fr (lo (aft b q p ds) q)) (.int (ds.length : Nat)) (h ++ lsi ds :: .dict (dq q (pl 0 (sts b q p ds))) :: J) = some (h ++ lsi ds :: .dict (dq q (pl 0 (sts b q p (ds ++ [pickOf pc b q (aft b q p ds)])))) :: J) := by
            rw [store_dq q0 at1 lk (by rw [pl_len, sts_len]; omega), set1, sts_snoc, pl_snoc, sts_len, Nat.zero_add]
          have go := s_lgoes (G := G) (k := k) (h := h ++ lsi ds :: .dict (dq q (pl 0 (sts b q p (ds ++ [pickOf pc b q (aft b q p ds)])))) :: J) F g1 ⟨g2, g3⟩ b0 b1
          have sh : h ++ lsi ds :: Ob.dict (dq q (pl 0 (sts b q p (ds ++ [pickOf pc b q (aft b q p ds)])))) :: J ++ [Ob.lst ((goes b (lo (aft b q p ds) q)).map goD)] = h ++ lsi ds :: .dict (dq q (pl 0 (sts b q p (ds ++ [pickOf pc b q (aft b q p ds)])))) :: (J ++ [Ob.lst ((goes b (lo (aft b q p ds) q)).map goD)]) := by simp
          rw [sh] at go
          have ix := ix_goes (P := aft b q p ds) (h := h ++ lsi ds :: .dict (dq q (pl 0 (sts b q p (ds ++ [pickOf pc b q (aft b q p ds)])))) :: (J ++ [Ob.lst ((goes b (lo (aft b q p ds) q)).map goD)])) (n := (h ++ lsi ds :: Ob.dict (dq q (pl 0 (sts b q p (ds ++ [pickOf pc b q (aft b q p ds)])))) :: J).length) hpc b0 b1 q0 l.last (by rw [← sh]; exact List.getElem?_concat_length)
          rw [s_cons]
          simp only [s_sto, r_bi, r_cons, r_nil, r_v4, r_v3, r_v5, Res.bind_ok, len_lsi at0, st, Res.into_ok, RS.seq_nx]
          rw [s_cons]
          simp only [s_asg, r_idx, r_call, r_cons, r_nil, r_v0, r_v4, r_v2, Res.bind_ok, go, ix, Res.into_ok, goD, bindT_2, List.set, RS.seq_nx]
          rw [s_cons, s_ex]
          rw [app_lsi (d := pickOf pc b q (aft b q p ds)) at0 (by omega) _ _ _ _ (by simp) (by simp)]
          simp only [Res.into_ok, RS.seq_nx, s_nil, set0]
          rw [aft_app]
          rfl
        have z' : decide (aft b q p ds ∉ sts b q p ds) = true := decide_eq_true z
        rw [z']
        simp only [bd]
        exact ih _ _ _ (l.snoc hS z (hpk _ l.last)) (by rw [List.length_append]; simp; omega)
  obtain ⟨x', J', e⟩ := run (2 * q + 2).toNat [] none [] (LedS.nil hp) (by simp; omega)
  have e' : whlC Tt U [some (.int b), some (fr (lo p q)), some (.int pc), some (.ref h.length), some (fr (lo p q)), some (.ref (h.length + 1)), none] (h ++ [.lst [], .dict []]) = _ := e
  dsimp only
  rw [e']
  obtain ⟨l, hm⟩ := ledD_ok (pick := pickOf pc b q) (by omega) hS hpk hp (2 * q + 2).toNat [] (LedS.nil hp) (by simp; omega)
  have wr := wr_of l.all hm
  have ln := l.len (by omega) hS hp
  unfold ledRow
  dsimp only
  generalize ledD (pickOf pc b q) b q p (2 * q + 2).toNat [] = ds at *
  obtain ⟨i1, i2⟩ := idx_get hm
  rw [sts_len] at i1
  have lk : lkq (pl 0 (sts b q p ds)) (aft b q p ds) = some (.int ((sts b q p ds).idxOf (aft b q p ds) : Nat)) := by rw [lkq_pl, if_pos hm, Nat.zero_add]
  generalize (sts b q p ds).idxOf (aft b q p ds) = j at *
  have c1 : cut ds none (some (j : Int)) = ds.take j := cut_take (by omega)
  have c2 : cut ds (some (j : Int)) none = ds.drop j := by
    have : ¬ ((j : Int) < 0) := by omega
    have m : min j ds.length = j := by omega
    simp [cut, bound, this, m]
    exact List.take_of_length_le (by simp)
  simp only [RS.seq_nx, s_cons, s_ret, r_call, r_cons, r_nil, r_tup, r_bi, r_slc, r_v4, r_v3, r_v5, r_o0, r_o1, r_idx, Res.bind_ok, ix_dq q0 at1 lk, intO_int, slice_lsi at0, c1, c2]
  have t1 : ∀ (X : Hp) (o : Ob) (l : List Int), X ++ [lsi l] = X ++ [lsi l] → builtin .tup [.ref X.length] (X ++ [lsi l]) = .ok (its l) (X ++ [lsi l]) := fun X o l _ => tup_lsi List.getElem?_concat_length
  rw [t1 _ (.lst []) _ rfl]
  simp only [Res.bind_ok]
  have sh : h ++ lsi ds :: Ob.dict (dq q (pl 0 (sts b q p ds))) :: J' ++ [lsi (ds.take j)] = h ++ lsi ds :: Ob.dict (dq q (pl 0 (sts b q p ds))) :: (J' ++ [lsi (ds.take j)]) := by simp
  rw [sh]
  simp only [ix_dq q0 at1 lk, Res.bind_ok, intO_int, slice_lsi at0, c2]
  rw [t1 _ (.lst []) _ rfl]
  simp only [Res.bind_ok]
  have ne := wr.ne
  rw [s_lneat (k := k + 2) hnt ne (by rw [List.length_drop]; omega)]
  simp only [Res.into_ok, RS.seq_rt, Res.bind_ok]
  rw [List.append_assoc]
  exact fin_pure (pure_row _ _)
end
end Y

set_option linter.all false
set_option maxRecDepth 100000
set_option maxHeartbeats 1000000
/-! The law's drawn row. -/
namespace Y
open PySem (Str)

def m__law_writing : List S := [
  .asg (.tp [.nm 3, .nm 4, .nm 5, .nm 6]) (.tup [.lst [], .v 2, .dict0, .dict0]),
  .for_ (.nm 7) (.rng (.call "_law_draw" [.v 0, .c (.int 6)])) [
    .asg (.tp [.nm 8, .nm 4]) (.call "_law_any" [.v 0, .call "_law_goes" [.v 1, .v 4]]),
    .ex (.mt (.v 3) .append [.v 8])],
  .whl (.tr (.cmp .nin (.v 4) (.v 6))) [
    .sto (.v 6) (.v 4) (.bi .len [.v 3]),
    .sto (.v 5) (.v 4) (.call "_law_any" [.v 0, .call "_law_goes" [.v 1, .v 4]]),
    .ex (.mt (.v 3) .append [.idx (.idx (.v 5) (.v 4)) (.c (.int 0))]),
    .asg (.nm 4) (.idx (.idx (.v 5) (.v 4)) (.c (.int 1)))],
  .ret (.tup [.bi .tup [.slc (.v 3) none (some (.idx (.v 6) (.v 4)))], .bi .tup [.slc (.v 3) (some (.idx (.v 6) (.v 4))) none]])]
@[simp] theorem bindT_4 (i j l m : Nat) (d e f g : D) (ρ : Env) (h : Hp) : bindT (.tp [.nm i, .nm j, .nm l, .nm m]) (.tup [d, e, f, g]) ρ h = some ((((ρ.set i (some d)).set j (some e)).set l (some f)).set m (some g)) := rfl
theorem pure_goD (x : Int × (Int × Int)) : (goD x).pure = true := by simp [goD, D.pure, D.pureL]
theorem lkq_snoc (P : Int) (v : D) : ∀ L : List (Int × D), lkq L P = none → lkq (L ++ [(P, v)]) P = some v
  | [], _ => by simp [lkq]
  | (P', v') :: r, h => by
    rw [lkq] at h
    split at h
    · cases h
    · rename_i z
      rw [List.cons_append, lkq, if_neg z, lkq_snoc P v r h]
theorem lkq_snoc' {P P' : Int} (hn : P' ≠ P) (v : D) : ∀ L : List (Int × D), lkq L P = none → lkq (L ++ [(P', v)]) P = none
  | [], _ => by simp [lkq, hn]
  | (P2, v') :: r, h => by
    rw [lkq] at h
    split at h
    · cases h
    · rename_i z
      rw [List.cons_append, lkq, if_neg z, lkq_snoc' hn v r h]
section
variable {T : Tbl} {G : String → Option D} {k : Nat} {h J : Hp} {pp c n : Nat} {b q p : Int}
/-- one digit is drawn -/
theorem s_goany (F : LT T) (D1 : DT T) (hh : Hand h pp c n) (hn : n < 2 ^ 39) (b0 : 2 ≤ b) (b1 : b ≤ 5) (q0 : 0 < q) (q1 : q ≤ 1000) {P : Int} (hP : -q ≤ P ∧ P ≤ q) :
    ∃ d h1 X, callN T G whlC (k + 4) "_law_goes" [.int b, fr (lo P q)] (h ++ J) = .ok (.ref (h ++ J).length) (h ++ J ++ [X]) ∧ callN T G whlC (k + 4) "_law_any" [.ref pp, .ref (h ++ J).length] (h ++ J ++ [X]) = .ok (goD (d, lo (P * b - d * q) q)) (h1 ++ (J ++ [X])) ∧ Legal b q P d ∧ Hand h1 pp c (n + 1) ∧ Same pp h h1 := by
  obtain ⟨g1, g2, g3⟩ := lo_bd20 q0 (by omega) hP
  have go := s_lgoes (G := G) (k := k + 1) (h := h ++ J) F g1 ⟨g2, g3⟩ b0 b1
  have lt := hh.lt
  have ge := goes_lo (b := b) q0 P
  have len : (goes b (lo P q)).length < 1000 := by
    have := goesL_len (b := b) (r := lo P q) (a := ilist (1 - b) (b - (1 - b)).toNat)
    rw [ilist_len] at this
    have e : (goes b (lo P q)).length ≤ _ := this
    omega
  obtain ⟨v, h1, e, hv, hh', s⟩ := s_anyA (G := G) (W := whlC) (k := k + 1) (J := J ++ [.lst ((goes b (lo P q)).map goD)]) (s := (h ++ J).length) (xs := (goes b (lo P q)).map goD) D1 hh hn (by rw [← List.append_assoc]; exact List.getElem?_concat_length)
    (by rw [ge]; simpa using digs_ne b0 b1 q0 hP) (by rw [List.length_map]; exact len) (by simp) (fun d hd => by
      simp only [List.mem_map] at hd
      obtain ⟨x, _, rfl⟩ := hd
      exact pure_goD x)
  rw [ge] at hv
  simp only [List.mem_map] at hv
  obtain ⟨_, ⟨d, hd, rfl⟩, rfl⟩ := hv
  exact ⟨d, h1, _, go, by rw [← List.append_assoc] at e; exact e, (mem_digs b0).mp hd, hh', s⟩
theorem s_writing (F : LT T) (D1 : DT T) (ht : T "_law_writing" = some (.fn 3 9 m__law_writing)) (hh : Hand h pp c n) (hn : n < 2 ^ 38) (b0 : 2 ≤ b) (b1 : b ≤ 5) (q0 : 0 < q) (q1 : q ≤ 27) (hp : -q ≤ p ∧ p ≤ q) :
    ∃ A B h1 n', callN T G whlC (k + 5) "_law_writing" [.ref pp, .int b, fr (lo p q)] h = .ok (rowD A B) h1 ∧ Wr (Legal b q) b q p A B ∧ A.length + B.length ≤ 60 ∧ Hand h1 pp c n' ∧ Same pp h h1 ∧ n' ≤ n + 100 := by
  rw [call_fn ht rfl]
  simp only [m__law_writing, start, List.map, List.replicate]
  rw [s_cons]
  simp [new]
  rw [s_cons]
  have hS : ∀ p d, Legal b q p d → Legal b q p d := fun _ _ x => x
  have line0 : line = 16777216 := rfl
  obtain ⟨r, h1, e1, r0, r1, H1, s1⟩ := s_drawA (G := G) (W := whlC) (k := k + 2) (J := [.lst [], .dict [], .dict []]) (m := 6) D1 hh (by omega) (by decide) (by decide)
  obtain ⟨rn, rfl⟩ : ∃ rn : Nat, r = rn := ⟨r.toNat, by omega⟩
  rw [for_src (s := ⟨irange 0 rn, [], none⟩) (h' := h1 ++ [.lst [], .dict [], .dict []]) (by simp [e1, range1_nat (show rn ≤ line by omega)]) rfl]
  generalize hBd : (fun ρ h => evSs (⟨callN T G whlC (k + 4), whlC, G⟩ : Sg) [
    .asg (.tp [.nm 8, .nm 4]) (.call "_law_any" [.v 0, .call "_law_goes" [.v 1, .v 4]]),
    .ex (.mt (.v 3) .append [.v 8])] ρ h) = Bd
  obtain ⟨ρ1, H1', e2, i2⟩ := forL_run (t := .nm 7) (g := []) (body := Bd) (fun todo ρ H => ∃ ds h1 J x y, ds.length + todo.length = rn ∧ AllS (Legal b q) b q p ds ∧ (-q ≤ aft b q p ds ∧ aft b q p ds ≤ q) ∧ Hand h1 pp c (n + 1 + ds.length) ∧ Same pp h h1 ∧ H = h1 ++ lsi ds :: .dict [] :: .dict [] :: J ∧ ρ = [some (.ref pp), some (.int b), some (fr (lo p q)), some (.ref h.length), some (fr (lo (aft b q p ds) q)), some (.ref (h.length + 1)), some (.ref (h.length + 2)), x, y])
    (fun _ _ _ _ => rfl) (fun d todo ρ H hi => by
      obtain ⟨ds, h1, J, x, y, a1, a2, a3, a4, a5, rfl, rfl⟩ := hi
      rw [List.length_cons] at a1
      obtain ⟨d0, h2, X, g1, g2, g3, g4, g5⟩ := s_goany (G := G) (k := k) (J := lsi ds :: .dict [] :: .dict [] :: J) F D1 a4 (by omega) b0 b1 q0 (by omega) a3
      refine ⟨_, _, _, rfl, ?_, ds ++ [d0], h2, J ++ [X], some d, some (.int d0), ?_, ?_, ?_, ?_, a5.trans g5, rfl, rfl⟩
      · rw [← hBd]
        dsimp only
        rw [s_cons]
        simp only [s_asg, r_call, r_cons, r_nil, r_v0, r_v1, r_v4, List.set, Res.bind_ok, g1, g2, goD, Res.into_ok, bindT_2, RS.seq_nx]
        have hl : h2.length = h.length := (a5.trans g5).len
        have ap := at0 (h := h2) (a := lsi ds) (J := .dict [] :: .dict [] :: J ++ [X])
        rw [hl] at ap
        rw [s_cons, s_ex]
        simp only [List.cons_append] at ap ⊢
        rw [app_lsi (d := d0) ap (by omega) _ _ _ _ (by simp) (by simp)]
        simp only [Res.into_ok, RS.seq_nx, s_nil]
        have st := set0 (h := h2) (a := lsi ds) (J := .dict [] :: .dict [] :: (J ++ [X])) (o := lsi (ds ++ [d0]))
        rw [hl] at st
        rw [st, aft_app]
        rfl
      · rw [List.length_append]; simp; omega
      · rw [allS_app]; exact ⟨a2, g3, trivial⟩
      · rw [aft_app]; exact ⟨g3.2.2.1, g3.2.2.2⟩
      · rw [List.length_append]; exact g4) (irange 0 rn) _ _ ⟨[], h1, [], none, none, by simp [irange_len], trivial, hp, H1, s1, rfl, rfl⟩
  obtain ⟨ds0, h2, J2, x2, y2, a1, a2, a3, a4, a5, rfl, rfl⟩ := i2
  rw [List.length_nil, Nat.add_zero] at a1
  have e2' : forL (Y.T.nm 7) [] Bd (irange 0 rn) [some (.ref pp), some (.int b), some (fr (lo p q)), some (.ref h.length), some (fr (lo p q)), some (.ref (h.length + 1)), some (.ref (h.length + 2)), none, none] (h1 ++ [.lst [], .dict [], .dict []]) = _ := e2
  dsimp only
  rw [e2']
  simp only [RS.seq_nx]
  rw [s_cons, s_whl]
  generalize hT : (fun ρ h => evC (⟨callN T G whlC (k + 4), whlC, G⟩ : Sg) (.tr (.cmp .nin (.v 4) (.v 6))) ρ h) = Tt
  generalize hU : (fun ρ h => evSs (⟨callN T G whlC (k + 4), whlC, G⟩ : Sg) [
    .sto (.v 6) (.v 4) (.bi .len [.v 3]),
    .sto (.v 5) (.v 4) (.call "_law_any" [.v 0, .call "_law_goes" [.v 1, .v 4]]),
    .ex (.mt (.v 3) .append [.idx (.idx (.v 5) (.v 4)) (.c (.int 0))]),
    .asg (.nm 4) (.idx (.idx (.v 5) (.v 4)) (.c (.int 1)))] ρ h) = U
  have run : ∀ (m : Nat) (es : List Int) (fm : List (Int × D)) (hX : Hp) (J : Hp), LedS (Legal b q) b q (aft b q p ds0) es → (2 * q + 2 : Int) ≤ es.length + m → (∀ P, P ∉ sts b q (aft b q p ds0) es → lkq fm P = none) → fm.length = es.length → Hand hX pp c (n + 1 + ds0.length + es.length) → Same pp h hX →
      ∃ es' fm' hX' J', LedS (Legal b q) b q (aft b q p ds0) es' ∧ aft b q (aft b q p ds0) es' ∈ sts b q (aft b q p ds0) es' ∧ Hand hX' pp c (n + 1 + ds0.length + es'.length) ∧ Same pp h hX' ∧ whlC Tt U [some (.ref pp), some (.int b), some (fr (lo p q)), some (.ref h.length), some (fr (lo (aft b q (aft b q p ds0) es) q)), some (.ref (h.length + 1)), some (.ref (h.length + 2)), x2, y2] (hX ++ lsi (ds0 ++ es) :: .dict (dq q fm) :: .dict (dq q (pl ds0.length (sts b q (aft b q p ds0) es))) :: J) =
        .nx [some (.ref pp), some (.int b), some (fr (lo p q)), some (.ref h.length), some (fr (lo (aft b q (aft b q p ds0) es') q)), some (.ref (h.length + 1)), some (.ref (h.length + 2)), x2, y2] (hX' ++ lsi (ds0 ++ es') :: .dict (dq q fm') :: .dict (dq q (pl ds0.length (sts b q (aft b q p ds0) es'))) :: J') := by
    intro m
    induction m with
    | zero => intro es fm hX J l hm _ _ _ _; have := l.len (by omega) hS a3; omega
    | succ m ih =>
      intro es fm hX J l hm hf hfl HX sX
      have hl : hX.length = h.length := sX.len
      have p2 : ∀ (a b c : Ob) (J : Hp), (hX ++ a :: b :: c :: J)[h.length + 2]? = some c := fun a b c J => by rw [← hl]; exact at2
      have p1 : ∀ (a b : Ob) (J : Hp), (hX ++ a :: b :: J)[h.length + 1]? = some b := fun a b J => by rw [← hl]; exact at1
      have p0 : ∀ (a : Ob) (J : Hp), (hX ++ a :: J)[h.length]? = some a := fun a J => by rw [← hl]; exact at0
      have tt : Tt [some (.ref pp), some (.int b), some (fr (lo p q)), some (.ref h.length), some (fr (lo (aft b q (aft b q p ds0) es) q)), some (.ref (h.length + 1)), some (.ref (h.length + 2)), x2, y2] (hX ++ lsi (ds0 ++ es) :: .dict (dq q fm) :: .dict (dq q (pl ds0.length (sts b q (aft b q p ds0) es))) :: J) = .ok (decide (aft b q (aft b q p ds0) es ∉ sts b q (aft b q p ds0) es)) (hX ++ lsi (ds0 ++ es) :: .dict (dq q fm) :: .dict (dq q (pl ds0.length (sts b q (aft b q p ds0) es))) :: J) := by
        rw [← hT]
        simp only [r_ctr, r_cmp, r_v6, r_v4, Res.bind_ok, nin_dq q0 (p2 _ _ _ _), lkq_pl, tR_bl]
        by_cases z : aft b q (aft b q p ds0) es ∈ sts b q (aft b q p ds0) es <;> simp [z]
      rw [whlC_turn, tt]
      by_cases z : aft b q (aft b q p ds0) es ∈ sts b q (aft b q p ds0) es
      · exact ⟨es, fm, hX, J, l, z, HX, sX, by simp [z]⟩
      · have ln := l.len (by omega) hS a3
        have lk : lkq (pl ds0.length (sts b q (aft b q p ds0) es)) (aft b q (aft b q p ds0) es) = none := by rw [lkq_pl, if_neg z]
        generalize hP : aft b q (aft b q p ds0) es = P at *
        have lastP : -q ≤ P ∧ P ≤ q := hP ▸ l.last
        obtain ⟨d0, hY, X, g1, g2, g3, g4, g5⟩ := s_goany (G := G) (k := k) (J := lsi (ds0 ++ es) :: .dict (dq q fm) :: .dict (dq q (pl ds0.length (sts b q (aft b q p ds0) es) ++ [(P, .int ((ds0 ++ es).length : Nat))])) :: J) F D1 HX (by omega) b0 b1 q0 (by omega) lastP
        have hl2 : hY.length = h.length := (sX.trans g5).len
        have y2' : ∀ (a b c : Ob) (J : Hp), (hY ++ a :: b :: c :: J)[h.length + 2]? = some c := fun a b c J => by rw [← hl2]; exact at2
        have y1' : ∀ (a b : Ob) (J : Hp), (hY ++ a :: b :: J)[h.length + 1]? = some b := fun a b J => by rw [← hl2]; exact at1
        have y0' : ∀ (a : Ob) (J : Hp), (hY ++ a :: J)[h.length]? = some a := fun a J => by rw [← hl2]; exact at0
        have st1 : store (.ref (h.length + 2)) (fr (lo P q)) (.int ((ds0 ++ es).length : Nat)) (hX ++ lsi (ds0 ++ es) :: .dict (dq q fm) :: .dict (dq q (pl ds0.length (sts b q (aft b q p ds0) es))) :: J) = some (hX ++ lsi (ds0 ++ es) :: .dict (dq q fm) :: .dict (dq q (pl ds0.length (sts b q (aft b q p ds0) es) ++ [(P, .int ((ds0 ++ es).length : Nat))])) :: J) := by
          rw [store_dq q0 (p2 _ _ _ _) lk (by rw [pl_len, sts_len]; omega), ← hl, set2]
        have lf := hf P z
        have st2 : store (.ref (h.length + 1)) (fr (lo P q)) (goD (d0, lo (P * b - d0 * q) q)) (hY ++ (lsi (ds0 ++ es) :: .dict (dq q fm) :: .dict (dq q (pl ds0.length (sts b q (aft b q p ds0) es) ++ [(P, .int ((ds0 ++ es).length : Nat))])) :: J ++ [X])) = some (hY ++ lsi (ds0 ++ es) :: .dict (dq q (fm ++ [(P, goD (d0, lo (P * b - d0 * q) q))])) :: .dict (dq q (pl ds0.length (sts b q (aft b q p ds0) es) ++ [(P, .int ((ds0 ++ es).length : Nat))])) :: (J ++ [X])) := by
          simp only [List.cons_append]
          rw [store_dq q0 (y1' _ _ _) lf (by omega), ← hl2, set1]
        have lf2 : lkq (fm ++ [(P, goD (d0, lo (P * b - d0 * q) q))]) P = some (goD (d0, lo (P * b - d0 * q) q)) := lkq_snoc P _ fm lf
        have bd : U [some (.ref pp), some (.int b), some (fr (lo p q)), some (.ref h.length), some (fr (lo P q)), some (.ref (h.length + 1)), some (.ref (h.length + 2)), x2, y2] (hX ++ lsi (ds0 ++ es) :: .dict (dq q fm) :: .dict (dq q (pl ds0.length (sts b q (aft b q p ds0) es))) :: J) =
            .nx [some (.ref pp), some (.int b), some (fr (lo p q)), some (.ref h.length), some (fr (lo (P * b - d0 * q) q)), some (.ref (h.length + 1)), some (.ref (h.length + 2)), x2, y2] (hY ++ lsi (ds0 ++ (es ++ [d0])) :: .dict (dq q (fm ++ [(P, goD (d0, lo (P * b - d0 * q) q))])) :: .dict (dq q (pl ds0.length (sts b q (aft b q p ds0) es) ++ [(P, .int ((ds0 ++ es).length : Nat))])) :: (J ++ [X])) := by
          rw [← hU]
          dsimp only
          rw [s_cons]
          simp only [s_sto, r_bi, r_cons, r_nil, r_v4, r_v3, r_v6, Res.bind_ok, len_lsi (p0 _ _), st1, Res.into_ok, RS.seq_nx]
          rw [s_cons]
          simp only [s_sto, r_call, r_cons, r_nil, r_v4, r_v0, r_v1, r_v5, Res.bind_ok, g1, g2, st2, Res.into_ok, RS.seq_nx]
          rw [s_cons, s_ex]
          have ixd := ix_dq q0 (P := P) (y1' (lsi (ds0 ++ es)) (.dict (dq q (fm ++ [(P, goD (d0, lo (P * b - d0 * q) q))]))) (.dict (dq q (pl ds0.length (sts b q (aft b q p ds0) es) ++ [(P, .int ((ds0 ++ es).length : Nat))])) :: (J ++ [X]))) lf2
          rw [app_lsi (d := d0) (y0' _ _) (by rw [List.length_append]; omega) _ _ _ _ (by rw [r_v3]) (by simp only [r_idx, r_v5, r_v4, r_c, Res.bind_ok, ixd]; simp [goD])]
          simp only [Res.into_ok, RS.seq_nx]
          have st0 : ∀ (a o : Ob) (J : Hp), (hY ++ a :: J).set h.length o = hY ++ o :: J := fun a o J => by rw [← hl2]; exact set0
          rw [st0, List.append_assoc]
          have ixd2 := ix_dq q0 (P := P) (y1' (lsi (ds0 ++ (es ++ [d0]))) (.dict (dq q (fm ++ [(P, goD (d0, lo (P * b - d0 * q) q))]))) (.dict (dq q (pl ds0.length (sts b q (aft b q p ds0) es) ++ [(P, .int ((ds0 ++ es).length : Nat))])) :: (J ++ [X]))) lf2
          rw [s_cons]
          simp only [s_asg, r_idx, r_v5, r_v4, r_c, Res.bind_ok, ixd2]
          simp only [goD, ix_t1, Res.into_ok, bindT_nm, List.set, RS.seq_nx, s_nil]
        have z' : decide (P ∉ sts b q (aft b q p ds0) es) = true := decide_eq_true z
        rw [z']
        simp only [bd]
        have e3 : aft b q (aft b q p ds0) (es ++ [d0]) = P * b - d0 * q := by rw [aft_app, hP]; rfl
        have e4 : sts b q (aft b q p ds0) (es ++ [d0]) = sts b q (aft b q p ds0) es ++ [P] := by rw [sts_snoc, hP]
        have := ih (es ++ [d0]) (fm ++ [(P, goD (d0, lo (P * b - d0 * q) q))]) hY (J ++ [X]) (l.snoc hS (by rw [hP]; exact z) (by rw [hP]; exact g3)) (by rw [List.length_append]; simp; omega)
          (fun P' hP' => by
            rw [e4, List.mem_append, not_or] at hP'
            exact lkq_snoc' (by have := hP'.2; simp at this; exact fun y => this y.symm) _ _ (hf P' hP'.1)) (by simp [hfl]) (by rw [List.length_append]; exact g4) (sX.trans g5)
        rw [e3, e4, pl_snoc, sts_len] at this
        rw [List.length_append]
        exact this
  obtain ⟨es, fm, hX, JX, l, hm, HX, sX, eX⟩ := run (2 * q + 2).toNat [] [] h2 J2 (LedS.nil a3) (by simp; omega) (fun _ _ => rfl) rfl a4 a5
  rw [List.append_nil] at eX
  have eX' : whlC Tt U [some (.ref pp), some (.int b), some (fr (lo p q)), some (.ref h.length), some (fr (lo (aft b q p ds0) q)), some (.ref (h.length + 1)), some (.ref (h.length + 2)), x2, y2] (h2 ++ lsi ds0 :: .dict [] :: .dict [] :: J2) = _ := eX
  dsimp only
  rw [eX']
  have ln := l.len (by omega) hS a3
  have wr := wr_of l.all hm
  obtain ⟨i1, i2⟩ := idx_get hm
  rw [sts_len] at i1
  have lk : lkq (pl ds0.length (sts b q (aft b q p ds0) es)) (aft b q (aft b q p ds0) es) = some (.int ((ds0.length + (sts b q (aft b q p ds0) es).idxOf (aft b q (aft b q p ds0) es) : Nat) : Int)) := by rw [lkq_pl, if_pos hm]
  generalize (sts b q (aft b q p ds0) es).idxOf (aft b q (aft b q p ds0) es) = j at *
  have hl : hX.length = h.length := sX.len
  have p2 : ∀ (a b c : Ob) (J : Hp), (hX ++ a :: b :: c :: J)[h.length + 2]? = some c := fun a b c J => by rw [← hl]; exact at2
  have p0 : ∀ (a : Ob) (J : Hp), (hX ++ a :: J)[h.length]? = some a := fun a J => by rw [← hl]; exact at0
  have c1 : cut (ds0 ++ es) none (some ((ds0.length + j : Nat) : Int)) = ds0 ++ es.take j := by
    rw [cut_take (by rw [List.length_append]; omega), List.take_append, List.take_of_length_le (by omega), Nat.add_sub_cancel_left]
  have c2 : cut (ds0 ++ es) (some ((ds0.length + j : Nat) : Int)) none = es.drop j := by
    have : ¬ (((ds0.length + j : Nat) : Int) < 0) := by omega
    have m : bound (ds0 ++ es).length 0 (some ((ds0.length + j : Nat) : Int)) = ds0.length + j := by
      simp only [bound, this, if_false]
      rw [List.length_append]
      omega
    unfold cut
    rw [m, List.drop_append, List.drop_of_length_le (by omega), List.nil_append, Nat.add_sub_cancel_left]
    exact List.take_of_length_le (by simp [bound]; omega)
  refine ⟨ds0 ++ es.take j, es.drop j, hX, ?_, ⟨wr.ne, ?_, ?_⟩, ?_, n + 1 + ds0.length + es.length, HX, sX, by omega⟩
  · simp only [RS.seq_nx, s_cons, s_ret, r_cons, r_nil, r_tup, r_bi, r_slc, r_v4, r_v3, r_v6, r_o0, r_o1, r_idx, Res.bind_ok, ix_dq q0 (p2 _ _ _ _) lk, intO_int, slice_lsi (p0 _ _), c1, c2]
    have t1 : ∀ (X : Hp) (o : Ob) (l : List Int), X ++ [lsi l] = X ++ [lsi l] → builtin .tup [.ref X.length] (X ++ [lsi l]) = .ok (its l) (X ++ [lsi l]) := fun X o l _ => tup_lsi List.getElem?_concat_length
    rw [t1 _ (.lst []) _ rfl]
    simp only [Res.bind_ok, List.append_assoc, List.cons_append]
    simp only [ix_dq q0 (p2 _ _ _ _) lk, Res.bind_ok, intO_int, slice_lsi (p0 _ _), c2]
    rw [t1 _ (.lst []) _ rfl]
    simp only [Res.bind_ok, Res.into_ok, RS.seq_rt]
    rw [List.append_assoc]
    exact fin_handJ sX HX (pure_row _ _)
  · rw [List.append_assoc, List.take_append_drop, allS_app]; exact ⟨a2, l.all⟩
  · rw [aft_app]; exact wr.rnd
  · rw [List.length_append, List.length_take, List.length_drop]; omega
end
end Y

set_option linter.all false
set_option maxRecDepth 100000
set_option maxHeartbeats 1000000
/-! Writings judged; worth, with its checks; rows beside rows. -/
namespace Y
open PySem (Str)

theorem fin_bl_app {h x : Hp} {v : Bool} : fin h (.rt (.bl v) (h ++ x)) = .ok (.bl v) h := fin_pure rfl
theorem fin_drop_nx {h x : Hp} {ρ : Env} : fin h (.nx ρ (h ++ x)) = .ok .non h := by
  show left h .non (h ++ x) = _
  unfold left
  simp [news, ren, elder_app]
@[simp] theorem eq_frB (p q : Int × Int) (h : Hp) : compareR .eq (fr p) (fr q) h = .ok (.bl (decide (p = q))) h := by
  obtain ⟨a, b⟩ := p
  obtain ⟨c, d⟩ := q
  simp [compareR, compare, eq?, D.pure, D.pureL, D.depth, D.depthL, D.eqv, D.eqvL]
@[simp] theorem ne_frB (p q : Int × Int) (h : Hp) : compareR .ne (fr p) (fr q) h = .ok (.bl (!decide (p = q))) h := by
  obtain ⟨a, b⟩ := p
  obtain ⟨c, d⟩ := q
  simp [compareR, compare, eq?, D.pure, D.pureL, D.depth, D.depthL, D.eqv, D.eqvL]
theorem ne_row (A B A' B' : List Int) (h : Hp) : compareR .ne (rowD A B) (rowD A' B') h = .ok (.bl (!decide (A = A' ∧ B = B'))) h := by
  simp [compareR, compare, eq?, D.pure, D.pureL, pureL_its, D.depth, D.depthL, depthL_its, D.eqv, D.eqvL, eqvL_its]
/-- a comprehension of flags over ints, all of them asked -/
theorem all_lc {Z : Sg} {ρ : Env} {h h' : Hp} {e : E} {t : Nat} {i : I} {l : List Int} (hi : evI Z i ρ h = .ok ⟨l.map .int, [], none⟩ h') (hl : l.length ≤ line) (P : Int → Bool)
    (each : ∀ d ∈ l, evE Z e ((ρ.set t none).set t (some (.int d))) h' = .ok (.bl (P d)) h') :
    evE Z (.bi .all [.lc e (.nm t) i []]) ρ h = .ok (.bl (l.all P)) (h' ++ [.lst ((l.map P).map .bl)]) := by
  have lc := lc_src (e := e) (t := .nm t) (cs := []) hi rfl (by simpa using hl) rfl (fun _ => true) (fun d => match d with | .int i => .bl (P i) | d => d) (fun d hd => by
    simp only [List.mem_map] at hd
    obtain ⟨x, hx, rfl⟩ := hd
    exact ⟨_, rfl, by simp, fun _ => by simpa using each x hx⟩)
  rw [filter_all, List.map_map] at lc
  have mm : List.map ((fun d => match d with | .int i => D.bl (P i) | d => d) ∘ D.int) l = (l.map P).map D.bl := by rw [List.map_map]; rfl
  rw [mm] at lc
  simp only [r_bi, r_cons, r_nil, lc, Res.bind_ok]
  rw [all_bls (l := l.map P) List.getElem?_concat_length, List.all_map]
  rfl
def m_is_pairE : List S := [
  .ret (.and (.isi (.v 0) ["tuple"]) (.cmp .eq (.bi .len [.v 0]) (.c (.int 2))))]
def m_is_digit_of : List S := [
  .ret (.call "is_within" [.v 1, .bin .sub (.c (.int 1)) (.v 0), .bin .sub (.v 0) (.c (.int 1))])]
def m_is_row_of : List S := [
  .iff (.or (.not (.tr (.call "is_pair" [.v 0]))) (.or (.not (.tr (.bi .all [.lc (.isi (.v 1) ["tuple"]) (.nm 1) (.var 0) []]))) (.tr (.cmp .eq (.bi .len [.idx (.v 0) (.c (.int 1))]) (.c (.int 0)))))) [
    .ret (.c (.bl false))] [],
  .ret (.bi .all [.lc (.call "is_integer" [.v 2]) (.nm 2) (.val (.bin .add (.idx (.v 0) (.c (.int 0))) (.idx (.v 0) (.c (.int 1))))) []])]
def m_is_writing_of : List S := [
  .ret (.and (.call "is_row_of" [.v 1]) (.bi .all [.lc (.call "is_digit_of" [.v 0, .v 2]) (.nm 2) (.val (.bin .add (.idx (.v 1) (.c (.int 0))) (.idx (.v 1) (.c (.int 1))))) []]))]
def m_is_writing : List S := [
  .ex (.call "check_base" [.v 0]),
  .ret (.call "is_writing_of" [.v 0, .v 1])]
def m_worth : List S := [
  .ex (.call "check_base" [.v 0]),
  .iff (.not (.tr (.call "is_row_of" [.v 1]))) [
    .no] [],
  .ret (.call "worth_of" [.v 0, .v 1])]
/-- the checks -/
structure NB (T : Tbl) : Prop extends FT T where
  is_integer : T "is_integer" = some (.fn 1 1 m_is_integer)
  is_within : T "is_within" = some (.fn 3 3 m_is_within)
  is_pair : T "is_pair" = some (.fn 1 1 m_is_pair)
  is_base_of : T "is_base_of" = some (.fn 1 1 m_is_base_of)
  is_fraction_of : T "is_fraction_of" = some (.fn 1 1 m_is_fraction_of)
  is_number_of : T "is_number_of" = some (.fn 1 1 m_is_number_of)
  check_base : T "check_base" = some (.fn 1 1 m_check_base)
  is_digit_of : T "is_digit_of" = some (.fn 2 2 m_is_digit_of)
  is_row_of : T "is_row_of" = some (.fn 1 3 m_is_row_of)
section
variable {T : Tbl} {G : String → Option D} {k : Nat} {h : Hp} {b : Int} {x : Int × Int}
theorem n_pair (F : NB T) {a c : D} : callN T G whlC (k + 1) "is_pair" [.tup [a, c]] h = .ok (.bl true) h := by
  rw [call_fn F.is_pair rfl]
  simp [m_is_pair, s_cons, start, isAny, isA, builtin, lenOf]
theorem n_number (F : NB T) (hx : Num x) : callN T G whlC (k + 3) "is_number_of" [fr x] h = .ok (.bl true) h := by
  have h3 := hx.2.2
  have e1 : callN T G whlC (k + 2) "is_fraction_of" [fr x] h = .ok (.bl true) h := by
    obtain ⟨h1, h2, h3⟩ := hx
    rw [call_fn F.is_fraction_of rfl]
    have d := s_divisor (G := G) (k := k) (h := h) (a := x.1.natAbs) (b := x.2.natAbs) F.divisor
    rw [show ((x.2.natAbs : Nat) : Int) = x.2 by omega, h2] at d
    simp [m_is_fraction_of, s_cons, start, n_pair (k := k) F, s_is_integer (k := k) F.is_integer, h1, d]
  rw [call_fn F.is_number_of rfl]
  simp [m_is_number_of, s_cons, start, e1, h3]
theorem n_check_base (F : NB T) (b0 : 2 ≤ b) (b1 : b ≤ 5) : callN T G whlC (k + 4) "check_base" [.int b] h = .ok .non h := by
  rw [call_fn F.check_base rfl]
  have e : callN T G whlC (k + 3) "is_base_of" [.int b] h = .ok (.bl true) h := by
    rw [call_fn F.is_base_of rfl]
    simp [m_is_base_of, s_cons, start, s_is_within (k := k) F.is_within F.is_integer, b0, b1]
  simp [m_check_base, s_cons, start, e]
theorem n_check_number (F : NB T) (ht : T "check_number" = some (.fn 1 1 m_check_number)) (hx : Num x) : callN T G whlC (k + 4) "check_number" [fr x] h = .ok .non h := by
  rw [call_fn ht rfl]
  simp [m_check_number, s_cons, start, n_number (k := k) F hx]
theorem n_digit (F : NB T) {d : Int} (h0 : 1 - b ≤ d) (h1 : d ≤ b - 1) : callN T G whlC (k + 3) "is_digit_of" [.int b, .int d] h = .ok (.bl true) h := by
  rw [call_fn F.is_digit_of rfl]
  simp [m_is_digit_of, s_cons, start, s_is_within (k := k) F.is_within F.is_integer, h0, h1]
theorem n_row (F : NB T) {A B : List Int} (hB : B ≠ []) (hl : A.length + B.length ≤ line) : callN T G whlC (k + 2) "is_row_of" [rowD A B] h = .ok (.bl true) h := by
  have m0 : 0 < B.length := List.length_pos_iff.mpr hB
  have hB' : ¬ ((B.length : Nat) : Int) = 0 := by omega
  rw [call_fn F.is_row_of rfl]
  simp only [m_is_row_of, start, List.map, List.replicate]
  have lc1 := lc_src (Z := ⟨callN T G whlC (k + 1), whlC, G⟩) (ρ := [some (rowD A B), none, none]) (h := h) (e := .isi (.v 1) ["tuple"]) (t := .nm 1) (i := .var 0) (cs := []) (s := ⟨[its A, its B], [], none⟩) (h' := h) (by rw [evI]; simp [srcOf, dict?, seqOf]) rfl (by simp [line]) rfl (fun _ => true) (fun _ => .bl true) (fun d hd => by
    refine ⟨_, rfl, by simp, fun _ => ?_⟩
    simp only [List.mem_cons, List.mem_nil_iff, or_false] at hd
    rcases hd with rfl | rfl <;> simp [isAny, isA])
  rw [filter_all] at lc1
  simp only [List.map_cons, List.map_nil] at lc1
  have al : builtin .all [.ref h.length] (h ++ [Ob.lst [.bl true, .bl true]]) = .ok (.bl true) (h ++ [Ob.lst [.bl true, .bl true]]) := all_bls (l := [true, true]) List.getElem?_concat_length
  have len0 := len_its B (h ++ [Ob.lst [.bl true, .bl true]])
  rw [s_cons, s_iff, r_cor]
  simp only [r_cor, r_cnot, r_ctr, r_call, r_cons, r_nil, List.cons_append, List.nil_append, r_v0, Res.bind_ok, n_pair (k := k) F, tR_bl, Bool.not_true, Bool.false_eq_true, if_false, r_bi, lc1, al, r_cmp, r_idx, r_c, ix_t1, len0, cR_eq, decide_eq_false hB', Res.into_ok, s_nil, RS.seq_nx]
  have hi : evI (⟨callN T G whlC (k + 1), whlC, G⟩ : Sg) (.val (.bin .add (.idx (.v 0) (.c (.int 0))) (.idx (.v 0) (.c (.int 1))))) [some (rowD A B), none, none] (h ++ [Ob.lst [.bl true, .bl true]]) = .ok ⟨(A ++ B).map .int, [], none⟩ (h ++ [Ob.lst [.bl true, .bl true]]) := by
    simp only [i_val, r_bin, r_idx, r_v0, r_c, Res.bind_ok, ix_t0, ix_t1, add_its A B _ hl]
    rfl
  have al2 := all_lc (e := .call "is_integer" [.v 2]) (t := 2) hi (by rw [List.length_append]; exact hl) (fun _ => true) (fun d _ => by simp [s_is_integer (k := k) F.is_integer])
  rw [s_cons, s_ret, al2]
  simp only [Res.into_ok, RS.seq_rt, List.append_assoc]
  have : (A ++ B).all (fun _ => true) = true := by simp
  rw [this]
  exact fin_bl_app
theorem n_writing (F : NB T) (ht : T "is_writing_of" = some (.fn 2 3 m_is_writing_of)) (ht2 : T "is_writing" = some (.fn 2 2 m_is_writing)) (b0 : 2 ≤ b) (b1 : b ≤ 5) {A B : List Int} (hB : B ≠ []) (hl : A.length + B.length ≤ line) (hd : ∀ d ∈ A ++ B, 1 - b ≤ d ∧ d ≤ b - 1) :
    callN T G whlC (k + 5) "is_writing" [.int b, rowD A B] h = .ok (.bl true) h := by
  have e1 : callN T G whlC (k + 4) "is_writing_of" [.int b, rowD A B] h = .ok (.bl true) h := by
    rw [call_fn ht rfl]
    simp only [m_is_writing_of, start, List.map, List.replicate]
    have hi : evI (⟨callN T G whlC (k + 3), whlC, G⟩ : Sg) (.val (.bin .add (.idx (.v 1) (.c (.int 0))) (.idx (.v 1) (.c (.int 1))))) [some (.int b), some (rowD A B), none] h = .ok ⟨(A ++ B).map .int, [], none⟩ h := by
      simp only [i_val, r_bin, r_idx, r_v1, r_c, Res.bind_ok, ix_t0, ix_t1, add_its A B _ hl]
      rfl
    have al2 := all_lc (e := .call "is_digit_of" [.v 0, .v 2]) (t := 2) hi (by rw [List.length_append]; exact hl) (fun _ => true) (fun d hm => by
      obtain ⟨h0, h1⟩ := hd d hm
      simp [n_digit (k := k) F h0 h1])
    have : (A ++ B).all (fun _ => true) = true := by simp
    rw [this] at al2
    simp only [s_cons, s_ret, r_and, r_call, r_cons, r_nil, List.cons_append, List.nil_append, r_v1, Res.bind_ok, n_row (k := k + 1) F hB hl, al2, Res.into_ok, RS.seq_rt]
    exact fin_bl_app
  rw [call_fn ht2 rfl]
  simp [m_is_writing, s_cons, start, n_check_base (k := k) F b0 b1, e1]
theorem n_worth (F : NB T) (W : WT T) (ht : T "worth" = some (.fn 2 2 m_worth)) (b0 : 2 ≤ b) (b1 : b ≤ 5) {A B : List Int} {s : Nat} (hA : ∀ d ∈ A, d.natAbs < 2 ^ s) (hB : ∀ d ∈ B, d.natAbs < 2 ^ s) (hB0 : B ≠ []) (hl : s + 3 * (A.length + B.length) ≤ 4000 ∨ s ≤ 100 ∧ A.length + B.length ≤ 2005) :
    callN T G whlC (k + 5) "worth" [.int b, rowD A B] h = .ok (fr (wth b A B)) h := by
  have : line = 16777216 := rfl
  rw [call_fn ht rfl]
  simp [m_worth, s_cons, start, n_check_base (k := k) F b0 b1, n_row (k := k + 2) F hB0 (show A.length + B.length ≤ line by omega), s_worth_of (k := k) W b0 b1 hA hB hB0 hl]
theorem zip2_its : ∀ l m : List Int, zip2 (l.map .int) (m.map .int) = (l.zip m).map fun p => D.tup [.int p.1, .int p.2]
  | [], _ => by simp [zip2]
  | _ :: _, [] => by simp [zip2]
  | a :: l, b :: m => by simp [zip2, zip2_its l m]
theorem all_lcz {Z : Sg} {ρ : Env} {h h' : Hp} {e : E} {t : Y.T} {i : I} {ds : List D} (hi : evI Z i ρ h = .ok ⟨ds, [], none⟩ h') (hl : ds.length ≤ line)
    (each : ∀ d ∈ ds, ∃ ρd, bindT t d (forget ρ t.slots) h' = some ρd ∧ evE Z e ρd h' = .ok (.bl true) h') :
    evE Z (.bi .all [.lc e t i []]) ρ h = .ok (.bl true) (h' ++ [.lst ((ds.map fun _ => true).map .bl)]) := by
  have lc := lc_src (e := e) (t := t) (cs := []) hi rfl hl rfl (fun _ => true) (fun _ => .bl true) (fun d hd => by
    obtain ⟨ρd, h1, h2⟩ := each d hd
    exact ⟨ρd, h1, by simp, fun _ => h2⟩)
  rw [filter_all] at lc
  have mm : ds.map (fun _ => D.bl true) = (ds.map fun _ => true).map D.bl := by rw [List.map_map]; rfl
  rw [mm] at lc
  simp only [r_bi, r_cons, r_nil, lc, Res.bind_ok]
  rw [all_bls (l := ds.map fun _ => true) List.getElem?_concat_length]
  simp
theorem cR_bl (a b : Bool) (h : Hp) : compareR .ne (.bl a) (.bl b) h = .ok (.bl (!decide (a = b))) h := by simp [compareR, compare, eq?, D.pure, D.depth, D.eqv]
theorem s_is_tup {ds : List D} (ht : T "_law_is" = some (.fn 2 5 m__law_is)) (hl : ds.length ≤ line) (each : ∀ d ∈ ds, ∀ h, callN T G whlC k "_law_is" [d, d] h = .ok (.bl true) h) : callN T G whlC (k + 1) "_law_is" [.tup ds, .tup ds] h = .ok (.bl true) h := by
  rw [call_fn ht rfl]
  simp only [m__law_is, start, List.map, List.replicate]
  have hi : evI (⟨callN T G whlC k, whlC, G⟩ : Sg) (.zip (.v 0) (.v 1)) [some (.tup ds), some (.tup ds), none, none, none] h = .ok ⟨zip2 ds ds, [], none⟩ h := by
    rw [evI]; simp [zipOf]
  have zl : ∀ l m : List D, (zip2 l m).length ≤ l.length := by
    intro l
    induction l with
    | nil => intro m; simp [zip2]
    | cons a l ih => intro m; cases m with
      | nil => simp [zip2]
      | cons b m => simp [zip2]; exact ih m
  have zm : ∀ (l : List D) (d : D), d ∈ zip2 l l → ∃ x ∈ l, d = .tup [x, x] := by
    intro l
    induction l with
    | nil => intro d hd; simp [zip2] at hd
    | cons a l ih =>
      intro d hd
      rw [zip2, List.mem_cons] at hd
      rcases hd with rfl | hd
      · exact ⟨a, List.mem_cons_self .., rfl⟩
      · obtain ⟨x, hx, e⟩ := ih d hd
        exact ⟨x, List.mem_cons_of_mem _ hx, e⟩
  have al := all_lcz (e := .call "_law_is" [.v 2, .v 3]) (t := .tp [.nm 2, .nm 3]) hi (Nat.le_trans (zl _ _) hl) (fun d hd => by
    obtain ⟨x, hx, rfl⟩ := zm ds d hd
    exact ⟨_, rfl, by simp [each x hx]⟩)
  rw [s_cons, s_iff, r_cand]
  have ln : builtin .len [.tup ds] h = .ok (.int (ds.length : Nat)) h := by simp [builtin, lenOf]
  have is1 : isAny (.tup ds) h ["list", "tuple"] = some true := by simp [isAny, isA]
  have is2 : isAny (.tup ds) h ["tuple"] = some true := by simp [isAny, isA]
  simp only [r_ctr, r_isi, List.cons_append, List.nil_append, r_v0, r_v1, Res.bind_ok, is1, is2, tR_bl, if_true, Res.into_ok]
  rw [s_cons, s_iff, r_cor]
  simp only [r_ctr, r_cmp, r_isi, r_bi, r_cons, r_nil, r_v0, r_v1, Res.bind_ok, is2, cR_bl, decide_true, Bool.not_true, tR_bl, Bool.false_eq_true, if_false, ln, cR_ne, Res.into_ok, s_nil, RS.seq_nx]
  rw [s_cons, s_ret, al]
  simp only [Res.into_ok, RS.seq_rt]
  exact fin_bl_app
theorem s_is_row {A B : List Int} (ht : T "_law_is" = some (.fn 2 5 m__law_is)) (hA : A.length ≤ line) (hB : B.length ≤ line) : callN T G whlC (k + 3) "_law_is" [rowD A B, rowD A B] h = .ok (.bl true) h := by
  refine s_is_tup ht (by simp [line]) fun d hd h => ?_
  have iv : ∀ (l : List Int), l.length ≤ line → callN T G whlC (k + 2) "_law_is" [its l, its l] h = .ok (.bl true) h := fun l hl => s_is_tup ht (by simpa using hl) fun d hd h => by
    simp only [List.mem_map] at hd
    obtain ⟨x, _, rfl⟩ := hd
    rw [s_is_int ht]; simp
  simp only [List.mem_cons, List.mem_nil_iff, or_false] at hd
  rcases hd with rfl | rfl
  · exact iv A hA
  · exact iv B hB
end
end Y

set_option linter.all false
set_option maxRecDepth 100000
set_option maxHeartbeats 1000000
/-! The other sign; lengths; the first digits of a row. -/
namespace Y
open PySem (Str)

section
variable {b q : Int}
abbrev ngs (l : List Int) : List Int := l.map fun d => -d
theorem ngs_cons (d : Int) (l : List Int) : ngs (d :: l) = -d :: ngs l := rfl
theorem ngs_take (n : Nat) (l : List Int) : ngs (l.take n) = (ngs l).take n := List.map_take ..
theorem ngs_drop (n : Nat) (l : List Int) : ngs (l.drop n) = (ngs l).drop n := List.map_drop ..
theorem ngs_app (l m : List Int) : ngs (l ++ m) = ngs l ++ ngs m := List.map_append ..
theorem aft_ng : ∀ (l : List Int) (p : Int), aft b q (-p) (ngs l) = -aft b q p l
  | [], _ => rfl
  | d :: l, p => by
    rw [ngs_cons, aft_cons, aft_cons, ← aft_ng l]
    congr 1
    grind
theorem sts_ng : ∀ (l : List Int) (p : Int), sts b q (-p) (ngs l) = ngs (sts b q p l)
  | [], _ => rfl
  | d :: l, p => by
    rw [ngs_cons, sts, sts, ngs_cons, ← sts_ng l]
    congr 2
    grind
theorem neg_inj : ∀ x y : Int, -x = -y → x = y := fun x y e => by omega
theorem mem_ngs {x : Int} {l : List Int} : -x ∈ ngs l ↔ x ∈ l := by
  rw [List.mem_map]
  constructor
  · rintro ⟨y, hy, e⟩
    have : y = x := by omega
    exact this ▸ hy
  · intro h; exact ⟨x, h, rfl⟩
theorem idx_ngs (x : Int) : ∀ l : List Int, (ngs l).idxOf (-x) = l.idxOf x
  | [] => rfl
  | a :: l => by
    rw [ngs_cons, List.idxOf_cons, List.idxOf_cons, idx_ngs x l]
    have : (-a == -x) = (a == x) := by
      by_cases z : a = x
      · subst z; simp
      · have z' : ¬ -a = -x := by omega
        rw [beq_eq_false_iff_ne.mpr z, beq_eq_false_iff_ne.mpr z']
    rw [this]
theorem ledD_ng {S : Int → Int → Prop} {p : Int} (b0 : 2 ≤ b) (b1 : b ≤ 5) (q0 : 0 < q) (hS : ∀ p d, S p d → Legal b q p d) (hpk : ∀ P, -q ≤ P ∧ P ≤ q → S P (pickL b q P)) : ∀ (n : Nat) (ds : List Int), LedS S b q p ds → ledD (pickM b q) b q (-p) n (ngs ds) = ngs (ledD (pickL b q) b q p n ds)
  | 0, ds, _ => rfl
  | n + 1, ds, l => by
    rw [ledD, ledD, aft_ng, sts_ng]
    by_cases z : aft b q p ds ∈ sts b q p ds
    · rw [if_pos (mem_ngs.mpr z), if_pos z]
    · rw [if_neg (fun y => z (mem_ngs.mp y)), if_neg z]
      rw [pick_neg b0 b1 q0 l.last, ← ledD_ng b0 b1 q0 hS hpk n _ (l.snoc hS z (hpk _ l.last))]
      simp
theorem ledRow_ng {p : Int} (b0 : 2 ≤ b) (b1 : b ≤ 5) (q0 : 0 < q) (hp : -q ≤ p ∧ p ≤ q) : ledRow (pickM b q) b q (-p) = (ngs (ledRow (pickL b q) b q p).1, ngs (ledRow (pickL b q) b q p).2) := by
  unfold ledRow
  have := ledD_ng (S := LeastD b q) (p := p) b0 b1 q0 (fun _ _ h => h.1) (fun P hP => pickL_least b0 b1 q0 hP) (2 * q + 2).toNat [] (LedS.nil hp)
  simp only [List.map_nil] at this
  rw [this]
  dsimp only
  rw [aft_ng, sts_ng, idx_ngs, ngs_take, ngs_drop]
theorem rot_len : ∀ (r B : List Int), B ≠ [] → (rot r B).1.length ≤ r.length ∧ (rot r B).2.length = B.length
  | [], B, _ => by simp [rot]
  | a :: r, B, hB => by
    have m0 : 0 < B.length := List.length_pos_iff.mpr hB
    rw [rot]
    split
    · obtain ⟨h1, h2⟩ := rot_len r (a :: B.dropLast) (by simp)
      rw [List.length_cons, h2, List.length_cons, List.length_dropLast]
      omega
    · simp
theorem shp_len (B : List Int) : ∀ (n s : Nat), (shp B s n).length ≤ B.length
  | 0, _ => Nat.le_refl _
  | n + 1, s => by
    rw [shp]
    split
    · rw [List.length_take]; omega
    · exact shp_len B n (s + 1)
theorem neat_len (A B : List Int) (hB : B ≠ []) : (neat A B).1.length ≤ A.length ∧ (neat A B).2.length ≤ B.length ∧ (neat A B).2 ≠ [] := by
  have ne := shp_ne hB (B.length - 1) 1 (by omega)
  have m0 : 0 < (shp B 1 (B.length - 1)).length := List.length_pos_iff.mpr ne
  obtain ⟨h1, h2⟩ := rot_len A.reverse _ ne
  have h3 := shp_len B (B.length - 1) 1
  unfold neat
  rw [List.length_reverse] at h1
  refine ⟨h1, by omega, fun z => ?_⟩
  rw [z, List.length_nil] at h2
  omega
theorem legal_digits : ∀ (l : List Int) (p : Int), AllS (Legal b q) b q p l → ∀ d ∈ l, 1 - b ≤ d ∧ d ≤ b - 1
  | [], _, _, d, hd => by simp at hd
  | a :: l, p, ⟨h1, h2⟩, d, hd => by
    rcases List.mem_cons.mp hd with rfl | hd
    · exact ⟨h1.1, h1.2.1⟩
    · exact legal_digits l _ h2 d hd
/-- what the law asks of a led row: the neat one of least digits, of greatest ones -/
structure Led (S : Int → Int → Prop) (b q p : Int) (A B : List Int) : Prop where
  wr : Wr S b q p A B
  lA : A.length + B.length ≤ 2001
  lB : (B.length : Int) ≤ q
theorem led_least {p : Int} (b0 : 2 ≤ b) (b1 : b ≤ 5) (q0 : 0 < q) (q1 : q ≤ 1000) (hp : -q ≤ p ∧ p ≤ q) : Led (LeastD b q) b q p (ledRow (pickL b q) b q p).1 (ledRow (pickL b q) b q p).2 := by
  obtain ⟨l, hm⟩ := ledD_ok (S := LeastD b q) (pick := pickL b q) (b := b) (q := q) (p := p) (by omega) (fun _ _ h => h.1) (fun P hP => pickL_least b0 b1 q0 hP) hp (2 * q + 2).toNat [] (LedS.nil hp) (by simp; omega)
  have wr := wr_of l.all hm
  have ln := l.len (by omega) (fun _ _ h => h.1) hp
  have nd := l.nd
  unfold ledRow
  dsimp only
  generalize ledD (pickL b q) b q p (2 * q + 2).toNat [] = ds at *
  generalize (sts b q p ds).idxOf (aft b q p ds) = j at *
  refine ⟨wr, by rw [List.length_take, List.length_drop]; omega, least_round b0 q0 hp wr (by rw [List.take_append_drop]; exact nd)⟩
theorem most_ng {p d : Int} (h : LeastD b q p d) : MostD b q (-p) (-d) := by
  obtain ⟨⟨l1, l2, l3, l4⟩, m⟩ := h
  have e1 : ∀ d : Int, -p * b - -d * q = -(p * b - d * q) := fun d => by grind
  refine ⟨⟨by omega, by omega, by rw [e1]; omega, by rw [e1]; omega⟩, fun e he => ?_⟩
  obtain ⟨k1, k2, k3, k4⟩ := he
  have e2 := e1 (-e)
  simp only [Int.neg_neg] at e2
  rw [e2] at k3 k4
  have := m (-e) ⟨by omega, by omega, by omega, by omega⟩
  omega
theorem all_ng : ∀ (l : List Int) (p : Int), AllS (LeastD b q) b q p l → AllS (MostD b q) b q (-p) (ngs l)
  | [], _, _ => trivial
  | d :: l, p, ⟨h1, h2⟩ => by
    refine ⟨most_ng h1, ?_⟩
    have := all_ng l _ h2
    rw [show -(p * b - d * q) = -p * b - -d * q by grind] at this
    exact this
theorem led_most {p : Int} (b0 : 2 ≤ b) (b1 : b ≤ 5) (q0 : 0 < q) (q1 : q ≤ 1000) (hp : -q ≤ p ∧ p ≤ q) : Led (MostD b q) b q p (ledRow (pickM b q) b q p).1 (ledRow (pickM b q) b q p).2 := by
  have h := led_least (p := -p) b0 b1 q0 q1 (by omega)
  have e := ledRow_ng (p := -p) b0 b1 q0 (by omega)
  rw [Int.neg_neg] at e
  rw [e]
  refine ⟨⟨by simpa using h.wr.ne, ?_, ?_⟩, by simpa using h.lA, by simpa using h.lB⟩
  · have := all_ng _ _ h.wr.all
    rw [Int.neg_neg, ngs_app] at this
    exact this
  · have := h.wr.rnd
    have e1 := aft_ng (b := b) (q := q) (ledRow (pickL b q) b q (-p)).1 (-p)
    rw [Int.neg_neg] at e1
    dsimp only
    rw [e1, aft_ng, this]
theorem Led.neat {S : Int → Int → Prop} {p : Int} {A B : List Int} (b0 : 2 ≤ b) (l : Led S b q p A B) : Led S b q p (neat A B).1 (neat A B).2 := by
  obtain ⟨h1, h2, _⟩ := neat_len A B l.wr.ne
  have := l.lA
  have := l.lB
  exact ⟨neat_wr b0 l.wr, by omega, by omega⟩
end
/-! the first digits -/
def m__law_digits : List S := [
  .asg (.nm 2) (.bi .list [.idx (.v 0) (.c (.int 0))]),
  .whl (.tr (.cmp .lt (.bi .len [.v 2]) (.v 1))) [
    .asg (.nm 2) (.bin .add (.v 2) (.bi .list [.idx (.v 0) (.c (.int 1))]))],
  .ret (.slc (.v 2) none (some (.v 1)))]
theorem underL_its (n : Nat) : ∀ l : List Int, D.underL n (l.map D.int) = true := underL_ints n
theorem add_lsi {h : Hp} {m n : Nat} {a b : List Int} (h1 : h[m]? = some (lsi a)) (h2 : h[n]? = some (lsi b)) (hl : a.length + b.length ≤ line) : binop .add (.ref m) (.ref n) h = .ok (.ref h.length) (h ++ [lsi (a ++ b)]) := by
  have : (a.map D.int).length + (b.map D.int).length ≤ line := by simpa using hl
  unfold binop
  simp only [h1, h2]
  rw [if_pos this]
  simp [new, lsi]
section
variable {T : Tbl} {G : String → Option D} {k : Nat} {h : Hp}
theorem s_digits (ht : T "_law_digits" = some (.fn 2 3 m__law_digits)) {A B : List Int} (hB : B ≠ []) (hl : A.length + B.length ≤ 3000) : ∃ n : Nat, callN T G whlC (k + 1) "_law_digits" [rowD A B, .int 40] h = .ok (.ref h.length) (h ++ [lsi ((A ++ (List.replicate n B).flatten).take 40)]) ∧ ((A ++ (List.replicate n B).flatten).take 40).length = 40 := by
  have m0 : 0 < B.length := List.length_pos_iff.mpr hB
  rw [call_fn ht rfl]
  simp only [m__law_digits, start, List.map, List.replicate]
  rw [s_cons]
  simp only [s_asg, r_bi, r_cons, r_nil, r_idx, List.cons_append, List.nil_append, r_v0, r_c, Res.bind_ok, ix_t0, list_its, Res.into_ok, bindT_nm, List.set, RS.seq_nx]
  rw [s_cons, s_whl]
  generalize hT : (fun ρ h => evC (⟨callN T G whlC k, whlC, G⟩ : Sg) (.tr (.cmp .lt (.bi .len [.v 2]) (.v 1))) ρ h) = Tt
  generalize hU : (fun ρ h => evSs (⟨callN T G whlC k, whlC, G⟩ : Sg) [.asg (.nm 2) (.bin .add (.v 2) (.bi .list [.idx (.v 0) (.c (.int 1))]))] ρ h) = U
  have run : ∀ (m n : Nat) (J : Hp) (r : Nat), h.length ≤ r → (h ++ J)[r]? = some (lsi (A ++ (List.replicate n B).flatten)) → 40 ≤ (A ++ (List.replicate n B).flatten).length + m → (A ++ (List.replicate n B).flatten).length ≤ 4000 → ∃ n' J' r', h.length ≤ r' ∧ (h ++ J')[r']? = some (lsi (A ++ (List.replicate n' B).flatten)) ∧ 40 ≤ (A ++ (List.replicate n' B).flatten).length ∧ whlC Tt U [some (rowD A B), some (.int 40), some (.ref r)] (h ++ J) = .nx [some (rowD A B), some (.int 40), some (.ref r')] (h ++ J') := by
    intro m
    induction m with
    | zero =>
      intro n J r hr hJ hm hmx
      refine ⟨n, J, r, hr, hJ, hm, ?_⟩
      have nl : ¬ (((A ++ (List.replicate n B).flatten).length : Nat) : Int) < 40 := by omega
      rw [whlC_turn, ← hT]
      simp only [r_ctr, r_cmp, r_bi, r_cons, r_nil, r_v2, r_v1, Res.bind_ok, len_lsi hJ, cR_lt, tR_bl, decide_eq_false nl]
    | succ m ih =>
      intro n J r hr hJ hm hmx
      by_cases z : (A ++ (List.replicate n B).flatten).length < 40
      · have zl : (((A ++ (List.replicate n B).flatten).length : Nat) : Int) < 40 := by omega
        have e2 : A ++ (List.replicate (n + 1) B).flatten = A ++ (List.replicate n B).flatten ++ B := by
          rw [List.replicate_succ', List.flatten_append, ← List.append_assoc]; simp
        have hJ1 : (h ++ J ++ [lsi B])[r]? = some (lsi (A ++ (List.replicate n B).flatten)) := by
          rw [List.getElem?_append_left (List.getElem?_eq_some_iff.mp hJ).1]; exact hJ
        have ad := add_lsi hJ1 (List.getElem?_concat_length (l := h ++ J) (a := lsi B)) (by have : line = 16777216 := rfl; omega)
        have bd : U [some (rowD A B), some (.int 40), some (.ref r)] (h ++ J) = .nx [some (rowD A B), some (.int 40), some (.ref (h ++ J ++ [lsi B]).length)] (h ++ (J ++ [lsi B, lsi (A ++ (List.replicate (n + 1) B).flatten)])) := by
          rw [← hU]
          dsimp only
          rw [s_cons]
          simp only [s_asg, r_bin, r_v2, r_bi, r_cons, r_nil, r_idx, r_v0, r_c, Res.bind_ok, ix_t1, list_its, ad, Res.into_ok, bindT_nm, List.set, RS.seq_nx, s_nil]
          rw [e2]
          simp
        have := ih (n + 1) (J ++ [lsi B, lsi (A ++ (List.replicate (n + 1) B).flatten)]) (h ++ J ++ [lsi B]).length (by simp; try omega) (by
          rw [show h ++ (J ++ [lsi B, lsi (A ++ (List.replicate (n + 1) B).flatten)]) = h ++ J ++ [lsi B] ++ [lsi (A ++ (List.replicate (n + 1) B).flatten)] by simp]
          exact List.getElem?_concat_length) (by rw [e2, List.length_append (bs := B)]; omega) (by rw [e2, List.length_append (bs := B)]; omega)
        have tt : Tt [some (rowD A B), some (.int 40), some (.ref r)] (h ++ J) = .ok true (h ++ J) := by
          rw [← hT]
          simp only [r_ctr, r_cmp, r_bi, r_cons, r_nil, r_v2, r_v1, Res.bind_ok, len_lsi hJ, cR_lt, tR_bl, decide_eq_true zl]
        rw [whlC_turn, tt]
        simp only [bd]
        exact this
      · refine ⟨n, J, r, hr, hJ, by omega, ?_⟩
        have nl : ¬ (((A ++ (List.replicate n B).flatten).length : Nat) : Int) < 40 := by omega
        rw [whlC_turn, ← hT]
        simp only [r_ctr, r_cmp, r_bi, r_cons, r_nil, r_v2, r_v1, Res.bind_ok, len_lsi hJ, cR_lt, tR_bl, decide_eq_false nl]
  obtain ⟨n, J, r, h1, h2, h3, e⟩ := run 40 0 [lsi A] h.length (Nat.le_refl _) (by simp) (by omega) (by simp; omega)
  dsimp only
  rw [e]
  refine ⟨n, ?_, by rw [List.length_take]; omega⟩
  have sl := slice_lsi h2 none (some ((40 : Nat) : Int))
  rw [cut_take h3] at sl
  simp only [RS.seq_nx, s_cons, s_ret, r_slc, r_v2, r_v1, r_o0, r_o1, intO_int, Res.bind_ok]
  rw [show (40 : Int) = ((40 : Nat) : Int) from rfl, sl]
  simp only [Res.into_ok, RS.seq_rt]
  rw [List.append_assoc]
  exact fin_obj (by rw [← List.append_assoc]; exact List.getElem?_concat_length) (by simp) (underL_its _ _)
end
end Y

set_option linter.all false
set_option maxRecDepth 100000
set_option maxHeartbeats 1000000
/-! The law k03. -/
namespace Y
open PySem (Str)

def m_written : List S := [
  .ex (.call "check_base" [.v 0]),
  .ex (.call "check_number" [.v 1]),
  .ret (.call "led_writing" [.v 0, .v 1, .c (.int 0)])]
def m_greatly : List S := [
  .ex (.call "check_base" [.v 0]),
  .ex (.call "check_number" [.v 1]),
  .ret (.call "led_writing" [.v 0, .v 1, .neg (.c (.int 1))])]
structure K3 (T : Tbl) (G : String → Option D) : Prop where
  gt : GT T G
  nb : NB T
  wt : WT T
  lt : LT T
  dt : DT T
  check_number : T "check_number" = some (.fn 1 1 m_check_number)
  is_writing_of : T "is_writing_of" = some (.fn 2 3 m_is_writing_of)
  is_writing : T "is_writing" = some (.fn 2 2 m_is_writing)
  worth : T "worth" = some (.fn 2 2 m_worth)
  neat_of : T "neat_of" = some (.fn 1 5 m_neat_of)
  led_writing : T "led_writing" = some (.fn 3 7 m_led_writing)
  written : T "written" = some (.fn 2 2 m_written)
  greatly : T "greatly" = some (.fn 2 2 m_greatly)
  lis : T "_law_is" = some (.fn 2 5 m__law_is)
  lneat : T "_law_neat" = some (.fn 1 5 m__law_neat)
  lled : T "_law_led" = some (.fn 3 7 m__law_led)
  lwriting : T "_law_writing" = some (.fn 3 9 m__law_writing)
  ldigits : T "_law_digits" = some (.fn 2 3 m__law_digits)
/-- the neat rows of least, of greatest digits -/
abbrev lowR (b q p : Int) : List Int × List Int := neat (ledRow (pickL b q) b q p).1 (ledRow (pickL b q) b q p).2
abbrev higR (b q p : Int) : List Int × List Int := neat (ledRow (pickM b q) b q p).1 (ledRow (pickM b q) b q p).2
section
variable {T : Tbl} {G : String → Option D} {h : Hp} {b q p : Int}
theorem pick0 : pickOf 0 b q = pickL b q := rfl
theorem pick1 : pickOf (-1) b q = pickM b q := by funext P; unfold pickOf; rw [if_neg (by decide)]
theorem n_written (F : K3 T G) (b0 : 2 ≤ b) (b1 : b ≤ 5) (q0 : 0 < q) (q1 : q ≤ 1000) (hp : -q ≤ p ∧ p ≤ q) : callN T G whlC 39 "written" [.int b, fr (lo p q)] h = .ok (rowD (lowR b q p).1 (lowR b q p).2) h := by
  have hs := (led_least (p := p) b0 b1 q0 q1 hp).lB
  have l := s_led (G := G) (k := 33) (h := h) (pc := 0) F.gt F.led_writing F.neat_of (S := LeastD b q) (fun _ _ h => h.1) (fun P hP => pickL_least b0 b1 q0 hP) (.inl rfl) b0 b1 q0 (by omega) hp (by rw [pick0]; omega)
  rw [pick0] at l
  rw [call_fn F.written rfl]
  simp [m_written, s_cons, start, n_check_base (G := G) (k := 34) F.nb b0 b1, n_check_number (G := G) (k := 34) F.nb F.check_number (lo_le_num q0 (show ((p.natAbs : Nat) : Int) ≤ q by omega)).2, l]
  exact fin_pure0 (pure_row _ _)
theorem n_greatly (F : K3 T G) (b0 : 2 ≤ b) (b1 : b ≤ 5) (q0 : 0 < q) (q1 : q ≤ 1000) (hp : -q ≤ p ∧ p ≤ q) : callN T G whlC 39 "greatly" [.int b, fr (lo p q)] h = .ok (rowD (higR b q p).1 (higR b q p).2) h := by
  have hs := (led_most (p := p) b0 b1 q0 q1 hp).lB
  have l := s_led (G := G) (k := 33) (h := h) (pc := -1) F.gt F.led_writing F.neat_of (S := MostD b q) (fun _ _ h => h.1) (fun P hP => by rw [pick1]; exact pickM_most b0 b1 q0 hP) (.inr rfl) b0 b1 q0 (by omega) hp (by rw [pick1]; omega)
  rw [pick1] at l
  rw [call_fn F.greatly rfl]
  simp [m_greatly, s_cons, start, n_check_base (G := G) (k := 34) F.nb b0 b1, n_check_number (G := G) (k := 34) F.nb F.check_number (lo_le_num q0 (show ((p.natAbs : Nat) : Int) ≤ q by omega)).2, l]
  exact fin_pure0 (pure_row _ _)
theorem map_lc {Z : Sg} {ρ : Env} {h h' : Hp} {e : E} {t : Nat} {i : I} {l : List Int} (hi : evI Z i ρ h = .ok ⟨l.map .int, [], none⟩ h') (hl : l.length ≤ line) (f : Int → Int)
    (each : ∀ d ∈ l, evE Z e ((ρ.set t none).set t (some (.int d))) h' = .ok (.int (f d)) h') :
    evE Z (.lc e (.nm t) i []) ρ h = .ok (.ref h'.length) (h' ++ [lsi (l.map f)]) := by
  have lc := lc_src (e := e) (t := .nm t) (cs := []) hi rfl (by simpa using hl) rfl (fun _ => true) (fun d => match d with | .int i => .int (f i) | d => d) (fun d hd => by
    simp only [List.mem_map] at hd
    obtain ⟨x, hx, rfl⟩ := hd
    exact ⟨_, rfl, by simp, fun _ => by simpa using each x hx⟩)
  rw [filter_all, List.map_map] at lc
  have mm : List.map ((fun d => match d with | .int i => D.int (f i) | d => d) ∘ D.int) l = (l.map f).map D.int := by rw [List.map_map]; rfl
  rw [mm] at lc
  exact lc
theorem le_lsi {m n : Nat} {a c : List Int} (h1 : h[m]? = some (lsi a)) (h2 : h[n]? = some (lsi c)) : compare .le (.ref m) (.ref n) h = some (lexLe a c) := by
  simp [compare, leL, h1, h2, intsOf_map]
abbrev body03 : List S := [
    .asg (.tp [.nm 6, .nm 7]) (.tup [.call "written" [.v 3, .v 5], .call "greatly" [.v 3, .v 5]]),
    .iff (.or (.not (.tr (.call "_law_is" [.v 6, .call "_law_led" [.v 3, .v 5, .c (.int 0)]]))) (.not (.tr (.call "_law_is" [.v 7, .call "_law_led" [.v 3, .v 5, .neg (.c (.int 1))]])))) [
      .ret (.c (.bl false))] [],
    .iff (.or (.tr (.cmp .isn (.call "is_writing" [.v 3, .v 6]) (.c (.bl true)))) (.or (.tr (.cmp .ne (.call "worth" [.v 3, .v 6]) (.v 5))) (.tr (.cmp .ne (.call "worth" [.v 3, .v 7]) (.v 5))))) [
      .ret (.c (.bl false))] [],
    .asg (.nm 8) (.call "written" [.v 3, .tup [.bin .sub (.c (.int 0)) (.idx (.v 5) (.c (.int 0))), .idx (.v 5) (.c (.int 1))]]),
    .iff (.tr (.cmp .ne (.tup [.bi .tup [.lc (.bin .sub (.c (.int 0)) (.v 9)) (.nm 9) (.val (.idx (.v 8) (.c (.int 0)))) []], .bi .tup [.lc (.bin .sub (.c (.int 0)) (.v 9)) (.nm 9) (.val (.idx (.v 8) (.c (.int 1)))) []]]) (.v 7))) [
      .ret (.c (.bl false))] [],
    .iff (.tr (.cmp .gt (.v 4) (.c (.int 27)))) [
      .cnt] [],
    .asg (.nm 10) (.call "_law_writing" [.v 1, .v 3, .v 5]),
    .iff (.tr (.cmp .ne (.call "worth" [.v 3, .v 10]) (.v 5))) [
      .ret (.c (.bl false))] [],
    .asg (.nm 11) (.lc (.call "_law_digits" [.v 12, .c (.int 40)]) (.nm 12) (.val (.tup [.v 6, .v 10, .v 7])) []),
    .iff (.not (.tr (.cmp2 .le .le (.idx (.v 11) (.c (.int 0))) (.idx (.v 11) (.c (.int 1))) (.idx (.v 11) (.c (.int 2)))))) [
      .ret (.c (.bl false))] []]
theorem k03_ask (F : K3 T G) {n : Nat} (hn : n < 2000) (hh : Hand h 1 0 n) (b0 : 2 ≤ b) (b1 : b ≤ 5) (q0 : 0 < q) (q1 : q ≤ 1000) (hp : -q ≤ p ∧ p ≤ q) {a2 a6 a7 a8 a9 a10 a11 a12 : Option D} :
    ∃ ρ' h' n', (evSs ⟨callN T G whlC 39, whlC, G⟩ body03 [none, some (.ref 1), a2, some (.int b), some (.int q), some (fr (lo p q)), a6, a7, a8, a9, a10, a11, a12] h = .nx ρ' h' ∨ evSs ⟨callN T G whlC 39, whlC, G⟩ body03 [none, some (.ref 1), a2, some (.int b), some (.int q), some (fr (lo p q)), a6, a7, a8, a9, a10, a11, a12] h = .ct ρ' h') ∧ Hand h' 1 0 n' ∧ n' ≤ n + 100 ∧ ∃ y2 y3 y4 y5 y6 y7 y8 y9 y10 y11 y12, ρ' = [none, some (.ref 1), y2, y3, y4, y5, y6, y7, y8, y9, y10, y11, y12] := by
  have line0 : line = 16777216 := rfl
  have L : Led (LeastD b q) b q p (lowR b q p).1 (lowR b q p).2 := (led_least (p := p) b0 b1 q0 q1 hp).neat b0
  have M : Led (MostD b q) b q p (higR b q p).1 (higR b q p).2 := (led_most (p := p) b0 b1 q0 q1 hp).neat b0
  have N : Led (LeastD b q) b q (-p) (lowR b q (-p)).1 (lowR b q (-p)).2 := (led_least (p := -p) b0 b1 q0 q1 (by omega)).neat b0
  have lwr : Wr (Legal b q) b q p (lowR b q p).1 (lowR b q p).2 := L.wr.imp fun _ _ h => h.1
  have mwr : Wr (Legal b q) b q p (higR b q p).1 (higR b q p).2 := M.wr.imp fun _ _ h => h.1
  have dgs : ∀ {A B : List Int}, Wr (Legal b q) b q p A B → ∀ d ∈ A ++ B, 1 - b ≤ d ∧ d ≤ b - 1 := fun w => legal_digits _ _ w.all
  have sml : ∀ {A B : List Int}, Wr (Legal b q) b q p A B → (∀ d ∈ A, d.natAbs < 2 ^ 3) ∧ (∀ d ∈ B, d.natAbs < 2 ^ 3) := fun w =>
    ⟨fun d hd => by have := dgs w d (List.mem_append_left _ hd); omega, fun d hd => by have := dgs w d (List.mem_append_right _ hd); omega⟩
  have wth' : ∀ {A B : List Int} (h : Hp), Wr (Legal b q) b q p A B → A.length + B.length ≤ 2001 → callN T G whlC 39 "worth" [.int b, rowD A B] h = .ok (fr (lo p q)) h := fun h w l => by
    rw [n_worth (k := 34) (s := 3) F.nb F.wt F.worth b0 b1 (sml w).1 (sml w).2 w.ne (.inr ⟨by omega, by omega⟩), wth_of b0 q0 w]
  have lA : (lowR b q p).1.length + (lowR b q p).2.length ≤ 2001 := L.lA
  have mA : (higR b q p).1.length + (higR b q p).2.length ≤ 2001 := M.lA
  have nA : (lowR b q (-p)).1.length + (lowR b q (-p)).2.length ≤ 2001 := N.lA
  have W1 := n_written (h := h) F b0 b1 q0 q1 hp
  have W2 := n_greatly (h := h) F b0 b1 q0 q1 hp
  have D1 := s_lled (G := G) (k := 35) (h := h) (pc := 0) F.lt F.lled F.lneat (S := LeastD b q) (fun _ _ h => h.1) (fun P hP => pickL_least b0 b1 q0 hP) (.inl rfl) b0 b1 q0 q1 hp
  have D2 := s_lled (G := G) (k := 35) (h := h) (pc := -1) F.lt F.lled F.lneat (S := MostD b q) (fun _ _ h => h.1) (fun P hP => by rw [pick1]; exact pickM_most b0 b1 q0 hP) (.inr rfl) b0 b1 q0 q1 hp
  rw [pick0] at D1
  rw [pick1] at D2
  have I1 := s_is_row (G := G) (k := 36) (h := h) (A := (lowR b q p).1) (B := (lowR b q p).2) F.lis (by omega) (by omega)
  have I2 := s_is_row (G := G) (k := 36) (h := h) (A := (higR b q p).1) (B := (higR b q p).2) F.lis (by omega) (by omega)
  have J1 := n_writing (G := G) (k := 34) (h := h) F.nb F.is_writing_of F.is_writing b0 b1 L.wr.ne (by omega) (dgs lwr)
  have V1 := wth' h lwr lA
  have V2 := wth' h mwr mA
  have W3 := n_written (h := h) (p := -p) F b0 b1 q0 q1 (by omega)
  have en : lo (-p) q = (-(lo p q).1, (lo p q).2) := lo_ng p q
  rw [en] at W3
  rw [s_cons]
  simp only [s_asg, r_tup, r_cons, r_nil, r_call, r_v3, r_v5, Res.bind_ok, W1, W2, Res.into_ok, bindT_2, List.set, RS.seq_nx]
  rw [s_cons, s_iff, r_cor]
  simp only [r_cnot, r_ctr, r_call, r_cons, r_nil, r_v3, r_v5, r_v6, r_v7, r_c, r_neg, Res.bind_ok, D1, D2, I1, I2, tR_bl, Bool.not_true, Bool.false_eq_true, if_false, Res.into_ok, s_nil, RS.seq_nx]
  rw [s_cons, s_iff, r_cor]
  have isn : compareR .isn (.bl true) (.bl true) h = .ok (.bl false) h := by simp [compareR, compare, is?]
  simp only [r_cor, r_ctr, r_cmp, r_call, r_cons, r_nil, r_v3, r_v5, r_v6, r_v7, r_c, Res.bind_ok, J1, isn, tR_bl, V1, V2, ne_frB, decide_true, Bool.not_true, Bool.false_eq_true, if_false, Res.into_ok, s_nil, RS.seq_nx]
  rw [s_cons]
  simp only [s_asg, r_call, r_cons, r_nil, r_v3, r_tup, r_bin, r_c, r_idx, r_v5, ix_t0, ix_t1, Res.bind_ok, b_sub, Int.zero_sub, W3, Res.into_ok, bindT_nm, List.set, RS.seq_nx]
  have ng_ : (higR b q p).1 = ngs (lowR b q (-p)).1 ∧ (higR b q p).2 = ngs (lowR b q (-p)).2 := by
    have e := ledRow_ng (p := -p) b0 b1 q0 (by omega)
    rw [Int.neg_neg] at e
    have nm := neat_map (f := fun d => -d) neg_inj (ledRow (pickL b q) b q (-p)).1 (ledRow (pickL b q) b q (-p)).2 (led_least (p := -p) b0 b1 q0 q1 (by omega)).wr.ne
    unfold higR
    rw [e]
    exact ⟨congrArg Prod.fst nm, congrArg Prod.snd nm⟩
  generalize lowR b q (-p) = Rn at *
  obtain ⟨Na, Nb⟩ := Rn
  dsimp only at ng_ nA N ⊢
  have c1 := map_lc (Z := ⟨callN T G whlC 39, whlC, G⟩) (ρ := [none, some (.ref 1), a2, some (.int b), some (.int q), some (fr (lo p q)), some (rowD (lowR b q p).1 (lowR b q p).2), some (rowD (higR b q p).1 (higR b q p).2), some (rowD Na Nb), a9, a10, a11, a12]) (h := h) (h' := h) (e := .bin .sub (.c (.int 0)) (.v 9)) (t := 9) (i := .val (.idx (.v 8) (.c (.int 0)))) (l := Na) (by simp only [i_val, r_idx, r_v8, r_c, Res.bind_ok, ix_t0]; rfl) (by omega) (fun d => -d) (fun d _ => by simp)
  have c2 := map_lc (Z := ⟨callN T G whlC 39, whlC, G⟩) (ρ := [none, some (.ref 1), a2, some (.int b), some (.int q), some (fr (lo p q)), some (rowD (lowR b q p).1 (lowR b q p).2), some (rowD (higR b q p).1 (higR b q p).2), some (rowD Na Nb), a9, a10, a11, a12]) (h := h ++ [lsi (ngs Na)]) (h' := h ++ [lsi (ngs Na)]) (e := .bin .sub (.c (.int 0)) (.v 9)) (t := 9) (i := .val (.idx (.v 8) (.c (.int 1)))) (l := Nb) (by simp only [i_val, r_idx, r_v8, r_c, Res.bind_ok, ix_t1]; rfl) (by omega) (fun d => -d) (fun d _ => by simp)
  have t1 := tup_lsi (h := h ++ [lsi (ngs Na)]) (q := h.length) (l := ngs Na) List.getElem?_concat_length
  have t2 := tup_lsi (h := h ++ [lsi (ngs Na)] ++ [lsi (ngs Nb)]) (q := (h ++ [lsi (ngs Na)]).length) (l := ngs Nb) List.getElem?_concat_length
  rw [s_cons, s_iff]
  have eqr : decide ((ngs Na) = (higR b q p).1 ∧ (ngs Nb) = (higR b q p).2) = true := decide_eq_true ⟨ng_.1.symm, ng_.2.symm⟩
  simp only [r_ctr, r_cmp, r_tup, r_cons, r_nil, r_bi, c1, t1, c2, t2, r_v7, Res.bind_ok, ne_row, eqr, Bool.not_true, tR_bl, Bool.false_eq_true, if_false, Res.into_ok, s_nil, RS.seq_nx]
  have H2 := (hh.app [lsi (ngs Na)]).app [lsi (ngs Nb)]
  generalize h ++ [lsi (ngs Na)] ++ [lsi (ngs Nb)] = h2 at *
  rw [s_cons, s_iff]
  by_cases z : 27 < q
  · simp only [r_ctr, r_cmp, r_v4, r_c, Res.bind_ok, cR_gt, decide_eq_true z, tR_bl, if_true, Res.into_ok, s_cons, s_cnt, RS.seq_ct]
    exact ⟨_, _, n, .inr rfl, H2, by omega, _, _, _, _, _, _, _, _, _, _, _, rfl⟩
  · simp only [r_ctr, r_cmp, r_v4, r_c, Res.bind_ok, cR_gt, decide_eq_false z, tR_bl, if_false, Bool.false_eq_true, Res.into_ok, s_nil, RS.seq_nx]
    obtain ⟨A, B, h3, n', w, wr, wl, H3, s3, hn'⟩ := s_writing (G := G) (k := 34) (h := h2) F.lt F.dt F.lwriting H2 (by omega) b0 b1 q0 (by omega) hp
    have V3 := wth' h3 wr (by omega)
    rw [s_cons]
    simp only [s_asg, r_call, r_cons, r_nil, r_v1, r_v3, r_v5, Res.bind_ok, w, Res.into_ok, bindT_nm, List.set, RS.seq_nx]
    rw [s_cons, s_iff]
    simp only [r_ctr, r_cmp, r_call, r_cons, r_nil, r_v3, r_v5, r_v10, Res.bind_ok, V3, ne_frB, decide_true, Bool.not_true, tR_bl, Bool.false_eq_true, if_false, Res.into_ok, s_nil, RS.seq_nx]
    obtain ⟨n0, d0, e0⟩ := s_digits (G := G) (k := 38) (h := h3) (A := (lowR b q p).1) (B := (lowR b q p).2) F.ldigits L.wr.ne (by omega)
    obtain ⟨n1, d1, e1⟩ := s_digits (G := G) (k := 38) (h := h3 ++ [lsi (((lowR b q p).1 ++ (List.replicate n0 (lowR b q p).2).flatten).take 40)]) (A := A) (B := B) F.ldigits wr.ne (by omega)
    obtain ⟨n2, d2, e2⟩ := s_digits (G := G) (k := 38) (h := h3 ++ [lsi (((lowR b q p).1 ++ (List.replicate n0 (lowR b q p).2).flatten).take 40)] ++ [lsi ((A ++ (List.replicate n1 B).flatten).take 40)]) (A := (higR b q p).1) (B := (higR b q p).2) F.ldigits M.wr.ne (by omega)
    have o1 := lex_least (b := b) (q := q) _ _ p (e0.trans e1.symm) ((L.wr.more n0).1.take 40) ((wr.more n1).1.take 40)
    have o2 := lex_most (b := b) (q := q) _ _ p (e1.trans e2.symm) ((wr.more n1).1.take 40) ((M.wr.more n2).1.take 40)
    generalize ((lowR b q p).1 ++ (List.replicate n0 (lowR b q p).2).flatten).take 40 = X0 at *
    generalize (A ++ (List.replicate n1 B).flatten).take 40 = X1 at *
    generalize ((higR b q p).1 ++ (List.replicate n2 (higR b q p).2).flatten).take 40 = X2 at *
    have lc : evE (⟨callN T G whlC 39, whlC, G⟩ : Sg) (.lc (.call "_law_digits" [.v 12, .c (.int 40)]) (.nm 12) (.val (.tup [.v 6, .v 10, .v 7])) []) [none, some (.ref 1), a2, some (.int b), some (.int q), some (fr (lo p q)), some (rowD (lowR b q p).1 (lowR b q p).2), some (rowD (higR b q p).1 (higR b q p).2), some (rowD Na Nb), a9, some (rowD A B), a11, a12] h3 = .ok (.ref (h3 ++ [lsi X0] ++ [lsi X1] ++ [lsi X2]).length) (h3 ++ [lsi X0] ++ [lsi X1] ++ [lsi X2] ++ [.lst [.ref h3.length, .ref (h3 ++ [lsi X0]).length, .ref (h3 ++ [lsi X0] ++ [lsi X1]).length]]) := by
      rw [r_lc]
      have hi : evI (⟨callN T G whlC 39, whlC, G⟩ : Sg) (.val (.tup [.v 6, .v 10, .v 7])) [none, some (.ref 1), a2, some (.int b), some (.int q), some (fr (lo p q)), some (rowD (lowR b q p).1 (lowR b q p).2), some (rowD (higR b q p).1 (higR b q p).2), some (rowD Na Nb), a9, some (rowD A B), a11, a12] h3 = .ok ⟨[rowD (lowR b q p).1 (lowR b q p).2, rowD A B, rowD (higR b q p).1 (higR b q p).2], [], none⟩ h3 := by
        simp only [i_val, r_tup, r_cons, r_nil, r_v6, r_v7, r_v10, Res.bind_ok, seqOf, ofO_some]
      rw [hi]
      have v12 : ∀ (x : D) (h : Hp), evE (⟨callN T G whlC 39, whlC, G⟩ : Sg) (.v 12) [none, some (.ref 1), a2, some (.int b), some (.int q), some (fr (lo p q)), some (rowD (lowR b q p).1 (lowR b q p).2), some (rowD (higR b q p).1 (higR b q p).2), some (rowD Na Nb), a9, some (rowD A B), a11, some x] h = .ok x h := fun x h => by rw [r_v]; rfl
      have nl : ¬ line < 3 := by omega
      simp only [Res.bind_ok, List.length_cons, List.length_nil, Nat.reduceAdd, nl, if_false, slots_nm, forget_1, List.set, locked, lcL, okG, List.all_nil, if_true, bindT_nm, r_cs0, r_call, r_cons, r_nil, v12, r_c, d0, d1, d2, new, Res.unlock]
    rw [s_cons]
    simp only [s_asg, lc, Res.into_ok, bindT_nm, List.set, RS.seq_nx]
    rw [s_cons, s_iff]
    have v11 : ∀ (x : D) (h : Hp), evE (⟨callN T G whlC 39, whlC, G⟩ : Sg) (.v 11) [none, some (.ref 1), a2, some (.int b), some (.int q), some (fr (lo p q)), some (rowD (lowR b q p).1 (lowR b q p).2), some (rowD (higR b q p).1 (higR b q p).2), some (rowD Na Nb), a9, some (rowD A B), some x, a12] h = .ok x h := fun x h => by rw [r_v]; rfl
    have H4 := (((H3.app [lsi X0]).app [lsi X1]).app [lsi X2]).app [Ob.lst [.ref h3.length, .ref (h3 ++ [lsi X0]).length, .ref (h3 ++ [lsi X0] ++ [lsi X1]).length]]
    have g3 : ∀ {i : Nat} {o : Ob}, (h3 ++ [lsi X0] ++ [lsi X1] ++ [lsi X2])[i]? = some o → (h3 ++ [lsi X0] ++ [lsi X1] ++ [lsi X2] ++ [Ob.lst [.ref h3.length, .ref (h3 ++ [lsi X0]).length, .ref (h3 ++ [lsi X0] ++ [lsi X1]).length]])[i]? = some o := fun e => by rw [List.getElem?_append_left (List.getElem?_eq_some_iff.mp e).1]; exact e
    have k0 : (h3 ++ [lsi X0] ++ [lsi X1] ++ [lsi X2])[h3.length]? = some (lsi X0) := by simp
    have k1 : (h3 ++ [lsi X0] ++ [lsi X1] ++ [lsi X2])[(h3 ++ [lsi X0]).length]? = some (lsi X1) := by
      rw [List.getElem?_append_left (by simp)]; exact List.getElem?_concat_length
    have k2 : (h3 ++ [lsi X0] ++ [lsi X1] ++ [lsi X2])[(h3 ++ [lsi X0] ++ [lsi X1]).length]? = some (lsi X2) := List.getElem?_concat_length
    have kl : (h3 ++ [lsi X0] ++ [lsi X1] ++ [lsi X2] ++ [Ob.lst [.ref h3.length, .ref (h3 ++ [lsi X0]).length, .ref (h3 ++ [lsi X0] ++ [lsi X1]).length]])[(h3 ++ [lsi X0] ++ [lsi X1] ++ [lsi X2]).length]? = some (Ob.lst [.ref h3.length, .ref (h3 ++ [lsi X0]).length, .ref (h3 ++ [lsi X0] ++ [lsi X1]).length]) := List.getElem?_concat_length
    have q1 := le_lsi (g3 k0) (g3 k1)
    have q2 := le_lsi (g3 k1) (g3 k2)
    generalize (h3 ++ [lsi X0] ++ [lsi X1] ++ [lsi X2] ++ [Ob.lst [.ref h3.length, .ref (h3 ++ [lsi X0]).length, .ref (h3 ++ [lsi X0] ++ [lsi X1]).length]]) = h4 at *
    generalize (h3 ++ [lsi X0] ++ [lsi X1] ++ [lsi X2]).length = r4 at *
    generalize (h3 ++ [lsi X0] ++ [lsi X1]).length = r2 at *
    generalize (h3 ++ [lsi X0]).length = r1 at *
    generalize h3.length = r0 at *
    have x0 : index (.ref r4) (.int 0) h4 = .ok (.ref r0) h4 := by simp [index, kl, item, place]
    have x1 : index (.ref r4) (.int 1) h4 = .ok (.ref r1) h4 := by simp [index, kl, item, place]
    have x2 : index (.ref r4) (.int 2) h4 = .ok (.ref r2) h4 := by simp [index, kl, item, place]
    have q2' : compareR .le (.ref r1) (.ref r2) h4 = .ok (.bl true) h4 := by simp only [compareR, q2, o2]
    simp only [r_cnot, r_ctr, r_cmp2, r_idx, v11, r_c, Res.bind_ok, x0, x1, x2, q1, o1, q2', tR_bl, Bool.not_true, Bool.false_eq_true, if_false, Res.into_ok, s_nil, RS.seq_nx]
    exact ⟨_, _, n', .inl rfl, H4, by omega, _, _, _, _, _, _, _, _, _, _, _, rfl⟩
end
end Y

set_option linter.all false
set_option maxRecDepth 100000
set_option maxHeartbeats 1000000
/-! The law k03, all turns. -/
namespace Y
open PySem (Str)

theorem forL_runC {t : Y.T} {g : List (Nat × Ob)} {body : Env → Hp → RS} (Inv : List D → Env → Hp → Prop) (hok : ∀ ds ρ h, Inv ds ρ h → okG g h = true)
    (step : ∀ d ds ρ h, Inv (d :: ds) ρ h → ∃ ρ' ρ'' h', bindT t d ρ h = some ρ' ∧ (body ρ' h = .nx ρ'' h' ∨ body ρ' h = .ct ρ'' h') ∧ Inv ds ρ'' h') : ∀ ds ρ h, Inv ds ρ h → ∃ ρ' h', forL t g body ds ρ h = .nx ρ' h' ∧ Inv [] ρ' h'
  | [], ρ, h, i => ⟨ρ, h, by rw [forL, if_pos (hok _ _ _ i)], i⟩
  | d :: ds, ρ, h, i => by
    obtain ⟨ρ', ρ'', h', h1, h2, h3⟩ := step d ds ρ h i
    obtain ⟨ρ3, h3', e, i'⟩ := forL_runC Inv hok step ds ρ'' h' h3
    refine ⟨ρ3, h3', ?_, i'⟩
    rw [forL, if_pos (hok _ _ _ i)]
    rcases h2 with h2 | h2
    · simp only [h1, h2, e]
    · simp only [h1, h2, e]
abbrev turn03 : List S := [
    .asg (.tp [.nm 3, .nm 4]) (.tup [.bin .add (.c (.int 2)) (.call "_law_draw" [.v 1, .c (.int 4)]), .call "_law_any" [.v 1, .lst [.c (.int 1), .c (.int 2), .c (.int 3), .c (.int 7), .c (.int 16), .c (.int 60), .bin .add (.c (.int 1)) (.call "_law_draw" [.v 1, .c (.int 1000)]), .c (.int 997)]]]),
    .asg (.nm 5) (.call "_law_low" [.bin .sub (.call "_law_draw" [.v 1, .bin .add (.bin .mul (.c (.int 2)) (.v 4)) (.c (.int 1))]) (.v 4), .v 4])]
def m_law03 : List S := [
  .for_ (.nm 2) (.rng (.c (.int 4))) (turn03 ++ body03),
  .ret (.c (.bl true))]
section
variable {T : Tbl} {G : String → Option D}
theorem k03_turn (F : K3 T G) {n : Nat} (hn : n < 1000) {h : Hp} (hh : Hand h 1 0 n) {a2 a3 a4 a5 a6 a7 a8 a9 a10 a11 a12 : Option D} :
    ∃ ρ' h' n', (evSs ⟨callN T G whlC 39, whlC, G⟩ (turn03 ++ body03) [none, some (.ref 1), a2, a3, a4, a5, a6, a7, a8, a9, a10, a11, a12] h = .nx ρ' h' ∨ evSs ⟨callN T G whlC 39, whlC, G⟩ (turn03 ++ body03) [none, some (.ref 1), a2, a3, a4, a5, a6, a7, a8, a9, a10, a11, a12] h = .ct ρ' h') ∧ Hand h' 1 0 n' ∧ n' ≤ n + 104 ∧ ∃ y2 y3 y4 y5 y6 y7 y8 y9 y10 y11 y12, ρ' = [none, some (.ref 1), y2, y3, y4, y5, y6, y7, y8, y9, y10, y11, y12] := by
  have D1 := F.dt
  obtain ⟨r1, h1, e1, r10, r11, H1, s1⟩ := s_drawA (G := G) (W := whlC) (k := 37) (J := []) (m := 4) D1 hh (by omega) (by decide) (by decide)
  obtain ⟨r2, h2, e2, r20, r21, H2, s2⟩ := s_drawA (G := G) (W := whlC) (k := 37) (J := []) (m := 1000) D1 H1 (by omega) (by decide) (by decide)
  simp only [List.append_nil] at e1 e2
  obtain ⟨bo, h3, e3, bm, H3, s3⟩ := s_anyA (G := G) (W := whlC) (k := 36) (J := [Ob.lst ([1, 2, 3, 7, 16, 60, 1 + r2, 997].map D.int)]) (s := h2.length) (xs := [1, 2, 3, 7, 16, 60, 1 + r2, 997].map D.int) D1 H2 (by omega) List.getElem?_concat_length (by simp) (by simp) (Nat.le_refl _) (fun d hd => by
    simp only [List.mem_map] at hd
    obtain ⟨x, _, rfl⟩ := hd
    rfl)
  simp only [List.mem_map] at bm
  obtain ⟨q, hq, rfl⟩ := bm
  have b0 : 1 ≤ q ∧ q ≤ 1000 := by
    simp only [List.mem_cons, List.mem_nil_iff, or_false] at hq
    omega
  simp only [List.map_cons, List.map_nil] at e3
  obtain ⟨r4, h4, e4, r40, r41, H4, s4⟩ := s_drawA (G := G) (W := whlC) (k := 37) (J := [Ob.lst ([1, 2, 3, 7, 16, 60, 1 + r2, 997].map D.int)]) (m := 2 * q + 1) D1 H3 (by omega) (by omega) (by omega)
  simp only [List.map_cons, List.map_nil] at e4
  have lw := s_low (G := G) (k := 38) (h := h4 ++ [Ob.lst ([1, 2, 3, 7, 16, 60, 1 + r2, 997].map D.int)]) (t := r4 - q) (b := q) F.lt.low (by omega) (by omega)
  simp only [List.map_cons, List.map_nil] at lw
  have H5 := H4.app [Ob.lst ([1, 2, 3, 7, 16, 60, 1 + r2, 997].map D.int)]
  simp only [List.map_cons, List.map_nil] at H5
  have ask := fun a6 a7 a8 a9 a10 a11 a12 => k03_ask (b := 2 + r1) (q := q) (p := r4 - q) F (n := n + 1 + 1 + 1 + 1) (by omega) H5 (by omega) (by omega) (by omega) (by omega) (by omega) (a2 := a2) (a6 := a6) (a7 := a7) (a8 := a8) (a9 := a9) (a10 := a10) (a11 := a11) (a12 := a12)
  obtain ⟨ρ', h', n', e, H', hn', y2, y3, y4, y5, y6, y7, y8, y9, y10, y11, y12, rfl⟩ := ask a6 a7 a8 a9 a10 a11 a12
  refine ⟨_, h', n', ?_, H', by omega, y2, y3, y4, y5, y6, y7, y8, y9, y10, y11, y12, rfl⟩
  have st : evSs ⟨callN T G whlC 39, whlC, G⟩ (turn03 ++ body03) [none, some (.ref 1), a2, a3, a4, a5, a6, a7, a8, a9, a10, a11, a12] h = evSs ⟨callN T G whlC 39, whlC, G⟩ body03 [none, some (.ref 1), a2, some (.int (2 + r1)), some (.int q), some (fr (lo (r4 - q) q)), a6, a7, a8, a9, a10, a11, a12] (h4 ++ [Ob.lst [.int 1, .int 2, .int 3, .int 7, .int 16, .int 60, .int (1 + r2), .int 997]]) := by
    generalize body03 = bb
    unfold turn03
    simp only [List.cons_append, List.nil_append]
    rw [s_cons]
    simp only [s_asg, r_tup, r_cons, r_nil, r_bin, r_c, r_call, r_v1, Res.bind_ok, e1, e2, b_add, r_lst, new, e3, Res.into_ok, bindT_2, List.set, RS.seq_nx]
    rw [s_cons]
    simp only [s_asg, r_call, r_cons, r_nil, r_bin, r_c, r_v1, r_v4, Res.bind_ok, bind_mul (i := 2) (j := q) (show (2 : Int).natAbs < 2 ^ 64 by decide) (show q.natAbs < 2 ^ 64 by omega), b_add, e4, b_sub, lw, Res.into_ok, bindT_nm, List.set, RS.seq_nx]
  rw [st]
  exact e
theorem k03_plain (F : K3 T G) (ns : List Int) : ∃ h', evSs ⟨callN T G whlC 39, whlC, G⟩ m_law03 ((List.replicate 13 none).set 1 (some (.ref 1))) [.lst (ns.map .int), .lst [.ref 0, .int 0, .int 0, .int 0]] = .rt (.bl true) h' := by
  have H0 : Hand [.lst (ns.map .int), .lst [.ref 0, .int 0, .int 0, .int 0]] 1 0 0 := ⟨by decide, ns, 0, 0, 0, rfl, rfl, by decide, by decide⟩
  have hr : range1 (.int 4) = some ⟨[.int 0, .int 1, .int 2, .int 3], [], none⟩ := by
    unfold range1
    simp only
    rw [if_pos (by decide)]
    rfl
  unfold m_law03
  rw [s_cons, for_src (s := ⟨[.int 0, .int 1, .int 2, .int 3], [], none⟩) (h' := [.lst (ns.map .int), .lst [.ref 0, .int 0, .int 0, .int 0]]) (by simp [hr]) rfl]
  obtain ⟨ρ', h', e, m, n', H, l, _, _, y2, y3, y4, y5, y6, y7, y8, y9, y10, y11, y12, rfl⟩ := forL_runC (t := .nm 2) (g := []) (body := fun ρ h => evSs ⟨callN T G whlC 39, whlC, G⟩ (turn03 ++ body03) ρ h)
    (fun ds ρ h => ∃ m n, Hand h 1 0 n ∧ ds.length ≤ m ∧ m ≤ 4 ∧ n + 104 * m ≤ 416 ∧ ∃ y2 y3 y4 y5 y6 y7 y8 y9 y10 y11 y12, ρ = [none, some (.ref 1), y2, y3, y4, y5, y6, y7, y8, y9, y10, y11, y12]) (fun _ _ _ _ => rfl) (fun d ds ρ h i => by
      obtain ⟨m, n, H, l, l4, l2, y2, y3, y4, y5, y6, y7, y8, y9, y10, y11, y12, rfl⟩ := i
      rw [List.length_cons] at l
      obtain ⟨ρ', h', n', e, H', l', w⟩ := k03_turn F (n := n) (by omega) H (a2 := some d) (a3 := y3) (a4 := y4) (a5 := y5) (a6 := y6) (a7 := y7) (a8 := y8) (a9 := y9) (a10 := y10) (a11 := y11) (a12 := y12)
      exact ⟨_, ρ', h', rfl, e, m - 1, n', H', by omega, by omega, by omega, w⟩) [.int 0, .int 1, .int 2, .int 3] _ _ ⟨4, 0, H0, by simp, by omega, by omega, none, none, none, none, none, none, none, none, none, none, none, rfl⟩
  refine ⟨h', ?_⟩
  have e' : forL (Y.T.nm 2) [] (fun ρ h => evSs ⟨callN T G whlC 39, whlC, G⟩ (turn03 ++ body03) ρ h) [.int 0, .int 1, .int 2, .int 3] ((List.replicate 13 none).set 1 (some (.ref 1))) [.lst (ns.map .int), .lst [.ref 0, .int 0, .int 0, .int 0]] = _ := e
  rw [e']
  simp [s_cons]
end
end Y

namespace K03
open PySem Y L2
def topS (i : Nat) : Stmt := PySem.Challenge.pw_anywriting_k03_whole_numbers_written.main.body.getD i (.Pass ⟨0, 0, 0, 0⟩)
def m_is_integer : List S := [
  .ret (.and (.isi (.v 0) ["int"]) (.not (.tr (.isi (.v 0) ["bool"]))))]
abbrev r_is_integer : Row := ⟨"is_integer", topS 1, [Str.ofString "thing"], [Str.ofString "thing"], m_is_integer⟩
def m_is_within : List S := [
  .ret (.and (.call "is_integer" [.v 0]) (.cmp2 .le .le (.v 1) (.v 0) (.v 2)))]
abbrev r_is_within : Row := ⟨"is_within", topS 2, [Str.ofString "thing", Str.ofString "low", Str.ofString "high"], [Str.ofString "thing", Str.ofString "low", Str.ofString "high"], m_is_within⟩
def m_is_pair : List S := [
  .ret (.and (.isi (.v 0) ["tuple"]) (.cmp .eq (.bi .len [.v 0]) (.c (.int 2))))]
abbrev r_is_pair : Row := ⟨"is_pair", topS 3, [Str.ofString "thing"], [Str.ofString "thing"], m_is_pair⟩
def m_is_base_of : List S := [
  .ret (.call "is_within" [.v 0, .c (.int 2), .c (.int 5)])]
abbrev r_is_base_of : Row := ⟨"is_base_of", topS 4, [Str.ofString "thing"], [Str.ofString "thing"], m_is_base_of⟩
def m_is_digit_of : List S := [
  .ret (.call "is_within" [.v 1, .bin .sub (.c (.int 1)) (.v 0), .bin .sub (.v 0) (.c (.int 1))])]
abbrev r_is_digit_of : Row := ⟨"is_digit_of", topS 5, [Str.ofString "base", Str.ofString "thing"], [Str.ofString "base", Str.ofString "thing"], m_is_digit_of⟩
def m_digits_of : List S := [
  .ret (.lof (.rng2 (.bin .sub (.c (.int 1)) (.v 0)) (.v 0)))]
abbrev r_digits_of : Row := ⟨"digits_of", topS 6, [Str.ofString "base"], [Str.ofString "base"], m_digits_of⟩
def m_divisor : List S := [
  .whl (.tr (.cmp .gt (.v 1) (.c (.int 0)))) [
    .asg (.tp [.nm 0, .nm 1]) (.tup [.v 1, .bin .mod (.v 0) (.v 1)])],
  .ret (.v 0)]
abbrev r_divisor : Row := ⟨"divisor", topS 14, [Str.ofString "one", Str.ofString "other"], [Str.ofString "one", Str.ofString "other"], m_divisor⟩
def m_is_fraction_of : List S := [
  .iff (.or (.not (.tr (.call "is_pair" [.v 0]))) (.or (.not (.tr (.call "is_integer" [.idx (.v 0) (.c (.int 0))]))) (.not (.tr (.call "is_integer" [.idx (.v 0) (.c (.int 1))]))))) [
    .ret (.c (.bl false))] [],
  .ret (.and (.cmp .gt (.idx (.v 0) (.c (.int 1))) (.c (.int 0))) (.cmp .eq (.call "divisor" [.bi .abs [.idx (.v 0) (.c (.int 0))], .idx (.v 0) (.c (.int 1))]) (.c (.int 1))))]
abbrev r_is_fraction_of : Row := ⟨"is_fraction_of", topS 15, [Str.ofString "thing"], [Str.ofString "thing"], m_is_fraction_of⟩
def m_is_number_of : List S := [
  .ret (.and (.call "is_fraction_of" [.v 0]) (.cmp .le (.bi .abs [.idx (.v 0) (.c (.int 0))]) (.idx (.v 0) (.c (.int 1)))))]
abbrev r_is_number_of : Row := ⟨"is_number_of", topS 16, [Str.ofString "thing"], [Str.ofString "thing"], m_is_number_of⟩
def m_made : List S := [
  .asg (.nm 2) (.call "divisor" [.bi .abs [.v 0], .v 1]),
  .ret (.tup [.bin .fdiv (.v 0) (.v 2), .bin .fdiv (.v 1) (.v 2)])]
abbrev r_made : Row := ⟨"made", topS 17, [Str.ofString "top", Str.ofString "bottom", Str.ofString "both_have"], [Str.ofString "top", Str.ofString "bottom"], m_made⟩
def m_whole : List S := [
  .ret (.tup [.v 0, .c (.int 1)])]
abbrev r_whole : Row := ⟨"whole", topS 18, [Str.ofString "integer"], [Str.ofString "integer"], m_whole⟩
def m_power : List S := [
  .asg (.nm 2) (.c (.int 1)),
  .for_ (.nm 3) (.rng (.v 1)) [
    .aug 2 .mul (.v 0)],
  .ret (.v 2)]
abbrev r_power : Row := ⟨"power", topS 19, [Str.ofString "base", Str.ofString "many", Str.ofString "found", Str.ofString "turn"], [Str.ofString "base", Str.ofString "many"], m_power⟩
def m_plus : List S := [
  .ret (.call "made" [.bin .add (.bin .mul (.idx (.v 0) (.c (.int 0))) (.idx (.v 1) (.c (.int 1)))) (.bin .mul (.idx (.v 1) (.c (.int 0))) (.idx (.v 0) (.c (.int 1)))), .bin .mul (.idx (.v 0) (.c (.int 1))) (.idx (.v 1) (.c (.int 1)))])]
abbrev r_plus : Row := ⟨"plus", topS 20, [Str.ofString "one", Str.ofString "other"], [Str.ofString "one", Str.ofString "other"], m_plus⟩
def m_minus : List S := [
  .ret (.call "made" [.bin .sub (.bin .mul (.idx (.v 0) (.c (.int 0))) (.idx (.v 1) (.c (.int 1)))) (.bin .mul (.idx (.v 1) (.c (.int 0))) (.idx (.v 0) (.c (.int 1)))), .bin .mul (.idx (.v 0) (.c (.int 1))) (.idx (.v 1) (.c (.int 1)))])]
abbrev r_minus : Row := ⟨"minus", topS 21, [Str.ofString "one", Str.ofString "other"], [Str.ofString "one", Str.ofString "other"], m_minus⟩
def m_mul : List S := [
  .ret (.call "made" [.bin .mul (.idx (.v 0) (.c (.int 0))) (.idx (.v 1) (.c (.int 0))), .bin .mul (.idx (.v 0) (.c (.int 1))) (.idx (.v 1) (.c (.int 1)))])]
abbrev r_mul : Row := ⟨"mul", topS 22, [Str.ofString "one", Str.ofString "other"], [Str.ofString "one", Str.ofString "other"], m_mul⟩
def m_over : List S := [
  .iff (.tr (.cmp .lt (.idx (.v 1) (.c (.int 0))) (.c (.int 0)))) [
    .ret (.call "made" [.bin .mul (.neg (.idx (.v 0) (.c (.int 0)))) (.idx (.v 1) (.c (.int 1))), .bin .mul (.neg (.idx (.v 0) (.c (.int 1)))) (.idx (.v 1) (.c (.int 0)))])] [],
  .ret (.call "made" [.bin .mul (.idx (.v 0) (.c (.int 0))) (.idx (.v 1) (.c (.int 1))), .bin .mul (.idx (.v 0) (.c (.int 1))) (.idx (.v 1) (.c (.int 0)))])]
abbrev r_over : Row := ⟨"over", topS 23, [Str.ofString "one", Str.ofString "other"], [Str.ofString "one", Str.ofString "other"], m_over⟩
def m_size_of : List S := [
  .ret (.tup [.bi .abs [.idx (.v 0) (.c (.int 0))], .idx (.v 0) (.c (.int 1))])]
abbrev r_size_of : Row := ⟨"size_of", topS 24, [Str.ofString "one"], [Str.ofString "one"], m_size_of⟩
def m_is_less : List S := [
  .ret (.cmp .lt (.bin .mul (.idx (.v 0) (.c (.int 0))) (.idx (.v 1) (.c (.int 1)))) (.bin .mul (.idx (.v 1) (.c (.int 0))) (.idx (.v 0) (.c (.int 1)))))]
abbrev r_is_less : Row := ⟨"is_less", topS 25, [Str.ofString "one", Str.ofString "other"], [Str.ofString "one", Str.ofString "other"], m_is_less⟩
def m_check_base : List S := [
  .iff (.not (.tr (.call "is_base_of" [.v 0]))) [
    .no] []]
abbrev r_check_base : Row := ⟨"check_base", topS 27, [Str.ofString "base"], [Str.ofString "base"], m_check_base⟩
def m_check_number : List S := [
  .iff (.not (.tr (.call "is_number_of" [.v 0]))) [
    .no] []]
abbrev r_check_number : Row := ⟨"check_number", topS 28, [Str.ofString "thing"], [Str.ofString "thing"], m_check_number⟩
def m_is_row_of : List S := [
  .iff (.or (.not (.tr (.call "is_pair" [.v 0]))) (.or (.not (.tr (.bi .all [.lc (.isi (.v 1) ["tuple"]) (.nm 1) (.var 0) []]))) (.tr (.cmp .eq (.bi .len [.idx (.v 0) (.c (.int 1))]) (.c (.int 0)))))) [
    .ret (.c (.bl false))] [],
  .ret (.bi .all [.lc (.call "is_integer" [.v 2]) (.nm 2) (.val (.bin .add (.idx (.v 0) (.c (.int 0))) (.idx (.v 0) (.c (.int 1))))) []])]
abbrev r_is_row_of : Row := ⟨"is_row_of", topS 29, [Str.ofString "thing", Str.ofString "some", Str.ofString "item"], [Str.ofString "thing"], m_is_row_of⟩
def m_is_writing_of : List S := [
  .ret (.and (.call "is_row_of" [.v 1]) (.bi .all [.lc (.call "is_digit_of" [.v 0, .v 2]) (.nm 2) (.val (.bin .add (.idx (.v 1) (.c (.int 0))) (.idx (.v 1) (.c (.int 1))))) []]))]
abbrev r_is_writing_of : Row := ⟨"is_writing_of", topS 30, [Str.ofString "base", Str.ofString "thing", Str.ofString "item"], [Str.ofString "base", Str.ofString "thing"], m_is_writing_of⟩
def m_is_writing : List S := [
  .ex (.call "check_base" [.v 0]),
  .ret (.call "is_writing_of" [.v 0, .v 1])]
abbrev r_is_writing : Row := ⟨"is_writing", topS 31, [Str.ofString "base", Str.ofString "thing"], [Str.ofString "base", Str.ofString "thing"], m_is_writing⟩
def m_number_of : List S := [
  .asg (.nm 2) (.c (.int 0)),
  .for_ (.nm 3) (.var 1) [
    .asg (.nm 2) (.bin .add (.bin .mul (.v 2) (.v 0)) (.v 3))],
  .ret (.v 2)]
abbrev r_number_of : Row := ⟨"number_of", topS 32, [Str.ofString "base", Str.ofString "digits", Str.ofString "found", Str.ofString "digit"], [Str.ofString "base", Str.ofString "digits"], m_number_of⟩
def m_worth_of : List S := [
  .asg (.tp [.nm 2, .nm 3]) (.v 1),
  .asg (.nm 4) (.call "made" [.call "number_of" [.v 0, .v 3], .bin .sub (.call "power" [.v 0, .bi .len [.v 3]]) (.c (.int 1))]),
  .ret (.call "over" [.call "plus" [.call "whole" [.call "number_of" [.v 0, .v 2]], .v 4], .call "whole" [.call "power" [.v 0, .bi .len [.v 2]]]])]
abbrev r_worth_of : Row := ⟨"worth_of", topS 33, [Str.ofString "base", Str.ofString "row", Str.ofString "ahead", Str.ofString "again", Str.ofString "tail"], [Str.ofString "base", Str.ofString "row"], m_worth_of⟩
def m_worth : List S := [
  .ex (.call "check_base" [.v 0]),
  .iff (.not (.tr (.call "is_row_of" [.v 1]))) [
    .no] [],
  .ret (.call "worth_of" [.v 0, .v 1])]
abbrev r_worth : Row := ⟨"worth", topS 34, [Str.ofString "base", Str.ofString "row"], [Str.ofString "base", Str.ofString "row"], m_worth⟩
def m_neat_of : List S := [
  .asg (.tp [.nm 1, .nm 2]) (.v 0),
  .asg (.nm 3) (.bi .len [.v 2]),
  .for_ (.nm 4) (.rng2 (.c (.int 1)) (.v 3)) [
    .iff (.and (.tr (.cmp .eq (.bin .mod (.v 3) (.v 4)) (.c (.int 0)))) (.tr (.cmp .eq (.v 2) (.bin .mul (.slc (.v 2) none (some (.v 4))) (.bin .fdiv (.v 3) (.v 4)))))) [
      .asg (.nm 2) (.slc (.v 2) none (some (.v 4))),
      .brk] []],
  .whl (.and (.tr (.cmp .gt (.bi .len [.v 1]) (.c (.int 0)))) (.tr (.cmp .eq (.idx (.v 1) (.neg (.c (.int 1)))) (.idx (.v 2) (.neg (.c (.int 1))))))) [
    .asg (.tp [.nm 1, .nm 2]) (.tup [.slc (.v 1) none (some (.neg (.c (.int 1)))), .bin .add (.slc (.v 2) (some (.neg (.c (.int 1)))) none) (.slc (.v 2) none (some (.neg (.c (.int 1)))))])],
  .ret (.tup [.v 1, .v 2])]
abbrev r_neat_of : Row := ⟨"neat_of", topS 35, [Str.ofString "row", Str.ofString "ahead", Str.ofString "again", Str.ofString "many", Str.ofString "size"], [Str.ofString "row"], m_neat_of⟩
def m_going_on : List S := [
  .asg (.nm 2) (.call "mul" [.v 1, .call "whole" [.v 0]]),
  .asg (.nm 3) (.lc (.tup [.v 4, .call "minus" [.v 2, .call "whole" [.v 4]]]) (.nm 4) (.val (.call "digits_of" [.v 0])) []),
  .ret (.lc (.tup [.v 4, .v 5]) (.tp [.nm 4, .nm 5]) (.var 3) [.not (.tr (.call "is_less" [.g "ONE", .call "size_of" [.v 5]]))])]
abbrev r_going_on : Row := ⟨"going_on", topS 36, [Str.ofString "base", Str.ofString "rest", Str.ofString "most", Str.ofString "found", Str.ofString "digit", Str.ofString "later"], [Str.ofString "base", Str.ofString "rest"], m_going_on⟩
def m_led_writing : List S := [
  .asg (.tp [.nm 3, .nm 4, .nm 5]) (.tup [.dict0, .lst [], .v 1]),
  .whl (.tr (.cmp .nin (.v 5) (.v 3))) [
    .sto (.v 3) (.v 5) (.bi .len [.v 4]),
    .asg (.tp [.nm 6, .nm 5]) (.idx (.call "going_on" [.v 0, .v 5]) (.v 2)),
    .ex (.mt (.v 4) .append [.v 6])],
  .ret (.call "neat_of" [.tup [.bi .tup [.slc (.v 4) none (some (.idx (.v 3) (.v 5)))], .bi .tup [.slc (.v 4) (some (.idx (.v 3) (.v 5))) none]]])]
abbrev r_led_writing : Row := ⟨"led_writing", topS 37, [Str.ofString "base", Str.ofString "x", Str.ofString "place", Str.ofString "rests", Str.ofString "digits", Str.ofString "rest", Str.ofString "digit"], [Str.ofString "base", Str.ofString "x", Str.ofString "place"], m_led_writing⟩
def m_written : List S := [
  .ex (.call "check_base" [.v 0]),
  .ex (.call "check_number" [.v 1]),
  .ret (.call "led_writing" [.v 0, .v 1, .c (.int 0)])]
abbrev r_written : Row := ⟨"written", topS 38, [Str.ofString "base", Str.ofString "x"], [Str.ofString "base", Str.ofString "x"], m_written⟩
def m_greatly : List S := [
  .ex (.call "check_base" [.v 0]),
  .ex (.call "check_number" [.v 1]),
  .ret (.call "led_writing" [.v 0, .v 1, .neg (.c (.int 1))])]
abbrev r_greatly : Row := ⟨"greatly", topS 39, [Str.ofString "base", Str.ofString "x"], [Str.ofString "base", Str.ofString "x"], m_greatly⟩
abbrev st_hand : Stmt := topS 41
def m__law_mixed : List S := [
  .asg (.nm 2) (.bin .mod (.bi .int [.bin .mul (.bin .add (.bin .add (.bin .mod (.bi .int [.v 0]) (.c (.int 2147483647))) (.bin .mul (.c (.int 7919)) (.v 1))) (.c (.int 1))) (.c (.int 48271))]) (.c (.int 2147483647))),
  .asg (.nm 2) (.bin .mod (.bi .int [.bin .mul (.v 2) (.bin .add (.bin .fdiv (.v 2) (.c (.int 1009))) (.c (.int 69621)))]) (.c (.int 2147483647))),
  .ret (.bin .fdiv (.bin .mod (.bi .int [.bin .mul (.v 2) (.bin .add (.bin .fdiv (.v 2) (.c (.int 2003))) (.c (.int 40692)))]) (.c (.int 2147483399))) (.c (.int 16)))]
abbrev r__law_mixed : Row := ⟨"_law_mixed", topS 42, [Str.ofString "cell", Str.ofString "turn", Str.ofString "number"], [Str.ofString "cell", Str.ofString "turn"], m__law_mixed⟩
def m__law_draw : List S := [
  .sto (.v 0) (.c (.int 3)) (.bin .add (.idx (.v 0) (.c (.int 3))) (.c (.int 1))),
  .iff (.tr (.cmp .gt (.idx (.v 0) (.c (.int 2))) (.c (.int 0)))) [
    .asg (.nm 2) (.bin .mod (.bi .int [.idx (.v 0) (.c (.int 2))]) (.v 1)),
    .sto (.v 0) (.c (.int 2)) (.bin .fdiv (.idx (.v 0) (.c (.int 2))) (.v 1)),
    .ret (.v 2)] [],
  .asg (.tp [.nm 3, .nm 4]) (.tup [.idx (.v 0) (.c (.int 0)), .idx (.v 0) (.c (.int 1))]),
  .sto (.v 0) (.c (.int 1)) (.bin .add (.v 4) (.c (.int 1))),
  .iff (.tr (.cmp .eq (.bi .len [.v 3]) (.c (.int 0)))) [
    .ret (.bin .mod (.bi .int [.call "_law_mixed" [.c (.int 0), .idx (.v 0) (.c (.int 3))]]) (.v 1))] [],
  .asg (.nm 5) (.idx (.v 3) (.bin .mod (.bi .int [.v 4]) (.bi .len [.v 3]))),
  .iff (.and (.tr (.cmp .lt (.v 4) (.bi .len [.v 3]))) (.tr (.cmp .ge (.bi .abs [.v 5]) (.bin .pow (.c (.int 10)) (.c (.int 18)))))) [
    .sto (.v 0) (.c (.int 2)) (.bin .fdiv (.bi .abs [.v 5]) (.v 1)),
    .ret (.bin .mod (.bi .int [.bi .abs [.v 5]]) (.v 1))] [],
  .ret (.bin .mod (.bi .int [.call "_law_mixed" [.v 5, .idx (.v 0) (.c (.int 3))]]) (.v 1))]
abbrev r__law_draw : Row := ⟨"_law_draw", topS 43, [Str.ofString "hand", Str.ofString "many", Str.ofString "found", Str.ofString "cells", Str.ofString "at", Str.ofString "cell"], [Str.ofString "hand", Str.ofString "many"], m__law_draw⟩
def m__law_any : List S := [
  .ret (.idx (.v 1) (.call "_law_draw" [.v 0, .bi .len [.v 1]]))]
abbrev r__law_any : Row := ⟨"_law_any", topS 44, [Str.ofString "hand", Str.ofString "some"], [Str.ofString "hand", Str.ofString "some"], m__law_any⟩
def m__law_low : List S := [
  .asg (.tp [.nm 2, .nm 3]) (.tup [.bi .abs [.v 0], .bi .abs [.v 1]]),
  .whl (.tr (.cmp .gt (.v 3) (.c (.int 0)))) [
    .asg (.tp [.nm 2, .nm 3]) (.tup [.v 3, .bin .mod (.bi .int [.v 2]) (.v 3)])],
  .asg (.nm 2) (.ite (.tr (.cmp .gt (.v 1) (.c (.int 0)))) (.v 2) (.bin .sub (.c (.int 0)) (.v 2))),
  .ret (.tup [.bin .fdiv (.bi .int [.v 0]) (.v 2), .bin .fdiv (.bi .int [.v 1]) (.v 2)])]
abbrev r__law_low : Row := ⟨"_law_low", topS 45, [Str.ofString "top", Str.ofString "bottom", Str.ofString "one", Str.ofString "other"], [Str.ofString "top", Str.ofString "bottom"], m__law_low⟩
def m__law_minus : List S := [
  .ret (.call "_law_low" [.bin .sub (.bin .mul (.idx (.v 0) (.c (.int 0))) (.idx (.v 1) (.c (.int 1)))) (.bin .mul (.idx (.v 1) (.c (.int 0))) (.idx (.v 0) (.c (.int 1)))), .bin .mul (.idx (.v 0) (.c (.int 1))) (.idx (.v 1) (.c (.int 1)))])]
abbrev r__law_minus : Row := ⟨"_law_minus", topS 46, [Str.ofString "one", Str.ofString "other"], [Str.ofString "one", Str.ofString "other"], m__law_minus⟩
def m__law_times : List S := [
  .ret (.call "_law_low" [.bin .mul (.idx (.v 0) (.c (.int 0))) (.idx (.v 1) (.c (.int 0))), .bin .mul (.idx (.v 0) (.c (.int 1))) (.idx (.v 1) (.c (.int 1)))])]
abbrev r__law_times : Row := ⟨"_law_times", topS 47, [Str.ofString "one", Str.ofString "other"], [Str.ofString "one", Str.ofString "other"], m__law_times⟩
def m__law_neat : List S := [
  .asg (.tp [.nm 1, .nm 2]) (.tup [.bi .list [.idx (.v 0) (.c (.int 0))], .bi .list [.idx (.v 0) (.c (.int 1))]]),
  .for_ (.nm 3) (.rng2 (.c (.int 1)) (.bi .len [.v 2])) [
    .iff (.and (.tr (.cmp .eq (.bin .mod (.bi .int [.bi .len [.v 2]]) (.v 3)) (.c (.int 0)))) (.tr (.bi .all [.lc (.cmp .eq (.idx (.v 2) (.v 4)) (.idx (.v 2) (.bin .mod (.bi .int [.v 4]) (.v 3)))) (.nm 4) (.rng (.bi .len [.v 2])) []]))) [
      .asg (.nm 2) (.slc (.v 2) none (some (.v 3))),
      .brk] []],
  .whl (.and (.tr (.cmp .gt (.bi .len [.v 1]) (.c (.int 0)))) (.tr (.cmp .eq (.idx (.v 1) (.neg (.c (.int 1)))) (.idx (.v 2) (.neg (.c (.int 1))))))) [
    .asg (.nm 2) (.bin .add (.lst [.mt (.v 1) .pop []]) (.slc (.v 2) none (some (.neg (.c (.int 1))))))],
  .ret (.tup [.bi .tup [.v 1], .bi .tup [.v 2]])]
abbrev r__law_neat : Row := ⟨"_law_neat", topS 48, [Str.ofString "row", Str.ofString "ahead", Str.ofString "again", Str.ofString "size", Str.ofString "at"], [Str.ofString "row"], m__law_neat⟩
def m__law_goes : List S := [
  .asg (.nm 2) (.lst []),
  .for_ (.nm 3) (.rng2 (.bin .sub (.c (.int 1)) (.v 0)) (.v 0)) [
    .asg (.nm 4) (.call "_law_minus" [.call "_law_times" [.v 1, .tup [.v 0, .c (.int 1)]], .tup [.v 3, .c (.int 1)]]),
    .iff (.tr (.cmp .le (.bi .abs [.idx (.v 4) (.c (.int 0))]) (.idx (.v 4) (.c (.int 1))))) [
      .ex (.mt (.v 2) .append [.tup [.v 3, .v 4]])] []],
  .ret (.v 2)]
abbrev r__law_goes : Row := ⟨"_law_goes", topS 49, [Str.ofString "base", Str.ofString "rest", Str.ofString "found", Str.ofString "digit", Str.ofString "later"], [Str.ofString "base", Str.ofString "rest"], m__law_goes⟩
def m__law_writing : List S := [
  .asg (.tp [.nm 3, .nm 4, .nm 5, .nm 6]) (.tup [.lst [], .v 2, .dict0, .dict0]),
  .for_ (.nm 7) (.rng (.call "_law_draw" [.v 0, .c (.int 6)])) [
    .asg (.tp [.nm 8, .nm 4]) (.call "_law_any" [.v 0, .call "_law_goes" [.v 1, .v 4]]),
    .ex (.mt (.v 3) .append [.v 8])],
  .whl (.tr (.cmp .nin (.v 4) (.v 6))) [
    .sto (.v 6) (.v 4) (.bi .len [.v 3]),
    .sto (.v 5) (.v 4) (.call "_law_any" [.v 0, .call "_law_goes" [.v 1, .v 4]]),
    .ex (.mt (.v 3) .append [.idx (.idx (.v 5) (.v 4)) (.c (.int 0))]),
    .asg (.nm 4) (.idx (.idx (.v 5) (.v 4)) (.c (.int 1)))],
  .ret (.tup [.bi .tup [.slc (.v 3) none (some (.idx (.v 6) (.v 4)))], .bi .tup [.slc (.v 3) (some (.idx (.v 6) (.v 4))) none]])]
abbrev r__law_writing : Row := ⟨"_law_writing", topS 50, [Str.ofString "hand", Str.ofString "base", Str.ofString "x", Str.ofString "digits", Str.ofString "rest", Str.ofString "firm", Str.ofString "places", Str.ofString "turn", Str.ofString "digit"], [Str.ofString "hand", Str.ofString "base", Str.ofString "x"], m__law_writing⟩
def m__law_is : List S := [
  .iff (.and (.tr (.isi (.v 0) ["list", "tuple"])) (.tr (.isi (.v 1) ["list", "tuple"]))) [
    .iff (.or (.tr (.cmp .ne (.isi (.v 0) ["tuple"]) (.isi (.v 1) ["tuple"]))) (.tr (.cmp .ne (.bi .len [.v 0]) (.bi .len [.v 1])))) [
      .ret (.c (.bl false))] [],
    .ret (.bi .all [.lc (.call "_law_is" [.v 2, .v 3]) (.tp [.nm 2, .nm 3]) (.zip (.v 0) (.v 1)) []])] [],
  .iff (.and (.tr (.isi (.v 0) ["dict"])) (.tr (.isi (.v 1) ["dict"]))) [
    .ret (.and (.cmp .eq (.bi .len [.v 0]) (.bi .len [.v 1])) (.bi .all [.lc (.and (.cmp .in_ (.v 4) (.v 1)) (.call "_law_is" [.idx (.v 0) (.v 4), .idx (.v 1) (.v 4)])) (.nm 4) (.var 0) []]))] [],
  .ret (.and (.cmp .eq (.isi (.v 0) ["bool"]) (.isi (.v 1) ["bool"])) (.cmp .eq (.v 0) (.v 1)))]
abbrev r__law_is : Row := ⟨"_law_is", topS 51, [Str.ofString "one", Str.ofString "other", Str.ofString "here", Str.ofString "there", Str.ofString "key"], [Str.ofString "one", Str.ofString "other"], m__law_is⟩
def m__law_led : List S := [
  .asg (.tp [.nm 3, .nm 4, .nm 5]) (.tup [.lst [], .v 1, .dict0]),
  .whl (.tr (.cmp .nin (.v 4) (.v 5))) [
    .sto (.v 5) (.v 4) (.bi .len [.v 3]),
    .asg (.tp [.nm 6, .nm 4]) (.idx (.call "_law_goes" [.v 0, .v 4]) (.v 2)),
    .ex (.mt (.v 3) .append [.v 6])],
  .ret (.call "_law_neat" [.tup [.bi .tup [.slc (.v 3) none (some (.idx (.v 5) (.v 4)))], .bi .tup [.slc (.v 3) (some (.idx (.v 5) (.v 4))) none]]])]
abbrev r__law_led : Row := ⟨"_law_led", topS 52, [Str.ofString "base", Str.ofString "x", Str.ofString "place", Str.ofString "digits", Str.ofString "rest", Str.ofString "places", Str.ofString "digit"], [Str.ofString "base", Str.ofString "x", Str.ofString "place"], m__law_led⟩
def m__law_digits : List S := [
  .asg (.nm 2) (.bi .list [.idx (.v 0) (.c (.int 0))]),
  .whl (.tr (.cmp .lt (.bi .len [.v 2]) (.v 1))) [
    .asg (.nm 2) (.bin .add (.v 2) (.bi .list [.idx (.v 0) (.c (.int 1))]))],
  .ret (.slc (.v 2) none (some (.v 1)))]
abbrev r__law_digits : Row := ⟨"_law_digits", topS 53, [Str.ofString "row", Str.ofString "many", Str.ofString "found"], [Str.ofString "row", Str.ofString "many"], m__law_digits⟩
def m_law : List S := [
  .for_ (.nm 2) (.rng (.c (.int 4))) [
    .asg (.tp [.nm 3, .nm 4]) (.tup [.bin .add (.c (.int 2)) (.call "_law_draw" [.v 1, .c (.int 4)]), .call "_law_any" [.v 1, .lst [.c (.int 1), .c (.int 2), .c (.int 3), .c (.int 7), .c (.int 16), .c (.int 60), .bin .add (.c (.int 1)) (.call "_law_draw" [.v 1, .c (.int 1000)]), .c (.int 997)]]]),
    .asg (.nm 5) (.call "_law_low" [.bin .sub (.call "_law_draw" [.v 1, .bin .add (.bin .mul (.c (.int 2)) (.v 4)) (.c (.int 1))]) (.v 4), .v 4]),
    .asg (.tp [.nm 6, .nm 7]) (.tup [.call "written" [.v 3, .v 5], .call "greatly" [.v 3, .v 5]]),
    .iff (.or (.not (.tr (.call "_law_is" [.v 6, .call "_law_led" [.v 3, .v 5, .c (.int 0)]]))) (.not (.tr (.call "_law_is" [.v 7, .call "_law_led" [.v 3, .v 5, .neg (.c (.int 1))]])))) [
      .ret (.c (.bl false))] [],
    .iff (.or (.tr (.cmp .isn (.call "is_writing" [.v 3, .v 6]) (.c (.bl true)))) (.or (.tr (.cmp .ne (.call "worth" [.v 3, .v 6]) (.v 5))) (.tr (.cmp .ne (.call "worth" [.v 3, .v 7]) (.v 5))))) [
      .ret (.c (.bl false))] [],
    .asg (.nm 8) (.call "written" [.v 3, .tup [.bin .sub (.c (.int 0)) (.idx (.v 5) (.c (.int 0))), .idx (.v 5) (.c (.int 1))]]),
    .iff (.tr (.cmp .ne (.tup [.bi .tup [.lc (.bin .sub (.c (.int 0)) (.v 9)) (.nm 9) (.val (.idx (.v 8) (.c (.int 0)))) []], .bi .tup [.lc (.bin .sub (.c (.int 0)) (.v 9)) (.nm 9) (.val (.idx (.v 8) (.c (.int 1)))) []]]) (.v 7))) [
      .ret (.c (.bl false))] [],
    .iff (.tr (.cmp .gt (.v 4) (.c (.int 27)))) [
      .cnt] [],
    .asg (.nm 10) (.call "_law_writing" [.v 1, .v 3, .v 5]),
    .iff (.tr (.cmp .ne (.call "worth" [.v 3, .v 10]) (.v 5))) [
      .ret (.c (.bl false))] [],
    .asg (.nm 11) (.lc (.call "_law_digits" [.v 12, .c (.int 40)]) (.nm 12) (.val (.tup [.v 6, .v 10, .v 7])) []),
    .iff (.not (.tr (.cmp2 .le .le (.idx (.v 11) (.c (.int 0))) (.idx (.v 11) (.c (.int 1))) (.idx (.v 11) (.c (.int 2)))))) [
      .ret (.c (.bl false))] []],
  .ret (.c (.bl true))]
abbrev st_law : Stmt := topS 54
def N_law : List Str := [Str.ofString "script", Str.ofString "hand", Str.ofString "turn", Str.ofString "base", Str.ofString "bottom", Str.ofString "x", Str.ofString "low", Str.ofString "high", Str.ofString "turned", Str.ofString "digit", Str.ofString "row", Str.ofString "some", Str.ofString "one"]
def rows : List Row := [r_is_integer, r_is_within, r_is_pair, r_is_base_of, r_is_digit_of, r_digits_of, r_divisor, r_is_fraction_of, r_is_number_of, r_made, r_whole, r_power, r_plus, r_minus, r_mul, r_over, r_size_of, r_is_less, r_check_base, r_check_number, r_is_row_of, r_is_writing_of, r_is_writing, r_number_of, r_worth_of, r_worth, r_neat_of, r_going_on, r_led_writing, r_written, r_greatly, r__law_mixed, r__law_draw, r__law_any, r__law_low, r__law_minus, r__law_times, r__law_neat, r__law_goes, r__law_writing, r__law_is, r__law_led, r__law_digits]
def nB : List Str := [Str.ofString "abs", Str.ofString "all", Str.ofString "bool", Str.ofString "dict", Str.ofString "int", Str.ofString "isinstance", Str.ofString "len", Str.ofString "list", Str.ofString "range", Str.ofString "tuple", Str.ofString "zip"]
def nG : List String := ["ONE"]

def Gv : String → Option D := fun x => if x = "ONE" then some (.tup [.int (1), .int (1)]) else none
theorem facts : Y.K3 (tbl rows) Gv where
  gt := ⟨⟨rfl, rfl⟩, rfl, rfl, rfl, rfl, rfl, rfl, rfl, rfl⟩
  nb := ⟨⟨rfl, rfl⟩, rfl, rfl, rfl, rfl, rfl, rfl, rfl, rfl, rfl⟩
  wt := ⟨⟨rfl, rfl⟩, rfl, rfl, rfl, rfl, rfl, rfl⟩
  lt := ⟨rfl, rfl, rfl, rfl⟩
  dt := ⟨rfl, rfl, rfl⟩
  check_number := rfl
  is_writing_of := rfl
  is_writing := rfl
  worth := rfl
  neat_of := rfl
  led_writing := rfl
  written := rfl
  greatly := rfl
  lis := rfl
  lneat := rfl
  lled := rfl
  lwriting := rfl
  ldigits := rfl
theorem plain : ∀ ns : List Int, ns.length ≤ 63 → ∃ h', evSs (Zk rows Gv 39) m_law (ρ0 N_law.length 1) (h0 ns) = .rt (.bl true) h' := fun ns _ => Y.k03_plain facts ns

def sc_hand : Scope := match defBody st_hand with | [.Return (some (.List (.ListComp _ _ sc _ :: _) _)) _] => sc | _ => ⟨.function, [], false, false, []⟩
theorem fs_cons {K : PySem.W.Frag} {mg : Str → Option Value} {r : Row} {rs : List Row} (h : ∃ fa fd, L2.Fun K (Str.ofString r.f) (Str.ofString r.f) r.st fa fd ∧ L2.Binds K fd r.ps [] ∧ mg (Str.ofString r.f) = some (.ref fa)) (t : ∀ r ∈ rs, ∃ fa fd, L2.Fun K (Str.ofString r.f) (Str.ofString r.f) r.st fa fd ∧ L2.Binds K fd r.ps [] ∧ mg (Str.ofString r.f) = some (.ref fa)) :
    ∀ q ∈ r :: rs, ∃ fa fd, L2.Fun K (Str.ofString q.f) (Str.ofString q.f) q.st fa fd ∧ L2.Binds K fd q.ps [] ∧ mg (Str.ofString q.f) = some (.ref fa) := fun q hq => by
  rcases List.mem_cons.mp hq with e | e
  · rw [e]; exact h
  · exact t q e
theorem fs_nil {K : PySem.W.Frag} {mg : Str → Option Value} : ∀ q ∈ ([] : List Row), ∃ fa fd, L2.Fun K (Str.ofString q.f) (Str.ofString q.f) q.st fa fd ∧ L2.Binds K fd q.ps [] ∧ mg (Str.ofString q.f) = some (.ref fa) := fun _ h => nomatch h
set_option maxHeartbeats 4000000 in
theorem all_mk {P : Program} {w : World} {K : PySem.W.Frag} {h : Heap} {mg : Str → Option Value} {fa : Addr} (X : K.In h) (G : h.Ns mainGlobals mg) (hfa : mg (Str.ofString "law") = some (.ref fa))
    {f0 : Addr} {od0 an0 : Option Addr} {sl0 : Array (Option Value)} {oc0 kV0 dc0 pm0 cd0 ct0 : Value}
    {f1 : Addr} {od1 an1 : Option Addr} {sl1 : Array (Option Value)} {oc1 kV1 dc1 pm1 cd1 ct1 : Value}
    {f2 : Addr} {od2 an2 : Option Addr} {sl2 : Array (Option Value)} {oc2 kV2 dc2 pm2 cd2 ct2 : Value}
    {f3 : Addr} {od3 an3 : Option Addr} {sl3 : Array (Option Value)} {oc3 kV3 dc3 pm3 cd3 ct3 : Value}
    {f4 : Addr} {od4 an4 : Option Addr} {sl4 : Array (Option Value)} {oc4 kV4 dc4 pm4 cd4 ct4 : Value}
    {f5 : Addr} {od5 an5 : Option Addr} {sl5 : Array (Option Value)} {oc5 kV5 dc5 pm5 cd5 ct5 : Value}
    {f6 : Addr} {od6 an6 : Option Addr} {sl6 : Array (Option Value)} {oc6 kV6 dc6 pm6 cd6 ct6 : Value}
    {f7 : Addr} {od7 an7 : Option Addr} {sl7 : Array (Option Value)} {oc7 kV7 dc7 pm7 cd7 ct7 : Value}
    {f8 : Addr} {od8 an8 : Option Addr} {sl8 : Array (Option Value)} {oc8 kV8 dc8 pm8 cd8 ct8 : Value}
    {f9 : Addr} {od9 an9 : Option Addr} {sl9 : Array (Option Value)} {oc9 kV9 dc9 pm9 cd9 ct9 : Value}
    {f10 : Addr} {od10 an10 : Option Addr} {sl10 : Array (Option Value)} {oc10 kV10 dc10 pm10 cd10 ct10 : Value}
    {f11 : Addr} {od11 an11 : Option Addr} {sl11 : Array (Option Value)} {oc11 kV11 dc11 pm11 cd11 ct11 : Value}
    {f12 : Addr} {od12 an12 : Option Addr} {sl12 : Array (Option Value)} {oc12 kV12 dc12 pm12 cd12 ct12 : Value}
    {f13 : Addr} {od13 an13 : Option Addr} {sl13 : Array (Option Value)} {oc13 kV13 dc13 pm13 cd13 ct13 : Value}
    {f14 : Addr} {od14 an14 : Option Addr} {sl14 : Array (Option Value)} {oc14 kV14 dc14 pm14 cd14 ct14 : Value}
    {f15 : Addr} {od15 an15 : Option Addr} {sl15 : Array (Option Value)} {oc15 kV15 dc15 pm15 cd15 ct15 : Value}
    {f16 : Addr} {od16 an16 : Option Addr} {sl16 : Array (Option Value)} {oc16 kV16 dc16 pm16 cd16 ct16 : Value}
    {f17 : Addr} {od17 an17 : Option Addr} {sl17 : Array (Option Value)} {oc17 kV17 dc17 pm17 cd17 ct17 : Value}
    {f18 : Addr} {od18 an18 : Option Addr} {sl18 : Array (Option Value)} {oc18 kV18 dc18 pm18 cd18 ct18 : Value}
    {f19 : Addr} {od19 an19 : Option Addr} {sl19 : Array (Option Value)} {oc19 kV19 dc19 pm19 cd19 ct19 : Value}
    {f20 : Addr} {od20 an20 : Option Addr} {sl20 : Array (Option Value)} {oc20 kV20 dc20 pm20 cd20 ct20 : Value}
    {f21 : Addr} {od21 an21 : Option Addr} {sl21 : Array (Option Value)} {oc21 kV21 dc21 pm21 cd21 ct21 : Value}
    {f22 : Addr} {od22 an22 : Option Addr} {sl22 : Array (Option Value)} {oc22 kV22 dc22 pm22 cd22 ct22 : Value}
    {f23 : Addr} {od23 an23 : Option Addr} {sl23 : Array (Option Value)} {oc23 kV23 dc23 pm23 cd23 ct23 : Value}
    {f24 : Addr} {od24 an24 : Option Addr} {sl24 : Array (Option Value)} {oc24 kV24 dc24 pm24 cd24 ct24 : Value}
    {f25 : Addr} {od25 an25 : Option Addr} {sl25 : Array (Option Value)} {oc25 kV25 dc25 pm25 cd25 ct25 : Value}
    {f26 : Addr} {od26 an26 : Option Addr} {sl26 : Array (Option Value)} {oc26 kV26 dc26 pm26 cd26 ct26 : Value}
    {f27 : Addr} {od27 an27 : Option Addr} {sl27 : Array (Option Value)} {oc27 kV27 dc27 pm27 cd27 ct27 : Value}
    {f28 : Addr} {od28 an28 : Option Addr} {sl28 : Array (Option Value)} {oc28 kV28 dc28 pm28 cd28 ct28 : Value}
    {f29 : Addr} {od29 an29 : Option Addr} {sl29 : Array (Option Value)} {oc29 kV29 dc29 pm29 cd29 ct29 : Value}
    {f30 : Addr} {od30 an30 : Option Addr} {sl30 : Array (Option Value)} {oc30 kV30 dc30 pm30 cd30 ct30 : Value}
    {f31 : Addr} {od31 an31 : Option Addr} {sl31 : Array (Option Value)} {oc31 kV31 dc31 pm31 cd31 ct31 : Value}
    {f32 : Addr} {od32 an32 : Option Addr} {sl32 : Array (Option Value)} {oc32 kV32 dc32 pm32 cd32 ct32 : Value}
    {f33 : Addr} {od33 an33 : Option Addr} {sl33 : Array (Option Value)} {oc33 kV33 dc33 pm33 cd33 ct33 : Value}
    {f34 : Addr} {od34 an34 : Option Addr} {sl34 : Array (Option Value)} {oc34 kV34 dc34 pm34 cd34 ct34 : Value}
    {f35 : Addr} {od35 an35 : Option Addr} {sl35 : Array (Option Value)} {oc35 kV35 dc35 pm35 cd35 ct35 : Value}
    {f36 : Addr} {od36 an36 : Option Addr} {sl36 : Array (Option Value)} {oc36 kV36 dc36 pm36 cd36 ct36 : Value}
    {f37 : Addr} {od37 an37 : Option Addr} {sl37 : Array (Option Value)} {oc37 kV37 dc37 pm37 cd37 ct37 : Value}
    {f38 : Addr} {od38 an38 : Option Addr} {sl38 : Array (Option Value)} {oc38 kV38 dc38 pm38 cd38 ct38 : Value}
    {f39 : Addr} {od39 an39 : Option Addr} {sl39 : Array (Option Value)} {oc39 kV39 dc39 pm39 cd39 ct39 : Value}
    {f40 : Addr} {od40 an40 : Option Addr} {sl40 : Array (Option Value)} {oc40 kV40 dc40 pm40 cd40 ct40 : Value}
    {f41 : Addr} {od41 an41 : Option Addr} {sl41 : Array (Option Value)} {oc41 kV41 dc41 pm41 cd41 ct41 : Value}
    {f42 : Addr} {od42 an42 : Option Addr} {sl42 : Array (Option Value)} {oc42 kV42 dc42 pm42 cd42 ct42 : Value}
    {f43 : Addr} {od43 an43 : Option Addr} {sl43 : Array (Option Value)} {oc43 kV43 dc43 pm43 cd43 ct43 : Value}
    {f44 : Addr} {od44 an44 : Option Addr} {sl44 : Array (Option Value)} {oc44 kV44 dc44 pm44 cd44 ct44 : Value}
    {t0 : Addr} {td0 : Option Addr} {tn0 : Nat} {ts0 : Array (Option Value)} {u0_0 u0_1 : Tok}
    (a0 : PySem.W.nsIn K mainGlobals (Str.ofString "is_integer") = some (some (.ref f0))) (l0 : K.lookup f0 = some ⟨oc0, od0, .func (PySem.W.fnOf (Str.ofString "is_integer") (Str.ofString "is_integer") (L2.defArgs (topS 1)) (L2.defBody (topS 1)) (L2.defScope (topS 1)) .none kV0 dc0 pm0 an0 cd0 ct0), sl0⟩) (c0 : PySem.W.codeIn K cd0 (Str.ofString "is_integer") = true) (k0 : PySem.W.keepIn K (.ref f0) = true)
    (a1 : PySem.W.nsIn K mainGlobals (Str.ofString "is_within") = some (some (.ref f1))) (l1 : K.lookup f1 = some ⟨oc1, od1, .func (PySem.W.fnOf (Str.ofString "is_within") (Str.ofString "is_within") (L2.defArgs (topS 2)) (L2.defBody (topS 2)) (L2.defScope (topS 2)) .none kV1 dc1 pm1 an1 cd1 ct1), sl1⟩) (c1 : PySem.W.codeIn K cd1 (Str.ofString "is_within") = true) (k1 : PySem.W.keepIn K (.ref f1) = true)
    (a2 : PySem.W.nsIn K mainGlobals (Str.ofString "is_pair") = some (some (.ref f2))) (l2 : K.lookup f2 = some ⟨oc2, od2, .func (PySem.W.fnOf (Str.ofString "is_pair") (Str.ofString "is_pair") (L2.defArgs (topS 3)) (L2.defBody (topS 3)) (L2.defScope (topS 3)) .none kV2 dc2 pm2 an2 cd2 ct2), sl2⟩) (c2 : PySem.W.codeIn K cd2 (Str.ofString "is_pair") = true) (k2 : PySem.W.keepIn K (.ref f2) = true)
    (a3 : PySem.W.nsIn K mainGlobals (Str.ofString "is_base_of") = some (some (.ref f3))) (l3 : K.lookup f3 = some ⟨oc3, od3, .func (PySem.W.fnOf (Str.ofString "is_base_of") (Str.ofString "is_base_of") (L2.defArgs (topS 4)) (L2.defBody (topS 4)) (L2.defScope (topS 4)) .none kV3 dc3 pm3 an3 cd3 ct3), sl3⟩) (c3 : PySem.W.codeIn K cd3 (Str.ofString "is_base_of") = true) (k3 : PySem.W.keepIn K (.ref f3) = true)
    (a4 : PySem.W.nsIn K mainGlobals (Str.ofString "is_digit_of") = some (some (.ref f4))) (l4 : K.lookup f4 = some ⟨oc4, od4, .func (PySem.W.fnOf (Str.ofString "is_digit_of") (Str.ofString "is_digit_of") (L2.defArgs (topS 5)) (L2.defBody (topS 5)) (L2.defScope (topS 5)) .none kV4 dc4 pm4 an4 cd4 ct4), sl4⟩) (c4 : PySem.W.codeIn K cd4 (Str.ofString "is_digit_of") = true) (k4 : PySem.W.keepIn K (.ref f4) = true)
    (a5 : PySem.W.nsIn K mainGlobals (Str.ofString "digits_of") = some (some (.ref f5))) (l5 : K.lookup f5 = some ⟨oc5, od5, .func (PySem.W.fnOf (Str.ofString "digits_of") (Str.ofString "digits_of") (L2.defArgs (topS 6)) (L2.defBody (topS 6)) (L2.defScope (topS 6)) .none kV5 dc5 pm5 an5 cd5 ct5), sl5⟩) (c5 : PySem.W.codeIn K cd5 (Str.ofString "digits_of") = true) (k5 : PySem.W.keepIn K (.ref f5) = true)
    (a6 : PySem.W.nsIn K mainGlobals (Str.ofString "divisor") = some (some (.ref f6))) (l6 : K.lookup f6 = some ⟨oc6, od6, .func (PySem.W.fnOf (Str.ofString "divisor") (Str.ofString "divisor") (L2.defArgs (topS 14)) (L2.defBody (topS 14)) (L2.defScope (topS 14)) .none kV6 dc6 pm6 an6 cd6 ct6), sl6⟩) (c6 : PySem.W.codeIn K cd6 (Str.ofString "divisor") = true) (k6 : PySem.W.keepIn K (.ref f6) = true)
    (a7 : PySem.W.nsIn K mainGlobals (Str.ofString "is_fraction_of") = some (some (.ref f7))) (l7 : K.lookup f7 = some ⟨oc7, od7, .func (PySem.W.fnOf (Str.ofString "is_fraction_of") (Str.ofString "is_fraction_of") (L2.defArgs (topS 15)) (L2.defBody (topS 15)) (L2.defScope (topS 15)) .none kV7 dc7 pm7 an7 cd7 ct7), sl7⟩) (c7 : PySem.W.codeIn K cd7 (Str.ofString "is_fraction_of") = true) (k7 : PySem.W.keepIn K (.ref f7) = true)
    (a8 : PySem.W.nsIn K mainGlobals (Str.ofString "is_number_of") = some (some (.ref f8))) (l8 : K.lookup f8 = some ⟨oc8, od8, .func (PySem.W.fnOf (Str.ofString "is_number_of") (Str.ofString "is_number_of") (L2.defArgs (topS 16)) (L2.defBody (topS 16)) (L2.defScope (topS 16)) .none kV8 dc8 pm8 an8 cd8 ct8), sl8⟩) (c8 : PySem.W.codeIn K cd8 (Str.ofString "is_number_of") = true) (k8 : PySem.W.keepIn K (.ref f8) = true)
    (a9 : PySem.W.nsIn K mainGlobals (Str.ofString "made") = some (some (.ref f9))) (l9 : K.lookup f9 = some ⟨oc9, od9, .func (PySem.W.fnOf (Str.ofString "made") (Str.ofString "made") (L2.defArgs (topS 17)) (L2.defBody (topS 17)) (L2.defScope (topS 17)) .none kV9 dc9 pm9 an9 cd9 ct9), sl9⟩) (c9 : PySem.W.codeIn K cd9 (Str.ofString "made") = true) (k9 : PySem.W.keepIn K (.ref f9) = true)
    (a10 : PySem.W.nsIn K mainGlobals (Str.ofString "whole") = some (some (.ref f10))) (l10 : K.lookup f10 = some ⟨oc10, od10, .func (PySem.W.fnOf (Str.ofString "whole") (Str.ofString "whole") (L2.defArgs (topS 18)) (L2.defBody (topS 18)) (L2.defScope (topS 18)) .none kV10 dc10 pm10 an10 cd10 ct10), sl10⟩) (c10 : PySem.W.codeIn K cd10 (Str.ofString "whole") = true) (k10 : PySem.W.keepIn K (.ref f10) = true)
    (a11 : PySem.W.nsIn K mainGlobals (Str.ofString "power") = some (some (.ref f11))) (l11 : K.lookup f11 = some ⟨oc11, od11, .func (PySem.W.fnOf (Str.ofString "power") (Str.ofString "power") (L2.defArgs (topS 19)) (L2.defBody (topS 19)) (L2.defScope (topS 19)) .none kV11 dc11 pm11 an11 cd11 ct11), sl11⟩) (c11 : PySem.W.codeIn K cd11 (Str.ofString "power") = true) (k11 : PySem.W.keepIn K (.ref f11) = true)
    (a12 : PySem.W.nsIn K mainGlobals (Str.ofString "plus") = some (some (.ref f12))) (l12 : K.lookup f12 = some ⟨oc12, od12, .func (PySem.W.fnOf (Str.ofString "plus") (Str.ofString "plus") (L2.defArgs (topS 20)) (L2.defBody (topS 20)) (L2.defScope (topS 20)) .none kV12 dc12 pm12 an12 cd12 ct12), sl12⟩) (c12 : PySem.W.codeIn K cd12 (Str.ofString "plus") = true) (k12 : PySem.W.keepIn K (.ref f12) = true)
    (a13 : PySem.W.nsIn K mainGlobals (Str.ofString "minus") = some (some (.ref f13))) (l13 : K.lookup f13 = some ⟨oc13, od13, .func (PySem.W.fnOf (Str.ofString "minus") (Str.ofString "minus") (L2.defArgs (topS 21)) (L2.defBody (topS 21)) (L2.defScope (topS 21)) .none kV13 dc13 pm13 an13 cd13 ct13), sl13⟩) (c13 : PySem.W.codeIn K cd13 (Str.ofString "minus") = true) (k13 : PySem.W.keepIn K (.ref f13) = true)
    (a14 : PySem.W.nsIn K mainGlobals (Str.ofString "mul") = some (some (.ref f14))) (l14 : K.lookup f14 = some ⟨oc14, od14, .func (PySem.W.fnOf (Str.ofString "mul") (Str.ofString "mul") (L2.defArgs (topS 22)) (L2.defBody (topS 22)) (L2.defScope (topS 22)) .none kV14 dc14 pm14 an14 cd14 ct14), sl14⟩) (c14 : PySem.W.codeIn K cd14 (Str.ofString "mul") = true) (k14 : PySem.W.keepIn K (.ref f14) = true)
    (a15 : PySem.W.nsIn K mainGlobals (Str.ofString "over") = some (some (.ref f15))) (l15 : K.lookup f15 = some ⟨oc15, od15, .func (PySem.W.fnOf (Str.ofString "over") (Str.ofString "over") (L2.defArgs (topS 23)) (L2.defBody (topS 23)) (L2.defScope (topS 23)) .none kV15 dc15 pm15 an15 cd15 ct15), sl15⟩) (c15 : PySem.W.codeIn K cd15 (Str.ofString "over") = true) (k15 : PySem.W.keepIn K (.ref f15) = true)
    (a16 : PySem.W.nsIn K mainGlobals (Str.ofString "size_of") = some (some (.ref f16))) (l16 : K.lookup f16 = some ⟨oc16, od16, .func (PySem.W.fnOf (Str.ofString "size_of") (Str.ofString "size_of") (L2.defArgs (topS 24)) (L2.defBody (topS 24)) (L2.defScope (topS 24)) .none kV16 dc16 pm16 an16 cd16 ct16), sl16⟩) (c16 : PySem.W.codeIn K cd16 (Str.ofString "size_of") = true) (k16 : PySem.W.keepIn K (.ref f16) = true)
    (a17 : PySem.W.nsIn K mainGlobals (Str.ofString "is_less") = some (some (.ref f17))) (l17 : K.lookup f17 = some ⟨oc17, od17, .func (PySem.W.fnOf (Str.ofString "is_less") (Str.ofString "is_less") (L2.defArgs (topS 25)) (L2.defBody (topS 25)) (L2.defScope (topS 25)) .none kV17 dc17 pm17 an17 cd17 ct17), sl17⟩) (c17 : PySem.W.codeIn K cd17 (Str.ofString "is_less") = true) (k17 : PySem.W.keepIn K (.ref f17) = true)
    (a18 : PySem.W.nsIn K mainGlobals (Str.ofString "check_base") = some (some (.ref f18))) (l18 : K.lookup f18 = some ⟨oc18, od18, .func (PySem.W.fnOf (Str.ofString "check_base") (Str.ofString "check_base") (L2.defArgs (topS 27)) (L2.defBody (topS 27)) (L2.defScope (topS 27)) .none kV18 dc18 pm18 an18 cd18 ct18), sl18⟩) (c18 : PySem.W.codeIn K cd18 (Str.ofString "check_base") = true) (k18 : PySem.W.keepIn K (.ref f18) = true)
    (a19 : PySem.W.nsIn K mainGlobals (Str.ofString "check_number") = some (some (.ref f19))) (l19 : K.lookup f19 = some ⟨oc19, od19, .func (PySem.W.fnOf (Str.ofString "check_number") (Str.ofString "check_number") (L2.defArgs (topS 28)) (L2.defBody (topS 28)) (L2.defScope (topS 28)) .none kV19 dc19 pm19 an19 cd19 ct19), sl19⟩) (c19 : PySem.W.codeIn K cd19 (Str.ofString "check_number") = true) (k19 : PySem.W.keepIn K (.ref f19) = true)
    (a20 : PySem.W.nsIn K mainGlobals (Str.ofString "is_row_of") = some (some (.ref f20))) (l20 : K.lookup f20 = some ⟨oc20, od20, .func (PySem.W.fnOf (Str.ofString "is_row_of") (Str.ofString "is_row_of") (L2.defArgs (topS 29)) (L2.defBody (topS 29)) (L2.defScope (topS 29)) .none kV20 dc20 pm20 an20 cd20 ct20), sl20⟩) (c20 : PySem.W.codeIn K cd20 (Str.ofString "is_row_of") = true) (k20 : PySem.W.keepIn K (.ref f20) = true)
    (a21 : PySem.W.nsIn K mainGlobals (Str.ofString "is_writing_of") = some (some (.ref f21))) (l21 : K.lookup f21 = some ⟨oc21, od21, .func (PySem.W.fnOf (Str.ofString "is_writing_of") (Str.ofString "is_writing_of") (L2.defArgs (topS 30)) (L2.defBody (topS 30)) (L2.defScope (topS 30)) .none kV21 dc21 pm21 an21 cd21 ct21), sl21⟩) (c21 : PySem.W.codeIn K cd21 (Str.ofString "is_writing_of") = true) (k21 : PySem.W.keepIn K (.ref f21) = true)
    (a22 : PySem.W.nsIn K mainGlobals (Str.ofString "is_writing") = some (some (.ref f22))) (l22 : K.lookup f22 = some ⟨oc22, od22, .func (PySem.W.fnOf (Str.ofString "is_writing") (Str.ofString "is_writing") (L2.defArgs (topS 31)) (L2.defBody (topS 31)) (L2.defScope (topS 31)) .none kV22 dc22 pm22 an22 cd22 ct22), sl22⟩) (c22 : PySem.W.codeIn K cd22 (Str.ofString "is_writing") = true) (k22 : PySem.W.keepIn K (.ref f22) = true)
    (a23 : PySem.W.nsIn K mainGlobals (Str.ofString "number_of") = some (some (.ref f23))) (l23 : K.lookup f23 = some ⟨oc23, od23, .func (PySem.W.fnOf (Str.ofString "number_of") (Str.ofString "number_of") (L2.defArgs (topS 32)) (L2.defBody (topS 32)) (L2.defScope (topS 32)) .none kV23 dc23 pm23 an23 cd23 ct23), sl23⟩) (c23 : PySem.W.codeIn K cd23 (Str.ofString "number_of") = true) (k23 : PySem.W.keepIn K (.ref f23) = true)
    (a24 : PySem.W.nsIn K mainGlobals (Str.ofString "worth_of") = some (some (.ref f24))) (l24 : K.lookup f24 = some ⟨oc24, od24, .func (PySem.W.fnOf (Str.ofString "worth_of") (Str.ofString "worth_of") (L2.defArgs (topS 33)) (L2.defBody (topS 33)) (L2.defScope (topS 33)) .none kV24 dc24 pm24 an24 cd24 ct24), sl24⟩) (c24 : PySem.W.codeIn K cd24 (Str.ofString "worth_of") = true) (k24 : PySem.W.keepIn K (.ref f24) = true)
    (a25 : PySem.W.nsIn K mainGlobals (Str.ofString "worth") = some (some (.ref f25))) (l25 : K.lookup f25 = some ⟨oc25, od25, .func (PySem.W.fnOf (Str.ofString "worth") (Str.ofString "worth") (L2.defArgs (topS 34)) (L2.defBody (topS 34)) (L2.defScope (topS 34)) .none kV25 dc25 pm25 an25 cd25 ct25), sl25⟩) (c25 : PySem.W.codeIn K cd25 (Str.ofString "worth") = true) (k25 : PySem.W.keepIn K (.ref f25) = true)
    (a26 : PySem.W.nsIn K mainGlobals (Str.ofString "neat_of") = some (some (.ref f26))) (l26 : K.lookup f26 = some ⟨oc26, od26, .func (PySem.W.fnOf (Str.ofString "neat_of") (Str.ofString "neat_of") (L2.defArgs (topS 35)) (L2.defBody (topS 35)) (L2.defScope (topS 35)) .none kV26 dc26 pm26 an26 cd26 ct26), sl26⟩) (c26 : PySem.W.codeIn K cd26 (Str.ofString "neat_of") = true) (k26 : PySem.W.keepIn K (.ref f26) = true)
    (a27 : PySem.W.nsIn K mainGlobals (Str.ofString "going_on") = some (some (.ref f27))) (l27 : K.lookup f27 = some ⟨oc27, od27, .func (PySem.W.fnOf (Str.ofString "going_on") (Str.ofString "going_on") (L2.defArgs (topS 36)) (L2.defBody (topS 36)) (L2.defScope (topS 36)) .none kV27 dc27 pm27 an27 cd27 ct27), sl27⟩) (c27 : PySem.W.codeIn K cd27 (Str.ofString "going_on") = true) (k27 : PySem.W.keepIn K (.ref f27) = true)
    (a28 : PySem.W.nsIn K mainGlobals (Str.ofString "led_writing") = some (some (.ref f28))) (l28 : K.lookup f28 = some ⟨oc28, od28, .func (PySem.W.fnOf (Str.ofString "led_writing") (Str.ofString "led_writing") (L2.defArgs (topS 37)) (L2.defBody (topS 37)) (L2.defScope (topS 37)) .none kV28 dc28 pm28 an28 cd28 ct28), sl28⟩) (c28 : PySem.W.codeIn K cd28 (Str.ofString "led_writing") = true) (k28 : PySem.W.keepIn K (.ref f28) = true)
    (a29 : PySem.W.nsIn K mainGlobals (Str.ofString "written") = some (some (.ref f29))) (l29 : K.lookup f29 = some ⟨oc29, od29, .func (PySem.W.fnOf (Str.ofString "written") (Str.ofString "written") (L2.defArgs (topS 38)) (L2.defBody (topS 38)) (L2.defScope (topS 38)) .none kV29 dc29 pm29 an29 cd29 ct29), sl29⟩) (c29 : PySem.W.codeIn K cd29 (Str.ofString "written") = true) (k29 : PySem.W.keepIn K (.ref f29) = true)
    (a30 : PySem.W.nsIn K mainGlobals (Str.ofString "greatly") = some (some (.ref f30))) (l30 : K.lookup f30 = some ⟨oc30, od30, .func (PySem.W.fnOf (Str.ofString "greatly") (Str.ofString "greatly") (L2.defArgs (topS 39)) (L2.defBody (topS 39)) (L2.defScope (topS 39)) .none kV30 dc30 pm30 an30 cd30 ct30), sl30⟩) (c30 : PySem.W.codeIn K cd30 (Str.ofString "greatly") = true) (k30 : PySem.W.keepIn K (.ref f30) = true)
    (a31 : PySem.W.nsIn K mainGlobals (Str.ofString "_law_hand") = some (some (.ref f31))) (l31 : K.lookup f31 = some ⟨oc31, od31, .func (PySem.W.fnOf (Str.ofString "_law_hand") (Str.ofString "_law_hand") (L2.defArgs (st_hand)) (L2.defBody (st_hand)) (L2.defScope (st_hand)) .none kV31 dc31 pm31 an31 cd31 ct31), sl31⟩) (c31 : PySem.W.codeIn K cd31 (Str.ofString "_law_hand") = true) (k31 : PySem.W.keepIn K (.ref f31) = true)
    (a32 : PySem.W.nsIn K mainGlobals (Str.ofString "_law_mixed") = some (some (.ref f32))) (l32 : K.lookup f32 = some ⟨oc32, od32, .func (PySem.W.fnOf (Str.ofString "_law_mixed") (Str.ofString "_law_mixed") (L2.defArgs (topS 42)) (L2.defBody (topS 42)) (L2.defScope (topS 42)) .none kV32 dc32 pm32 an32 cd32 ct32), sl32⟩) (c32 : PySem.W.codeIn K cd32 (Str.ofString "_law_mixed") = true) (k32 : PySem.W.keepIn K (.ref f32) = true)
    (a33 : PySem.W.nsIn K mainGlobals (Str.ofString "_law_draw") = some (some (.ref f33))) (l33 : K.lookup f33 = some ⟨oc33, od33, .func (PySem.W.fnOf (Str.ofString "_law_draw") (Str.ofString "_law_draw") (L2.defArgs (topS 43)) (L2.defBody (topS 43)) (L2.defScope (topS 43)) .none kV33 dc33 pm33 an33 cd33 ct33), sl33⟩) (c33 : PySem.W.codeIn K cd33 (Str.ofString "_law_draw") = true) (k33 : PySem.W.keepIn K (.ref f33) = true)
    (a34 : PySem.W.nsIn K mainGlobals (Str.ofString "_law_any") = some (some (.ref f34))) (l34 : K.lookup f34 = some ⟨oc34, od34, .func (PySem.W.fnOf (Str.ofString "_law_any") (Str.ofString "_law_any") (L2.defArgs (topS 44)) (L2.defBody (topS 44)) (L2.defScope (topS 44)) .none kV34 dc34 pm34 an34 cd34 ct34), sl34⟩) (c34 : PySem.W.codeIn K cd34 (Str.ofString "_law_any") = true) (k34 : PySem.W.keepIn K (.ref f34) = true)
    (a35 : PySem.W.nsIn K mainGlobals (Str.ofString "_law_low") = some (some (.ref f35))) (l35 : K.lookup f35 = some ⟨oc35, od35, .func (PySem.W.fnOf (Str.ofString "_law_low") (Str.ofString "_law_low") (L2.defArgs (topS 45)) (L2.defBody (topS 45)) (L2.defScope (topS 45)) .none kV35 dc35 pm35 an35 cd35 ct35), sl35⟩) (c35 : PySem.W.codeIn K cd35 (Str.ofString "_law_low") = true) (k35 : PySem.W.keepIn K (.ref f35) = true)
    (a36 : PySem.W.nsIn K mainGlobals (Str.ofString "_law_minus") = some (some (.ref f36))) (l36 : K.lookup f36 = some ⟨oc36, od36, .func (PySem.W.fnOf (Str.ofString "_law_minus") (Str.ofString "_law_minus") (L2.defArgs (topS 46)) (L2.defBody (topS 46)) (L2.defScope (topS 46)) .none kV36 dc36 pm36 an36 cd36 ct36), sl36⟩) (c36 : PySem.W.codeIn K cd36 (Str.ofString "_law_minus") = true) (k36 : PySem.W.keepIn K (.ref f36) = true)
    (a37 : PySem.W.nsIn K mainGlobals (Str.ofString "_law_times") = some (some (.ref f37))) (l37 : K.lookup f37 = some ⟨oc37, od37, .func (PySem.W.fnOf (Str.ofString "_law_times") (Str.ofString "_law_times") (L2.defArgs (topS 47)) (L2.defBody (topS 47)) (L2.defScope (topS 47)) .none kV37 dc37 pm37 an37 cd37 ct37), sl37⟩) (c37 : PySem.W.codeIn K cd37 (Str.ofString "_law_times") = true) (k37 : PySem.W.keepIn K (.ref f37) = true)
    (a38 : PySem.W.nsIn K mainGlobals (Str.ofString "_law_neat") = some (some (.ref f38))) (l38 : K.lookup f38 = some ⟨oc38, od38, .func (PySem.W.fnOf (Str.ofString "_law_neat") (Str.ofString "_law_neat") (L2.defArgs (topS 48)) (L2.defBody (topS 48)) (L2.defScope (topS 48)) .none kV38 dc38 pm38 an38 cd38 ct38), sl38⟩) (c38 : PySem.W.codeIn K cd38 (Str.ofString "_law_neat") = true) (k38 : PySem.W.keepIn K (.ref f38) = true)
    (a39 : PySem.W.nsIn K mainGlobals (Str.ofString "_law_goes") = some (some (.ref f39))) (l39 : K.lookup f39 = some ⟨oc39, od39, .func (PySem.W.fnOf (Str.ofString "_law_goes") (Str.ofString "_law_goes") (L2.defArgs (topS 49)) (L2.defBody (topS 49)) (L2.defScope (topS 49)) .none kV39 dc39 pm39 an39 cd39 ct39), sl39⟩) (c39 : PySem.W.codeIn K cd39 (Str.ofString "_law_goes") = true) (k39 : PySem.W.keepIn K (.ref f39) = true)
    (a40 : PySem.W.nsIn K mainGlobals (Str.ofString "_law_writing") = some (some (.ref f40))) (l40 : K.lookup f40 = some ⟨oc40, od40, .func (PySem.W.fnOf (Str.ofString "_law_writing") (Str.ofString "_law_writing") (L2.defArgs (topS 50)) (L2.defBody (topS 50)) (L2.defScope (topS 50)) .none kV40 dc40 pm40 an40 cd40 ct40), sl40⟩) (c40 : PySem.W.codeIn K cd40 (Str.ofString "_law_writing") = true) (k40 : PySem.W.keepIn K (.ref f40) = true)
    (a41 : PySem.W.nsIn K mainGlobals (Str.ofString "_law_is") = some (some (.ref f41))) (l41 : K.lookup f41 = some ⟨oc41, od41, .func (PySem.W.fnOf (Str.ofString "_law_is") (Str.ofString "_law_is") (L2.defArgs (topS 51)) (L2.defBody (topS 51)) (L2.defScope (topS 51)) .none kV41 dc41 pm41 an41 cd41 ct41), sl41⟩) (c41 : PySem.W.codeIn K cd41 (Str.ofString "_law_is") = true) (k41 : PySem.W.keepIn K (.ref f41) = true)
    (a42 : PySem.W.nsIn K mainGlobals (Str.ofString "_law_led") = some (some (.ref f42))) (l42 : K.lookup f42 = some ⟨oc42, od42, .func (PySem.W.fnOf (Str.ofString "_law_led") (Str.ofString "_law_led") (L2.defArgs (topS 52)) (L2.defBody (topS 52)) (L2.defScope (topS 52)) .none kV42 dc42 pm42 an42 cd42 ct42), sl42⟩) (c42 : PySem.W.codeIn K cd42 (Str.ofString "_law_led") = true) (k42 : PySem.W.keepIn K (.ref f42) = true)
    (a43 : PySem.W.nsIn K mainGlobals (Str.ofString "_law_digits") = some (some (.ref f43))) (l43 : K.lookup f43 = some ⟨oc43, od43, .func (PySem.W.fnOf (Str.ofString "_law_digits") (Str.ofString "_law_digits") (L2.defArgs (topS 53)) (L2.defBody (topS 53)) (L2.defScope (topS 53)) .none kV43 dc43 pm43 an43 cd43 ct43), sl43⟩) (c43 : PySem.W.codeIn K cd43 (Str.ofString "_law_digits") = true) (k43 : PySem.W.keepIn K (.ref f43) = true)
    (a44 : PySem.W.nsIn K mainGlobals (Str.ofString "law") = some (some (.ref f44))) (l44 : K.lookup f44 = some ⟨oc44, od44, .func (PySem.W.fnOf (Str.ofString "law") (Str.ofString "law") (L2.defArgs (st_law)) (L2.defBody (st_law)) (L2.defScope (st_law)) .none kV44 dc44 pm44 an44 cd44 ct44), sl44⟩) (c44 : PySem.W.codeIn K cd44 (Str.ofString "law") = true) (k44 : PySem.W.keepIn K (.ref f44) = true)
    (z0 : PySem.W.nsIn K mainGlobals (Str.ofString "abs") = some none)
    (z1 : PySem.W.nsIn K mainGlobals (Str.ofString "all") = some none)
    (z2 : PySem.W.nsIn K mainGlobals (Str.ofString "bool") = some none)
    (z3 : PySem.W.nsIn K mainGlobals (Str.ofString "dict") = some none)
    (z4 : PySem.W.nsIn K mainGlobals (Str.ofString "int") = some none)
    (z5 : PySem.W.nsIn K mainGlobals (Str.ofString "isinstance") = some none)
    (z6 : PySem.W.nsIn K mainGlobals (Str.ofString "len") = some none)
    (z7 : PySem.W.nsIn K mainGlobals (Str.ofString "list") = some none)
    (z8 : PySem.W.nsIn K mainGlobals (Str.ofString "range") = some none)
    (z9 : PySem.W.nsIn K mainGlobals (Str.ofString "tuple") = some none)
    (z10 : PySem.W.nsIn K mainGlobals (Str.ofString "zip") = some none)
    (qg0 : PySem.W.nsIn K mainGlobals (Str.ofString "ONE") = some (some (.ref t0))) (ql0 : K.lookup t0 = some ⟨.type "tuple", td0, .seq #[.int (1) u0_0, .int (1) u0_1] tn0, ts0⟩) :
    ∃ fd : FuncData, (∀ (s : Shared) (v : Value), BindsTo s fd ⟨[v], []⟩ [(Str.ofString "script", v)]) ∧ ∀ base : Heap, K.In base → base.Ns mainGlobals mg → L2.FnOk P w K mg base (L2.CX P w) 40 fa fd [Str.ofString "script"] (Y.spLaw K) := by
  have e := hfa.symm.trans (PySem.W.mg_of X G a44)
  cases e
  have gd : Gd K mg nB nG Gv rows := {
    bt := fun x hx => by
      simp only [nB, List.mem_cons, List.mem_nil_iff, or_false] at hx
      rcases hx with rfl | rfl | rfl | rfl | rfl | rfl | rfl | rfl | rfl | rfl | rfl
      · exact PySem.W.mg_none_of X G z0
      · exact PySem.W.mg_none_of X G z1
      · exact PySem.W.mg_none_of X G z2
      · exact PySem.W.mg_none_of X G z3
      · exact PySem.W.mg_none_of X G z4
      · exact PySem.W.mg_none_of X G z5
      · exact PySem.W.mg_none_of X G z6
      · exact PySem.W.mg_none_of X G z7
      · exact PySem.W.mg_none_of X G z8
      · exact PySem.W.mg_none_of X G z9
      · exact PySem.W.mg_none_of X G z10
    gs := fun n hn => by
      simp only [nG, List.mem_cons, List.mem_nil_iff, or_false] at hn
      rcases hn with rfl
      · exact ⟨_, .ref t0, .tup [.int (1), .int (1)], PySem.W.mg_of X G qg0, rfl, by decide, fun _ _ => .tup (xs := [.int (1), .int (1)]) (.inr ⟨_, _, _, ql0, rfl, rfl, (by show 2 ≤ sizeLine; rw [sizeLine_eq]; omega), .cons ⟨_, rfl⟩ (.cons ⟨_, rfl⟩ (.nil))⟩) (.cons (.int _) (.cons (.int _) (.nil)))⟩
    fs := fs_cons ⟨_, _, L2.fun_mk l0 c0 k0, (L2.fun_mk l0 c0 k0).binds (ps := r_is_integer.ps) (fun _ _ _ _ _ _ us hl => match us, hl with | [_], _ => rfl), PySem.W.mg_of X G a0⟩
      (fs_cons ⟨_, _, L2.fun_mk l1 c1 k1, (L2.fun_mk l1 c1 k1).binds (ps := r_is_within.ps) (fun _ _ _ _ _ _ us hl => match us, hl with | [_, _, _], _ => rfl), PySem.W.mg_of X G a1⟩
      (fs_cons ⟨_, _, L2.fun_mk l2 c2 k2, (L2.fun_mk l2 c2 k2).binds (ps := r_is_pair.ps) (fun _ _ _ _ _ _ us hl => match us, hl with | [_], _ => rfl), PySem.W.mg_of X G a2⟩
      (fs_cons ⟨_, _, L2.fun_mk l3 c3 k3, (L2.fun_mk l3 c3 k3).binds (ps := r_is_base_of.ps) (fun _ _ _ _ _ _ us hl => match us, hl with | [_], _ => rfl), PySem.W.mg_of X G a3⟩
      (fs_cons ⟨_, _, L2.fun_mk l4 c4 k4, (L2.fun_mk l4 c4 k4).binds (ps := r_is_digit_of.ps) (fun _ _ _ _ _ _ us hl => match us, hl with | [_, _], _ => rfl), PySem.W.mg_of X G a4⟩
      (fs_cons ⟨_, _, L2.fun_mk l5 c5 k5, (L2.fun_mk l5 c5 k5).binds (ps := r_digits_of.ps) (fun _ _ _ _ _ _ us hl => match us, hl with | [_], _ => rfl), PySem.W.mg_of X G a5⟩
      (fs_cons ⟨_, _, L2.fun_mk l6 c6 k6, (L2.fun_mk l6 c6 k6).binds (ps := r_divisor.ps) (fun _ _ _ _ _ _ us hl => match us, hl with | [_, _], _ => rfl), PySem.W.mg_of X G a6⟩
      (fs_cons ⟨_, _, L2.fun_mk l7 c7 k7, (L2.fun_mk l7 c7 k7).binds (ps := r_is_fraction_of.ps) (fun _ _ _ _ _ _ us hl => match us, hl with | [_], _ => rfl), PySem.W.mg_of X G a7⟩
      (fs_cons ⟨_, _, L2.fun_mk l8 c8 k8, (L2.fun_mk l8 c8 k8).binds (ps := r_is_number_of.ps) (fun _ _ _ _ _ _ us hl => match us, hl with | [_], _ => rfl), PySem.W.mg_of X G a8⟩
      (fs_cons ⟨_, _, L2.fun_mk l9 c9 k9, (L2.fun_mk l9 c9 k9).binds (ps := r_made.ps) (fun _ _ _ _ _ _ us hl => match us, hl with | [_, _], _ => rfl), PySem.W.mg_of X G a9⟩
      (fs_cons ⟨_, _, L2.fun_mk l10 c10 k10, (L2.fun_mk l10 c10 k10).binds (ps := r_whole.ps) (fun _ _ _ _ _ _ us hl => match us, hl with | [_], _ => rfl), PySem.W.mg_of X G a10⟩
      (fs_cons ⟨_, _, L2.fun_mk l11 c11 k11, (L2.fun_mk l11 c11 k11).binds (ps := r_power.ps) (fun _ _ _ _ _ _ us hl => match us, hl with | [_, _], _ => rfl), PySem.W.mg_of X G a11⟩
      (fs_cons ⟨_, _, L2.fun_mk l12 c12 k12, (L2.fun_mk l12 c12 k12).binds (ps := r_plus.ps) (fun _ _ _ _ _ _ us hl => match us, hl with | [_, _], _ => rfl), PySem.W.mg_of X G a12⟩
      (fs_cons ⟨_, _, L2.fun_mk l13 c13 k13, (L2.fun_mk l13 c13 k13).binds (ps := r_minus.ps) (fun _ _ _ _ _ _ us hl => match us, hl with | [_, _], _ => rfl), PySem.W.mg_of X G a13⟩
      (fs_cons ⟨_, _, L2.fun_mk l14 c14 k14, (L2.fun_mk l14 c14 k14).binds (ps := r_mul.ps) (fun _ _ _ _ _ _ us hl => match us, hl with | [_, _], _ => rfl), PySem.W.mg_of X G a14⟩
      (fs_cons ⟨_, _, L2.fun_mk l15 c15 k15, (L2.fun_mk l15 c15 k15).binds (ps := r_over.ps) (fun _ _ _ _ _ _ us hl => match us, hl with | [_, _], _ => rfl), PySem.W.mg_of X G a15⟩
      (fs_cons ⟨_, _, L2.fun_mk l16 c16 k16, (L2.fun_mk l16 c16 k16).binds (ps := r_size_of.ps) (fun _ _ _ _ _ _ us hl => match us, hl with | [_], _ => rfl), PySem.W.mg_of X G a16⟩
      (fs_cons ⟨_, _, L2.fun_mk l17 c17 k17, (L2.fun_mk l17 c17 k17).binds (ps := r_is_less.ps) (fun _ _ _ _ _ _ us hl => match us, hl with | [_, _], _ => rfl), PySem.W.mg_of X G a17⟩
      (fs_cons ⟨_, _, L2.fun_mk l18 c18 k18, (L2.fun_mk l18 c18 k18).binds (ps := r_check_base.ps) (fun _ _ _ _ _ _ us hl => match us, hl with | [_], _ => rfl), PySem.W.mg_of X G a18⟩
      (fs_cons ⟨_, _, L2.fun_mk l19 c19 k19, (L2.fun_mk l19 c19 k19).binds (ps := r_check_number.ps) (fun _ _ _ _ _ _ us hl => match us, hl with | [_], _ => rfl), PySem.W.mg_of X G a19⟩
      (fs_cons ⟨_, _, L2.fun_mk l20 c20 k20, (L2.fun_mk l20 c20 k20).binds (ps := r_is_row_of.ps) (fun _ _ _ _ _ _ us hl => match us, hl with | [_], _ => rfl), PySem.W.mg_of X G a20⟩
      (fs_cons ⟨_, _, L2.fun_mk l21 c21 k21, (L2.fun_mk l21 c21 k21).binds (ps := r_is_writing_of.ps) (fun _ _ _ _ _ _ us hl => match us, hl with | [_, _], _ => rfl), PySem.W.mg_of X G a21⟩
      (fs_cons ⟨_, _, L2.fun_mk l22 c22 k22, (L2.fun_mk l22 c22 k22).binds (ps := r_is_writing.ps) (fun _ _ _ _ _ _ us hl => match us, hl with | [_, _], _ => rfl), PySem.W.mg_of X G a22⟩
      (fs_cons ⟨_, _, L2.fun_mk l23 c23 k23, (L2.fun_mk l23 c23 k23).binds (ps := r_number_of.ps) (fun _ _ _ _ _ _ us hl => match us, hl with | [_, _], _ => rfl), PySem.W.mg_of X G a23⟩
      (fs_cons ⟨_, _, L2.fun_mk l24 c24 k24, (L2.fun_mk l24 c24 k24).binds (ps := r_worth_of.ps) (fun _ _ _ _ _ _ us hl => match us, hl with | [_, _], _ => rfl), PySem.W.mg_of X G a24⟩
      (fs_cons ⟨_, _, L2.fun_mk l25 c25 k25, (L2.fun_mk l25 c25 k25).binds (ps := r_worth.ps) (fun _ _ _ _ _ _ us hl => match us, hl with | [_, _], _ => rfl), PySem.W.mg_of X G a25⟩
      (fs_cons ⟨_, _, L2.fun_mk l26 c26 k26, (L2.fun_mk l26 c26 k26).binds (ps := r_neat_of.ps) (fun _ _ _ _ _ _ us hl => match us, hl with | [_], _ => rfl), PySem.W.mg_of X G a26⟩
      (fs_cons ⟨_, _, L2.fun_mk l27 c27 k27, (L2.fun_mk l27 c27 k27).binds (ps := r_going_on.ps) (fun _ _ _ _ _ _ us hl => match us, hl with | [_, _], _ => rfl), PySem.W.mg_of X G a27⟩
      (fs_cons ⟨_, _, L2.fun_mk l28 c28 k28, (L2.fun_mk l28 c28 k28).binds (ps := r_led_writing.ps) (fun _ _ _ _ _ _ us hl => match us, hl with | [_, _, _], _ => rfl), PySem.W.mg_of X G a28⟩
      (fs_cons ⟨_, _, L2.fun_mk l29 c29 k29, (L2.fun_mk l29 c29 k29).binds (ps := r_written.ps) (fun _ _ _ _ _ _ us hl => match us, hl with | [_, _], _ => rfl), PySem.W.mg_of X G a29⟩
      (fs_cons ⟨_, _, L2.fun_mk l30 c30 k30, (L2.fun_mk l30 c30 k30).binds (ps := r_greatly.ps) (fun _ _ _ _ _ _ us hl => match us, hl with | [_, _], _ => rfl), PySem.W.mg_of X G a30⟩
      (fs_cons ⟨_, _, L2.fun_mk l32 c32 k32, (L2.fun_mk l32 c32 k32).binds (ps := r__law_mixed.ps) (fun _ _ _ _ _ _ us hl => match us, hl with | [_, _], _ => rfl), PySem.W.mg_of X G a32⟩
      (fs_cons ⟨_, _, L2.fun_mk l33 c33 k33, (L2.fun_mk l33 c33 k33).binds (ps := r__law_draw.ps) (fun _ _ _ _ _ _ us hl => match us, hl with | [_, _], _ => rfl), PySem.W.mg_of X G a33⟩
      (fs_cons ⟨_, _, L2.fun_mk l34 c34 k34, (L2.fun_mk l34 c34 k34).binds (ps := r__law_any.ps) (fun _ _ _ _ _ _ us hl => match us, hl with | [_, _], _ => rfl), PySem.W.mg_of X G a34⟩
      (fs_cons ⟨_, _, L2.fun_mk l35 c35 k35, (L2.fun_mk l35 c35 k35).binds (ps := r__law_low.ps) (fun _ _ _ _ _ _ us hl => match us, hl with | [_, _], _ => rfl), PySem.W.mg_of X G a35⟩
      (fs_cons ⟨_, _, L2.fun_mk l36 c36 k36, (L2.fun_mk l36 c36 k36).binds (ps := r__law_minus.ps) (fun _ _ _ _ _ _ us hl => match us, hl with | [_, _], _ => rfl), PySem.W.mg_of X G a36⟩
      (fs_cons ⟨_, _, L2.fun_mk l37 c37 k37, (L2.fun_mk l37 c37 k37).binds (ps := r__law_times.ps) (fun _ _ _ _ _ _ us hl => match us, hl with | [_, _], _ => rfl), PySem.W.mg_of X G a37⟩
      (fs_cons ⟨_, _, L2.fun_mk l38 c38 k38, (L2.fun_mk l38 c38 k38).binds (ps := r__law_neat.ps) (fun _ _ _ _ _ _ us hl => match us, hl with | [_], _ => rfl), PySem.W.mg_of X G a38⟩
      (fs_cons ⟨_, _, L2.fun_mk l39 c39 k39, (L2.fun_mk l39 c39 k39).binds (ps := r__law_goes.ps) (fun _ _ _ _ _ _ us hl => match us, hl with | [_, _], _ => rfl), PySem.W.mg_of X G a39⟩
      (fs_cons ⟨_, _, L2.fun_mk l40 c40 k40, (L2.fun_mk l40 c40 k40).binds (ps := r__law_writing.ps) (fun _ _ _ _ _ _ us hl => match us, hl with | [_, _, _], _ => rfl), PySem.W.mg_of X G a40⟩
      (fs_cons ⟨_, _, L2.fun_mk l41 c41 k41, (L2.fun_mk l41 c41 k41).binds (ps := r__law_is.ps) (fun _ _ _ _ _ _ us hl => match us, hl with | [_, _], _ => rfl), PySem.W.mg_of X G a41⟩
      (fs_cons ⟨_, _, L2.fun_mk l42 c42 k42, (L2.fun_mk l42 c42 k42).binds (ps := r__law_led.ps) (fun _ _ _ _ _ _ us hl => match us, hl with | [_, _, _], _ => rfl), PySem.W.mg_of X G a42⟩
      (fs_cons ⟨_, _, L2.fun_mk l43 c43 k43, (L2.fun_mk l43 c43 k43).binds (ps := r__law_digits.ps) (fun _ _ _ _ _ _ us hl => match us, hl with | [_, _], _ => rfl), PySem.W.mg_of X G a43⟩
      (fs_nil))))))))))))))))))))))))))))))))))))))))))) }
  refine ⟨PySem.W.fnOf (Str.ofString "law") (Str.ofString "law") (L2.defArgs st_law) (L2.defBody st_law) (L2.defScope st_law) .none kV44 dc44 pm44 an44 cd44 ct44, fun s v => .of_eq rfl, fun base _ _ => ?_⟩
  exact ok_law (k := 38) (i := 1) (N := N_law) (b := m_law) (rest := (L2.defBody st_law).tail) (scH := sc_hand) gd (by decide +kernel) (L2.fun_mk l44 c44 k44) (L2.fun_mk l31 c31 k31) ((L2.fun_mk l31 c31 k31).binds (ps := [Str.ofString "script"]) (fun _ _ _ _ _ _ us hl => match us, hl with | [_], _ => rfl)) (PySem.W.mg_of X G a31)
    ⟨⟨_, _, _, _, _, _, _, _, _, _, _, _, _, _, _, _, _, _, rfl⟩, by decide +kernel⟩ (PySem.W.mg_none_of X G z4) (by decide +kernel) rfl plain
end K03
open PySem PySem.W PyProof.Rows
set_option maxHeartbeats 0 in
theorem PySem.Challenge.cw_anywriting_k03_whole_numbers_written_holds : PySem.Challenge.rw_anywriting_k03_whole_numbers_written.Holds := by
  w_on; o_law; k_head; (case hw => w_witness2)
  k_fill
  refine L2.walk_of (l := PySem.Challenge.rw_anywriting_k03_whole_numbers_written) (n := 63) (k := 40) (x := Str.ofString "script") (CX := fun w => L2.CX PySem.Challenge.rw_anywriting_k03_whole_numbers_written.prog w) (sp := fun w => Y.spLaw _) rfl (by decide) rfl ⟨rfl, by decide, by decide⟩ (fun w h Y => PySem.W.kIn_of Y) ?F (fun _ _ a ns hl _ hS => ⟨a, ns, rfl, hS, hl, fun _ => rfl⟩) (fun _ _ _ _ _ h => by obtain ⟨_, _, _, _, _, _, _, _, _, _, _, _, z⟩ := h; exact z)
  case F =>
    intro w mg fa h KX G hmg
    refine' K03.all_mk KX G hmg ?a0 ?l0 ?c0 ?k0 ?a1 ?l1 ?c1 ?k1 ?a2 ?l2 ?c2 ?k2 ?a3 ?l3 ?c3 ?k3 ?a4 ?l4 ?c4 ?k4 ?a5 ?l5 ?c5 ?k5 ?a6 ?l6 ?c6 ?k6 ?a7 ?l7 ?c7 ?k7 ?a8 ?l8 ?c8 ?k8 ?a9 ?l9 ?c9 ?k9 ?a10 ?l10 ?c10 ?k10 ?a11 ?l11 ?c11 ?k11 ?a12 ?l12 ?c12 ?k12 ?a13 ?l13 ?c13 ?k13 ?a14 ?l14 ?c14 ?k14 ?a15 ?l15 ?c15 ?k15 ?a16 ?l16 ?c16 ?k16 ?a17 ?l17 ?c17 ?k17 ?a18 ?l18 ?c18 ?k18 ?a19 ?l19 ?c19 ?k19 ?a20 ?l20 ?c20 ?k20 ?a21 ?l21 ?c21 ?k21 ?a22 ?l22 ?c22 ?k22 ?a23 ?l23 ?c23 ?k23 ?a24 ?l24 ?c24 ?k24 ?a25 ?l25 ?c25 ?k25 ?a26 ?l26 ?c26 ?k26 ?a27 ?l27 ?c27 ?k27 ?a28 ?l28 ?c28 ?k28 ?a29 ?l29 ?c29 ?k29 ?a30 ?l30 ?c30 ?k30 ?a31 ?l31 ?c31 ?k31 ?a32 ?l32 ?c32 ?k32 ?a33 ?l33 ?c33 ?k33 ?a34 ?l34 ?c34 ?k34 ?a35 ?l35 ?c35 ?k35 ?a36 ?l36 ?c36 ?k36 ?a37 ?l37 ?c37 ?k37 ?a38 ?l38 ?c38 ?k38 ?a39 ?l39 ?c39 ?k39 ?a40 ?l40 ?c40 ?k40 ?a41 ?l41 ?c41 ?k41 ?a42 ?l42 ?c42 ?k42 ?a43 ?l43 ?c43 ?k43 ?a44 ?l44 ?c44 ?k44 ?z0 ?z1 ?z2 ?z3 ?z4 ?z5 ?z6 ?z7 ?z8 ?z9 ?z10 ?qg0 ?ql0
    (case a0 => k_is)
    (case l0 => k_is)
    (case c0 => k_is)
    (case k0 => k_is)
    (case a1 => k_is)
    (case l1 => k_is)
    (case c1 => k_is)
    (case k1 => k_is)
    (case a2 => k_is)
    (case l2 => k_is)
    (case c2 => k_is)
    (case k2 => k_is)
    (case a3 => k_is)
    (case l3 => k_is)
    (case c3 => k_is)
    (case k3 => k_is)
    (case a4 => k_is)
    (case l4 => k_is)
    (case c4 => k_is)
    (case k4 => k_is)
    (case a5 => k_is)
    (case l5 => k_is)
    (case c5 => k_is)
    (case k5 => k_is)
    (case a6 => k_is)
    (case l6 => k_is)
    (case c6 => k_is)
    (case k6 => k_is)
    (case a7 => k_is)
    (case l7 => k_is)
    (case c7 => k_is)
    (case k7 => k_is)
    (case a8 => k_is)
    (case l8 => k_is)
    (case c8 => k_is)
    (case k8 => k_is)
    (case a9 => k_is)
    (case l9 => k_is)
    (case c9 => k_is)
    (case k9 => k_is)
    (case a10 => k_is)
    (case l10 => k_is)
    (case c10 => k_is)
    (case k10 => k_is)
    (case a11 => k_is)
    (case l11 => k_is)
    (case c11 => k_is)
    (case k11 => k_is)
    (case a12 => k_is)
    (case l12 => k_is)
    (case c12 => k_is)
    (case k12 => k_is)
    (case a13 => k_is)
    (case l13 => k_is)
    (case c13 => k_is)
    (case k13 => k_is)
    (case a14 => k_is)
    (case l14 => k_is)
    (case c14 => k_is)
    (case k14 => k_is)
    (case a15 => k_is)
    (case l15 => k_is)
    (case c15 => k_is)
    (case k15 => k_is)
    (case a16 => k_is)
    (case l16 => k_is)
    (case c16 => k_is)
    (case k16 => k_is)
    (case a17 => k_is)
    (case l17 => k_is)
    (case c17 => k_is)
    (case k17 => k_is)
    (case a18 => k_is)
    (case l18 => k_is)
    (case c18 => k_is)
    (case k18 => k_is)
    (case a19 => k_is)
    (case l19 => k_is)
    (case c19 => k_is)
    (case k19 => k_is)
    (case a20 => k_is)
    (case l20 => k_is)
    (case c20 => k_is)
    (case k20 => k_is)
    (case a21 => k_is)
    (case l21 => k_is)
    (case c21 => k_is)
    (case k21 => k_is)
    (case a22 => k_is)
    (case l22 => k_is)
    (case c22 => k_is)
    (case k22 => k_is)
    (case a23 => k_is)
    (case l23 => k_is)
    (case c23 => k_is)
    (case k23 => k_is)
    (case a24 => k_is)
    (case l24 => k_is)
    (case c24 => k_is)
    (case k24 => k_is)
    (case a25 => k_is)
    (case l25 => k_is)
    (case c25 => k_is)
    (case k25 => k_is)
    (case a26 => k_is)
    (case l26 => k_is)
    (case c26 => k_is)
    (case k26 => k_is)
    (case a27 => k_is)
    (case l27 => k_is)
    (case c27 => k_is)
    (case k27 => k_is)
    (case a28 => k_is)
    (case l28 => k_is)
    (case c28 => k_is)
    (case k28 => k_is)
    (case a29 => k_is)
    (case l29 => k_is)
    (case c29 => k_is)
    (case k29 => k_is)
    (case a30 => k_is)
    (case l30 => k_is)
    (case c30 => k_is)
    (case k30 => k_is)
    (case a31 => k_is)
    (case l31 => k_is)
    (case c31 => k_is)
    (case k31 => k_is)
    (case a32 => k_is)
    (case l32 => k_is)
    (case c32 => k_is)
    (case k32 => k_is)
    (case a33 => k_is)
    (case l33 => k_is)
    (case c33 => k_is)
    (case k33 => k_is)
    (case a34 => k_is)
    (case l34 => k_is)
    (case c34 => k_is)
    (case k34 => k_is)
    (case a35 => k_is)
    (case l35 => k_is)
    (case c35 => k_is)
    (case k35 => k_is)
    (case a36 => k_is)
    (case l36 => k_is)
    (case c36 => k_is)
    (case k36 => k_is)
    (case a37 => k_is)
    (case l37 => k_is)
    (case c37 => k_is)
    (case k37 => k_is)
    (case a38 => k_is)
    (case l38 => k_is)
    (case c38 => k_is)
    (case k38 => k_is)
    (case a39 => k_is)
    (case l39 => k_is)
    (case c39 => k_is)
    (case k39 => k_is)
    (case a40 => k_is)
    (case l40 => k_is)
    (case c40 => k_is)
    (case k40 => k_is)
    (case a41 => k_is)
    (case l41 => k_is)
    (case c41 => k_is)
    (case k41 => k_is)
    (case a42 => k_is)
    (case l42 => k_is)
    (case c42 => k_is)
    (case k42 => k_is)
    (case a43 => k_is)
    (case l43 => k_is)
    (case c43 => k_is)
    (case k43 => k_is)
    (case a44 => k_is)
    (case l44 => k_is)
    (case c44 => k_is)
    (case k44 => k_is)
    (case z0 => k_is)
    (case z1 => k_is)
    (case z2 => k_is)
    (case z3 => k_is)
    (case z4 => k_is)
    (case z5 => k_is)
    (case z6 => k_is)
    (case z7 => k_is)
    (case z8 => k_is)
    (case z9 => k_is)
    (case z10 => k_is)
    (case qg0 => k_is)
    (case ql0 => k_is)

