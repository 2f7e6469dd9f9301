import PyProof.Rows.All
import Wide.All
import OpenK.AllK
import Wide.FinOn
import HandS.ForMost
import HandS.ForExc
import HandS.IsInst
import HandS.ExcInit
import HandS.ExcIs
import HandS.ExcField
import HandS.ExcValue
import HandS.WordsExc
import KE.KExcIs
import HandS.Deep
import HandS.NamedTupSort
import HandS.TupAny
import HandS.TupMul
import HandS.SortInts
import HandS.Style
import KE.KSortedM
import PyProof.InstNe
import HandS.More
import KE.KRevSl
import HandS.Walk
import HandS.TryOnly
import HandS.EndBits
import PySem.Challenge.RW_everyreply_k50_clause_books_refused
set_option Elab.async false
set_option linter.all false
set_option maxRecDepth 100000
set_option Elab.async false
set_option linter.all false
set_option maxRecDepth 100000
/-! Ev, part A: a small pure interpreter. Values D, objects O, a store (list of objects, addressed by place), expressions Ex, statements Sx. -/
namespace Ev
open PySem L2

/-- values: the scalars, tuples by structure, everything mutable by its place in the store -/
inductive D where
  | non | bl (b : Bool) | int (i : Int) | str (x : Str) | tup (ds : List D) | ref (n : Nat) | fn (n : Nat) | cls (n : Nat)
  deriving Inhabited
mutual
def D.beq : D → D → Bool
  | .non, .non => true | .bl a, .bl b => a == b | .int a, .int b => a == b | .str a, .str b => a == b
  | .tup a, .tup b => D.beqs a b | .ref a, .ref b => a == b | .fn a, .fn b => a == b | .cls a, .cls b => a == b
  | _, _ => false
def D.beqs : List D → List D → Bool
  | [], [] => true | a :: as, b :: bs => D.beq a b && D.beqs as bs | _, _ => false
end
mutual
theorem D.beq_eq : ∀ a b : D, D.beq a b = true → a = b
  | .non, b, h => by cases b <;> simp_all [D.beq]
  | .bl _, b, h => by cases b <;> simp_all [D.beq]
  | .int _, b, h => by cases b <;> simp_all [D.beq]
  | .str _, b, h => by cases b <;> simp_all [D.beq]
  | .tup x, b, h => by
    cases b with
    | tup y => rw [D.beqs_eq x y (by simpa [D.beq] using h)]
    | _ => simp [D.beq] at h
  | .ref _, b, h => by cases b <;> simp_all [D.beq]
  | .fn _, b, h => by cases b <;> simp_all [D.beq]
  | .cls _, b, h => by cases b <;> simp_all [D.beq]
theorem D.beqs_eq : ∀ a b : List D, D.beqs a b = true → a = b
  | [], b, h => by cases b <;> simp_all [D.beqs]
  | x :: xs, b, h => by
    cases b with
    | nil => simp [D.beqs] at h
    | cons y ys =>
      rw [D.beqs, Bool.and_eq_true] at h
      rw [D.beq_eq x y h.1, D.beqs_eq xs ys h.2]
end
mutual
theorem D.beq_refl : ∀ a : D, D.beq a a = true
  | .non => by simp [D.beq] | .bl _ => by simp [D.beq] | .int _ => by simp [D.beq] | .str _ => by simp [D.beq]
  | .tup x => by rw [D.beq]; exact D.beqs_refl x
  | .ref _ => by simp [D.beq] | .fn _ => by simp [D.beq] | .cls _ => by simp [D.beq]
theorem D.beqs_refl : ∀ a : List D, D.beqs a a = true
  | [] => by simp [D.beqs]
  | x :: xs => by rw [D.beqs, D.beq_refl x, D.beqs_refl xs]; rfl
end
instance : DecidableEq D := fun a b => if h : D.beq a b = true then isTrue (D.beq_eq a b h) else isFalse fun e => h (by rw [e]; exact D.beq_refl b)
/-- objects: a list, a dict (keys ints and texts; keys tuples of them), an instance with its fields; lk: one that must not be changed now -/
inductive O where
  | lst (ds : List D) | dK (kvs : List (Key × D)) | dT (kvs : List (List Key × D)) | ins (c : Nat) (fs : List (Nat × D)) | exn (c : Nat) (fs : List (Nat × D)) | lk (o : O)
  deriving Inhabited, DecidableEq
abbrev Store := List O
/-- an exception held as a value -/
def isX : O → Bool | .exn _ _ => true | _ => false
abbrev Env := List (Option D)
/-- what an expression gives: a value, or an object that nobody else holds -/
inductive T where
  | v (d : D) | t (o : O)
  deriving Inhabited, DecidableEq
inductive R (α : Type) where
  | ok (a : α) (S : Store) | ex (c : Nat) (dd : List D) (S : Store) | bad
namespace R
def bind {α β : Type} (r : R α) (f : α → Store → R β) : R β := match r with
  | .ok a S => f a S | .ex c dd S => .ex c dd S | .bad => .bad
/-- no exception may come out -/
def nox {α : Type} (r : R α) : R α := match r with
  | .ok a S => .ok a S | _ => .bad
def map {α β : Type} (f : α → β) (r : R α) : R β := match r with
  | .ok a S => .ok (f a) S | .ex c dd S => .ex c dd S | .bad => .bad
end R
def ofO {α : Type} (S : Store) : Option α → R α | some a => .ok a S | none => .bad

def alloc : T → Store → D × Store
  | .v d, S => (d, S)
  | .t o, S => (.ref S.length, S ++ [o])
def R.alloc (r : R T) : R D := r.bind fun t S => .ok (Ev.alloc t S).1 (Ev.alloc t S).2

/-! ### reading -/
def unlk : O → O | .lk o => o | o => o
/-- the object that is meant, as it may be read -/
def objR (S : Store) : T → Option O
  | .v (.ref n) => (S[n]?).map unlk
  | .t o => some o
  | _ => none
/-- .. as it may be written -/
def objW (S : Store) : T → Option O
  | .v (.ref n) => S[n]?
  | .t o => some o
  | _ => none
def lstR (S : Store) (t : T) : Option (List D) := match objR S t with | some (.lst ds) => some ds | _ => none
def lstW (S : Store) (t : T) : Option (List D) := match objW S t with | some (.lst ds) => some ds | _ => none
/-- the items of a list or a tuple -/
def seqR (S : Store) : T → Option (List D)
  | .v (.tup ds) => some ds
  | t => lstR S t

mutual
def toPyW (f : Nat → Option PyData) : D → Option PyData
  | .non => some .none | .bl b => some (.bool b) | .int i => some (.int i) | .str x => some (.str x)
  | .tup ds => (toPysW f ds).map .tuple
  | .ref n => f n
  | .fn _ => none | .cls _ => none
def toPysW (f : Nat → Option PyData) : List D → Option (List PyData)
  | [] => some []
  | d :: ds => (toPyW f d).bind fun p => (toPysW f ds).map (p :: ·)
end
def refPy : Nat → Store → Nat → Option PyData
  | 0, _, _ => none
  | k + 1, S, n => (lstR S (.v (.ref n))).bind fun ds => (toPysW (refPy k S) ds).map .list
def toPy (S : Store) : T → Option PyData
  | .v d => toPyW (refPy 3 S) d
  | .t (.lst ds) => (toPysW (refPy 3 S) ds).map .list
  | _ => none

def truth (S : Store) : T → Option Bool
  | .v .non => some false | .v (.bl b) => some b | .v (.int i) => some (i != 0)
  | .v (.str x) => if x.length ≤ sizeLine then some ((x.length : Int) != 0) else none
  | .v (.tup ds) => some (!ds.isEmpty)
  | .v (.fn _) => none | .v (.cls _) => none
  | t => match objW S t with
    | some (.lst ds) => some (!ds.isEmpty)
    | some (.lk (.lst ds)) => some (!ds.isEmpty)
    | some (.dK kvs) => some (!kvs.isEmpty)
    | _ => none

/-! ### operators -/
inductive Op2 where | add | sub | mul | fdiv | mod | pow | xor | shl | shr | band | bor
  deriving DecidableEq
inductive Cm where | lt | le | gt | ge | eq | ne | mem | nmem | is | nis
  deriving DecidableEq
def B64 (i : Int) : Bool := decide (-(2 ^ 64) < i) && decide (i < 2 ^ 64)
def opI : Op2 → Int → Int → Option Int
  | .add, i, j => some (i + j)
  | .sub, i, j => some (i - j)
  | .mul, i, j => if B64 i || B64 j then some (i * j) else none
  | .fdiv, i, j => if 0 < j ∧ j < 1073741824 then some (i / j) else none
  | .mod, i, j => if 0 < j then some (i % j) else none
  | .pow, i, j => if 0 ≤ j ∧ j ≤ 1000000 ∧ i.natAbs < 2 ^ 64 then some (i ^ j.toNat) else none
  | .shl, i, j => if 0 ≤ j ∧ j ≤ 1000000 ∧ i.natAbs < 2 ^ 64 then some (i * 2 ^ j.toNat) else none
  | .shr, i, j => if 0 ≤ j then some (i / 2 ^ j.toNat) else none
  | .xor, i, j => some (Builtin.bitXor i j)
  | .band, i, j => some (Builtin.bitAnd i j)
  | .bor, i, j => some (Builtin.bitOr i j)
def opL (S : Store) : Op2 → T → T → Option T
  | .add, a, b => match lstW S a, lstW S b with
    | some xs, some ys => if xs.length + ys.length ≤ sizeLine then some (.t (.lst (xs ++ ys))) else none
    | _, _ => none
  | .mul, a, .v (.int k) => match lstW S a with
    | some xs => if -(2 ^ 63) ≤ k ∧ k < 2 ^ 63 ∧ xs.length * k.toNat ≤ sizeLine then some (.t (.lst (List.replicate k.toNat xs).flatten)) else none
    | _ => none
  | _, _, _ => none
def opE (S : Store) (o : Op2) (a b : T) : Option T := match o, a, b with
  | o, .v (.int i), .v (.int j) => (opI o i j).map fun z => .v (.int z)
  | .add, .v (.str x), .v (.str y) => if x.length + y.length ≤ sizeLine then some (.v (.str (x ++ y))) else none
  | .add, .v (.tup xs), .v (.tup ys) => if xs.length + ys.length ≤ sizeLine then some (.v (.tup (xs ++ ys))) else none
  | .mul, .v (.tup xs), .v (.int k) => if xs ≠ [] ∧ 2 ≤ k ∧ k ≤ 1000 ∧ xs.length ≤ 1000 then some (.v (.tup (List.replicate k.toNat xs).flatten)) else none
  | o, a, b => opL S o a b
def intsOf : List D → Option (List Int)
  | [] => some []
  | .int i :: r => (intsOf r).map (i :: ·)
  | _ => none
def tupsOf : List D → Option (List (List Int))
  | [] => some []
  | .tup ds :: r => (intsOf ds).bind fun is => (tupsOf r).map (is :: ·)
  | _ => none
def ltD : D → D → Option Bool
  | .int i, .int j => some (decide (i < j))
  | .str x, .str y => some (decide (x.cps.toList < y.cps.toList))
  | .tup a, .tup b => match intsOf a, intsOf b with
    | some xs, some ys => some (HT.lexLt xs ys)
    | _, _ => none
  | _, _ => none
def eqE (S : Store) (a b : T) : Option Bool := match toPy S a, toPy S b with
  | some p, some q => if SeqAt.shaped p ∧ SeqAt.shaped q then some (PyData.eqv p q) else none
  | _, _ => none
def flatD : D → Bool | .non | .bl _ | .int _ | .str _ => true | _ => false
def eqF : D → D → Bool
  | .non, .non => true
  | .bl a, .bl b => a == b
  | .bl a, .int j => (if a then 1 else 0) == j
  | .int i, .bl b => i == (if b then 1 else 0)
  | .int a, .int b => a == b
  | .str a, .str b => a == b
  | _, _ => false
def valK {κ : Type} [DecidableEq κ] (k : κ) : List (κ × D) → Option D
  | [] => none
  | (x, d) :: r => if x = k then some d else valK k r
def keyOf : D → Option Key
  | .int i => some (.inl i) | .str x => some (.inr x) | _ => none
def keysOf : List D → Option (List Key)
  | [] => some []
  | d :: r => (keyOf d).bind fun k => (keysOf r).map (k :: ·)
def isDct (S : Store) (t : T) : Bool := match objR S t with | some (.dK _) => true | _ => false
def isTupD : D → Bool | .tup _ => true | _ => false
def allTup (S : Store) (t : T) : Bool := match lstR S t with | some ds => ds.all isTupD | none => false
/-- x in t -/
def memE (S : Store) (x t : T) : Option Bool := match t with
  | .v (.tup ds) => match x with
    | .v d => if flatD d ∧ ds.all flatD then some (ds.any fun z => eqF z d) else none
    | _ => none
  | t => match objR S t with
    | some (.lst _) => match toPy S x, toPy S t with
      | some p, some (.list qs) => if SeqAt.shaped p ∧ SeqAt.shaped (.list qs) then some (qs.any fun z => PyData.eqv z p) else none
      | _, _ => if isDct S x && allTup S t then some false else none
    | some (.dK kvs) => match x with
      | .v d => (keyOf d).map fun k => (valK k kvs).isSome
      | _ => none
    | _ => none
def isE (a b : T) : Option Bool := match a, b with
  | a, .v .non => some (decide (a = .v .non))
  | .v (.bl x), .v (.bl y) => some (decide (x = y))
  | _, _ => none
def cmpI : Cm → Int → Int → Option Bool
  | .lt, i, j => some (decide (i < j)) | .le, i, j => some (decide (i ≤ j)) | .gt, i, j => some (decide (j < i)) | .ge, i, j => some (decide (j ≤ i))
  | _, _, _ => none
def cmpE (S : Store) (o : Cm) (a b : T) : Option Bool := match o with
  | .eq => eqE S a b
  | .ne => (eqE S a b).map (!·)
  | .mem => memE S a b
  | .nmem => (memE S a b).map (!·)
  | .is => isE a b
  | .nis => (isE a b).map (!·)
  | .lt => match a, b with
    | .v x, .v y => ltD x y
    | _, _ => none
  | o => match a, b with
    | .v (.int i), .v (.int j) => cmpI o i j
    | _, _ => none

/-! ### built-ins -/
inductive Ty where | b (s : String) | c (n : Nat) | ve
  deriving DecidableEq
inductive Bi where | len | all | any | tuple | list | int | abs | sorted | sum | max | min | bool | str
  deriving DecidableEq
inductive Me where | append | pop | reverse | extend | get
  deriving DecidableEq
/-- the built-in type of a value -/
def tyB (S : Store) : T → Option String
  | .v .non => some "NoneType" | .v (.bl _) => some "bool" | .v (.int _) => some "int" | .v (.str _) => some "str" | .v (.tup _) => some "tuple"
  | .v (.fn _) => none | .v (.cls _) => none
  | t => match objR S t with
    | some (.lst _) => some "list" | some (.dK _) => some "dict" | _ => none
/-- the class of an instance -/
def tyC (S : Store) (t : T) : Option Nat := match objW S t with | some (.ins c _) => some c | _ => none
/-- the class of an exception held as a value -/
def tyX (S : Store) (t : T) : Option Nat := match objW S t with | some (.exn c _) => some c | _ => none
def blsOf : List D → Option (List Bool)
  | [] => some []
  | .bl b :: r => (blsOf r).map (b :: ·)
  | _ => none
def insI (x : Int) : List Int → List Int
  | [] => [x]
  | y :: r => if x ≤ y then x :: y :: r else y :: insI x r
def sortI : List Int → List Int
  | [] => []
  | x :: r => insI x (sortI r)
def insL (x : List Int) : List (List Int) → List (List Int)
  | [] => [x]
  | y :: r => if HT.lexLt y x = true then y :: insL x r else x :: y :: r
def sortL : List (List Int) → List (List Int)
  | [] => []
  | x :: r => insL x (sortL r)
def tupI (xs : List Int) : D := .tup (xs.map D.int)
def sortD (ds : List D) : Option (List D) := match intsOf ds with
  | some is => some ((sortI is).map D.int)
  | none => (tupsOf ds).map fun xs => (sortL xs).map tupI
def atD (ds : List D) (i : Int) : Option D := atI ds i
def cut (xs : List D) (lo hi : Option Int) : List D := (xs.drop (HT.sIx xs.length 0 lo)).take (HT.sIx xs.length xs.length hi - HT.sIx xs.length 0 lo)
def intO : T → Option Int | .v (.int i) => some i | _ => none
end Ev
set_option Elab.async false
set_option linter.all false
set_option maxRecDepth 100000
/-! Ev, part B: expressions, statements, what they give. -/
namespace Ev
open PySem L2

inductive Kd where
  | op (o : Op2) | neg | cmp (o : Cm) | idx | slc (k : Nat) | rv | isi (t : Ty) | bi (b : Bi) | fld (f : Nat)
  | dct | max2 | min2 | bk
/-- .. whose parts are laid before they are handed on -/
inductive Ka where | tup | lst | call (f : Nat) | mk (c : Nat) | mkx (c : Nat) (f : Option Nat)
inductive Tg where | var (i : Nat) | tup (ts : List Tg)
inductive Ik where | seq | rng | enum | zip | rev | keys
inductive Ex where
  | var (i : Nat) | cst (d : D) | nd (k : Kd) (es : List Ex) | na (k : Ka) (es : List Ex) | and (a b : Ex) | or (a b : Ex) | not (a : Ex) | ite (c a b : Ex) | ch (o o' : Cm) (a b c : Ex)
  | lc (t : Tg) (ik : Ik) (ia : List Ex) (cs : List Ex) (el : Ex) (own : List Nat)
  | sl (a l h : Ex) | meth (m : Me) (o : Ex) (es : List Ex) | um (m : Nat) (o : Ex) (es : List Ex)
inductive Sx where
  | set (t : Tg) (e : Ex) | par (is : List Nat) (es : List Ex) | sub (o i e : Ex) | fldS (o : Ex) (f : Nat) (e : Ex) | aug (i : Nat) (o : Op2) (e : Ex)
  | ex (e : Ex) | ret (e : Ex) | retN | nop | brk | cnt
  | ite (c : Ex) (a b : List Sx) | fr (t : Tg) (ik : Ik) (ia : List Ex) (b : List Sx) | whl (c : Ex) (b : List Sx)
  | rse (c : Nat) (es : List Ex)
  | tr (b : List Sx) (c : Nat) (i : Nat) (su : List Nat)
  | die
/-- where control goes on -/
inductive Fl where | nx (σ : Env) | rt (d : D) | bk (σ : Env) | ct (σ : Env) | xc (σ : Env) (c : Nat) (dd : List D)
/-- an expression's end within a statement -/
def R.cat {α : Type} (r : R α) (σ : Env) (f : α → Store → R Fl) : R Fl := match r with
  | .ok a S => f a S | .ex c dd S => .ok (.xc σ c dd) S | .bad => .bad

/-- the calls: of a def, of a class, and which def a method of a class is; sb: is the first class the second or below it -/
structure Cxt where
  call : Nat → List D → Store → R D
  mak : Nat → List D → Store → R D
  um : Nat → Nat → Option Nat
  sb : Nat → Nat → Bool
  at_ : Nat → Nat → Bool
  ic : Nat → Bool
  rs : Nat → Bool
  xi : Nat → Bool
  xa : Nat → Nat → Bool
  lv : Bool
  eq : Nat → Option Nat
  cj : Nat → List D → Store → R D

def updS (S : Store) (n : Nat) (o : O) : Store := S.set n o

def biE (S : Store) : Bi → T → Option T
  | .len, t => match t with
    | .v (.str x) => if x.length ≤ sizeLine then some (.v (.int x.length)) else none
    | t => match seqR S t with
      | some ds => some (.v (.int ds.length))
      | none => match objW S t with
        | some (.dK kvs) => some (.v (.int kvs.length))
        | _ => none
  | .all, t => (lstR S t).bind fun ds => (blsOf ds).map fun bs => .v (.bl (bs.all id))
  | .any, t => (lstR S t).bind fun ds => (blsOf ds).map fun bs => .v (.bl (bs.any id))
  | .tuple, t => (seqR S t).map fun ds => .v (.tup ds)
  | .list, t => (seqR S t).map fun ds => .t (.lst ds)
  | .int, t => match t with
    | .v (.int i) => some (.v (.int i))
    | .v (.bl b) => some (.v (.int (if b then 1 else 0)))
    | _ => none
  | .abs, t => (intO t).map fun i => .v (.int (if i < 0 then -i else i))
  | .sorted, t => (lstR S t).bind fun ds => (sortD ds).map fun rs => .t (.lst rs)
  | .sum, t => (lstR S t).bind fun ds => (intsOf ds).map fun is => .v (.int is.sum)
  | .str, t => match t with
    | .v (.int i) => if i.natAbs.log2 < 1920 then some (.v (.str (toString i))) else none
    | _ => none
  | .bool, t => match t with
    | .v (.int i) => some (.v (.bl (i != 0)))
    | .v (.bl b) => some (.v (.bl b))
    | _ => none
  | _, _ => none
def meOk (S : Store) : Me → T → Bool
  | .append, t => (lstW S t).isSome
  | .pop, t => (lstW S t).isSome
  | .reverse, t => (lstW S t).isSome
  | _, _ => false
def meE (S : Store) : Me → T → List D → R T
  | .append, .v (.ref n), [d] => match S[n]? with
    | some (.lst ds) => if ds.length < sizeLine then .ok (.v .non) (S.set n (.lst (ds ++ [d]))) else .bad
    | _ => .bad
  | .pop, .v (.ref n), [] => match S[n]? with
    | some (.lst ds) => match ds[ds.length - 1]? with
      | some d => .ok (.v d) (S.set n (.lst ds.dropLast))
      | none => .bad
    | _ => .bad
  | .reverse, .v (.ref n), [] => match S[n]? with
    | some (.lst ds) => .ok (.v .non) (S.set n (.lst ds.reverse))
    | _ => .bad
  | _, _, _ => .bad
def idxE (S : Store) : T → T → Option D
  | .v (.str x), .v (.int i) => if x.length ≤ sizeLine then (atI x.cps.toList i).map fun c => .str ⟨#[c]⟩ else none
  | a, .v (.int i) => match seqR S a with
    | some ds => atI ds i
    | none => match objR S a with
      | some (.dK kvs) => valK (Sum.inl i : Key) kvs
      | _ => none
  | a, .v (.str x) => match objR S a with
    | some (.dK kvs) => valK (Sum.inr x : Key) kvs
    | _ => none
  | _, _ => none
def slcE (S : Store) (a : T) (lo hi : Option Int) : Option T := match a with
  | .v (.tup ds) => some (.v (.tup (cut ds lo hi)))
  | .v (.str _) => none
  | t => (lstR S t).map fun ds => .t (.lst (cut ds lo hi))
/-- from behind -/
def bkE (S : Store) : T → Option T
  | .v (.tup ds) => some (.v (.tup ds.reverse))
  | t => (lstR S t).map fun ds => .t (.lst ds.reverse)
/-- its built-in type or its class is known -/
def knownT (cx : Cxt) (S : Store) (t : T) : Bool := (tyB S t).isSome || (match tyC S t with | some m => cx.ic m | none => false)
/-- == or != of an instance with its own __eq__: what is called, with what -/
def ownQ (cx : Cxt) (S : Store) (o : Cm) (a b : T) : Option (Nat × D × D) := if o = .eq ∨ o = .ne then (match a, b with
  | .v (.ref n), .v y => (match S[n]? with
    | some (.ins c _) => if knownT cx S (.v y) = true then (cx.eq c).map fun f => (f, .ref n, y) else none
    | _ => none)
  | _, _ => none) else none
def negB (o : Cm) (b : Bool) : Bool := if o = .ne then !b else b
def ownK (o : Cm) : D → Store → R T := fun d S => match d with | .bl r => .ok (.v (.bl (negB o r))) S | _ => .bad
def app (cx : Cxt) (S : Store) : Kd → List T → R T
  | .op o, [a, b] => ofO S (opE S o a b)
  | .neg, [t] => ofO S ((intO t).map fun i => .v (.int (-i)))
  | .cmp o, [a, b] => match ownQ cx S o a b with
    | some q => (cx.cj q.1 [q.2.1, q.2.2] S).nox.bind (ownK o)
    | none => ofO S ((cmpE S o a b).map fun c => .v (.bl c))
  | .idx, [a, i] => ofO S ((idxE S a i).map T.v)
  | .slc 0, [a] => ofO S (slcE S a none none)
  | .slc 1, [a, l] => ofO S ((intO l).bind fun i => slcE S a (some i) none)
  | .slc 2, [a, h] => ofO S ((intO h).bind fun j => slcE S a none (some j))
  | .isi t, [a] => match t with
    | .ve => match tyX S a with
      | some m => if cx.xi m = true then .ok (.v (.bl (cx.sb m 1000))) S else .bad
      | none => .bad
    | .b s => match tyB S a with
      | some u => ofO S ((kitB u s).map fun c => .v (.bl c))
      | none => match tyC S a with
        | some m => if cx.ic m = true then .ok (.v (.bl false)) S else .bad
        | none => .bad
    | .c n => match tyC S a with
      | some m => if cx.ic m = true then .ok (.v (.bl (cx.sb m n))) S else .bad
      | none => match tyX S a with
        | some m => if cx.xi m = true then .ok (.v (.bl (cx.sb m n))) S else .bad
        | none => match tyB S a with
          | some _ => .ok (.v (.bl false)) S
          | none => .bad
  | .bi b, [t] => ofO S (biE S b t)
  | .max2, [.v (.int i), .v (.int j)] => .ok (.v (.int (if j > i then j else i))) S
  | .min2, [.v (.int i), .v (.int j)] => .ok (.v (.int (if j < i then j else i))) S
  | .fld f, [t] => match objW S t with
    | some (.ins c fs) => if cx.at_ c f = true then ofO S ((fs.lookup f).map T.v) else .bad
    | some (.exn c fs) => if cx.xa c f = true then ofO S ((fs.lookup f).map T.v) else .bad
    | _ => .bad
  | .dct, [] => .ok (.t (.dK [])) S
  | .bk, [t] => ofO S (bkE S t)
  | _, _ => .bad

def appA (cx : Cxt) (S : Store) : Ka → List D → R T
  | .tup, ds => if ds.length ≤ sizeLine then .ok (.v (.tup ds)) S else .bad
  | .lst, ds => if ds.length ≤ sizeLine then .ok (.t (.lst ds)) S else .bad
  | .call f, ds => (cx.call f ds S).bind fun d S' => .ok (.v d) S'
  | .mk c, ds => (cx.mak c ds S).bind fun d S' => .ok (.v d) S'
  | .mkx c none, [] => if cx.lv = true then .ok (.v (.ref S.length)) (S ++ [.exn c []]) else .bad
  | .mkx c (some f), [d] => if cx.lv = true then .ok (.v (.ref S.length)) (S ++ [.exn c [(f, d)]]) else .bad
  | .mkx _ _, _ => .bad

mutual
def bindT : Tg → D → Env → Option Env
  | .var i, d, σ => if i < σ.length then some (σ.set i (some d)) else none
  | .tup ts, d, σ => match d with
    | .tup ds => bindTs ts ds σ
    | _ => none
def bindTs : List Tg → List D → Env → Option Env
  | [], [], σ => some σ
  | t :: ts, d :: ds, σ => (bindT t d σ).bind fun σ' => bindTs ts ds σ'
  | _, _, _ => none
end
def wipeE (σ : Env) : List Nat → Env
  | [] => σ
  | i :: r => (wipeE σ r).set i none

/-- what a for goes through, and what must stay as it is meanwhile -/
def iterOf (S : Store) : Ik → List T → Option (List D × (Store → Bool))
  | .seq, [.v (.tup ds)] => some (ds, fun _ => true)
  | .seq, [.v (.ref n)] => (lstR S (.v (.ref n))).map fun ds => (ds, fun S' => decide (S'[n]? = S[n]?))
  | .seq, [.t (.lst ds)] => some (ds, fun _ => true)
  | .rng, [.v (.int j)] => if -(2 ^ 62) ≤ j ∧ j ≤ 16777216 then some ((List.range j.toNat).map fun (i : Nat) => .int (0 + (i : Int)), fun _ => true) else none
  | .rng, [.v (.int i), .v (.int j)] => if -(2 ^ 62) ≤ i ∧ i < 2 ^ 62 ∧ -(2 ^ 62) ≤ j ∧ j < 2 ^ 62 ∧ j - i ≤ 16777216 then some ((List.range (j - i).toNat).map fun (m : Nat) => .int (i + (m : Int)), fun _ => true) else none
  | .rng, [.v (.int i), .v (.int j), .v (.int c)] => if -(2 ^ 62) ≤ i ∧ i < 2 ^ 62 ∧ -(2 ^ 62) ≤ j ∧ j < 2 ^ 62 ∧ c = -1 ∧ i - j ≤ 16777216 then some ((List.range (i - j).toNat).map fun (m : Nat) => .int (i + (m : Int) * c), fun _ => true) else none
  | .enum, [t] => match t with
    | .v (.tup ds) => some (ds.mapIdx fun i d => .tup [.int (i : Int), d], fun _ => true)
    | .v (.ref n) => (lstR S (.v (.ref n))).map fun ds => (ds.mapIdx fun i d => .tup [.int (i : Int), d], fun S' => decide (S'[n]? = S[n]?))
    | .t (.lst ds) => some (ds.mapIdx fun i d => .tup [.int (i : Int), d], fun _ => true)
    | _ => none
  | _, _ => none

def lcL (bnd : D → Env → Option Env) (tst : Env → Store → R Bool) (el : Env → Store → R D) (gd : Store → Bool) (σ : Env) : List D → Store → R (List D)
  | [], S => if gd S = true then .ok [] S else .bad
  | d :: ds, S => if gd S = true then match bnd d σ with
      | none => .bad
      | some σ' => (tst σ' S).bind fun b S1 => if b = true then (el σ' S1).bind fun y S2 => (lcL bnd tst el gd σ ds S2).map (y :: ·) else lcL bnd tst el gd σ ds S1
    else .bad
def frL (bnd : D → Env → Option Env) (body : Env → Store → R Fl) (gd : Store → Bool) : List D → Env → Store → R Fl
  | [], σ, S => if gd S = true then .ok (.nx σ) S else .bad
  | d :: ds, σ, S => if gd S = true then match bnd d σ with
      | none => .bad
      | some σ' => (body σ' S).bind fun f S1 => match f with
        | .nx σ2 => frL bnd body gd ds σ2 S1
        | .ct σ2 => frL bnd body gd ds σ2 S1
        | .bk σ2 => .ok (.nx σ2) S1
        | .rt d => .ok (.rt d) S1
        | .xc σ2 c dd => .ok (.xc σ2 c dd) S1
    else .bad
def whN (c : Env → Store → R Bool) (body : Env → Store → R Fl) : Nat → Env → Store → Option (R Fl)
  | 0, _, _ => none
  | n + 1, σ, S => match c σ S with
    | .ok true S1 => match body σ S1 with
      | .ok (.nx σ2) S2 => whN c body n σ2 S2
      | .ok (.ct σ2) S2 => whN c body n σ2 S2
      | .ok (.bk σ2) S2 => some (.ok (.nx σ2) S2)
      | r => some r
    | .ok false S1 => some (.ok (.nx σ) S1)
    | .ex c dd S1 => some (.ok (.xc σ c dd) S1)
    | .bad => some .bad
open Classical in
noncomputable def whE (c : Env → Store → R Bool) (body : Env → Store → R Fl) (σ : Env) (S : Store) : R Fl :=
  if h : ∃ n r, whN c body n σ S = some r then h.choose_spec.choose else .bad

structure Den where
  e : Env → Store → R T
  b : Env → Store → R Bool
def Den.of (f : Env → Store → R T) : Den := ⟨f, fun σ S => (f σ S).bind fun t S' => ofO S' (truth S' t)⟩
mutual
def den (cx : Cxt) : Ex → Den
  | .var i => .of fun σ S => ofO S ((σ[i]?.join).map T.v)
  | .cst d => .of fun σ S => .ok (.v d) S
  | .nd k es => .of fun σ S => (dens cx es σ S).bind fun ts S' => app cx S' k ts
  | .na k es => .of fun σ S => (ded cx es σ S).bind fun ds S' => appA cx S' k ds
  | .and a b => ⟨fun σ S => ((den cx a).e σ S).bind fun t S' => match t with
      | .v (.bl true) => (den cx b).e σ S'
      | .v (.bl false) => .ok (.v (.bl false)) S'
      | _ => .bad,
    fun σ S => ((den cx a).b σ S).bind fun c S' => if c = true then (den cx b).b σ S' else .ok false S'⟩
  | .or a b => ⟨fun σ S => ((den cx a).e σ S).bind fun t S' => match t with
      | .v (.bl false) => (den cx b).e σ S'
      | .v (.bl true) => .ok (.v (.bl true)) S'
      | _ => .bad,
    fun σ S => ((den cx a).b σ S).bind fun c S' => if c = true then .ok true S' else (den cx b).b σ S'⟩
  | .not a => ⟨fun σ S => ((den cx a).e σ S).bind fun t S' => match t with
      | .v (.bl c) => .ok (.v (.bl (!c))) S'
      | _ => .bad,
    fun σ S => ((den cx a).b σ S).bind fun c S' => .ok (!c) S'⟩
  | .ite c a b => ⟨fun σ S => ((den cx c).b σ S).bind fun x S' => if x = true then (den cx a).e σ S' else (den cx b).e σ S',
    fun σ S => ((den cx c).b σ S).bind fun x S' => if x = true then (den cx a).b σ S' else (den cx b).b σ S'⟩
  | .ch o o' a b c => .of fun σ S => ((den cx a).e σ S).bind fun x S1 => ((den cx b).e σ S1).bind fun y S2 => (ofO S2 (cmpE S2 o x y)).bind fun r S3 =>
      if r = true then ((den cx c).e σ S3).bind fun z S4 => ofO S4 ((cmpE S4 o' y z).map fun q => .v (.bl q)) else .ok (.v (.bl false)) S3
  | .lc t ik ia cs el own => .of fun σ S => (dens cx ia σ S).bind fun ts S' => match iterOf S' ik ts with
      | none => .bad
      | some p => (lcL (bindT t) (dent cx cs) (fun σ S => ((den cx el).e σ S).alloc) p.2 (wipeE σ own) p.1 S').nox.bind fun ds S2 => .ok (.t (.lst ds)) S2
  | .sl a l h => .of fun σ S => ((den cx a).e σ S).bind fun x S1 => ((den cx l).e σ S1).bind fun y S2 => match intO y with
      | none => .bad
      | some i => ((den cx h).e σ S2).bind fun z S3 => ofO S3 ((intO z).bind fun j => slcE S3 x (some i) (some j))
  | .meth m o es => .of fun σ S => ((den cx o).e σ S).bind fun t S1 => if meOk S1 m t = true then (ded cx es σ S1).bind fun ds S2 => meE S2 m t ds else .bad
  | .um m o es => .of fun σ S => ((den cx o).e σ S).bind fun t S1 => match t with
      | .v (.ref n) => match tyC S1 (.v (.ref n)) with
        | some c => match cx.um m c with
          | some f => (ded cx es σ S1).bind fun ds S2 => (cx.call f (.ref n :: ds) S2).bind fun d S3 => .ok (.v d) S3
          | none => .bad
        | none => .bad
      | _ => .bad
def dens (cx : Cxt) : List Ex → Env → Store → R (List T)
  | [], _, S => .ok [] S
  | e :: es, σ, S => ((den cx e).e σ S).bind fun t S1 => (dens cx es σ S1).bind fun ts S2 => .ok (t :: ts) S2
def ded (cx : Cxt) : List Ex → Env → Store → R (List D)
  | [], _, S => .ok [] S
  | e :: es, σ, S => ((den cx e).e σ S).alloc.bind fun d S1 => (ded cx es σ S1).bind fun ds S2 => .ok (d :: ds) S2
def dent (cx : Cxt) : List Ex → Env → Store → R Bool
  | [], _, S => .ok true S
  | c :: _, σ, S => (den cx c).b σ S
end

def putN (f : Nat) (v : D) : List (Nat × D) → List (Nat × D)
  | [] => [(f, v)]
  | (g, x) :: r => if g = f then (g, v) :: r else (g, x) :: putN f v r
def lstT (S : Store) : T → Option (List D)
  | .v (.tup _) => none
  | t => lstR S t
mutual
noncomputable def exS (cx : Cxt) : Sx → Env → Store → R Fl
  | .set t e => fun σ S => ((den cx e).e σ S).cat σ fun v S1 => match t with
      | .var i => if i < σ.length then .ok (.nx (σ.set i (some (alloc v S1).1))) (alloc v S1).2 else .bad
      | .tup ts => match v with
        | .v (.tup ds) => (ofO S1 (bindTs ts ds σ)).map Fl.nx
        | v => (ofO S1 ((lstR S1 v).bind fun ds => bindTs ts ds σ)).map Fl.nx
  | .par is es => fun σ S => (ded cx es σ S).cat σ fun ds S1 => (ofO S1 (bindTs (is.map Tg.var) ds σ)).map Fl.nx
  | .sub o i e => fun σ S => ((den cx e).e σ S).alloc.cat σ fun v S1 => ((den cx o).e σ S1).cat σ fun ov S2 => ((den cx i).e σ S2).cat σ fun iv S3 => match ov, iv with
      | .v (.ref n), .v (.int k) => match S3[n]? with
        | some (.lst ds) => match ixN ds.length k with
          | some j => .ok (.nx σ) (S3.set n (.lst (ds.set j v)))
          | none => .bad
        | _ => .bad
      | _, _ => .bad
  | .fldS o f e => fun σ S => ((den cx e).e σ S).alloc.cat σ fun v S1 => ((den cx o).e σ S1).cat σ fun ov S2 => match ov with
      | .v (.ref n) => match S2[n]? with
        | some (.ins c fs) => if cx.at_ c f = true ∧ fs.length < 1000 then .ok (.nx σ) (S2.set n (.ins c (putN f v fs))) else .bad
        | _ => .bad
      | _ => .bad
  | .aug i o e => fun σ S => match σ[i]?.join with
      | some (.int x) => ((den cx e).e σ S).cat σ fun v S1 => match v with
        | .v (.int y) => match opI o x y with
          | some z => if o = .add ∨ o = .sub then .ok (.nx (σ.set i (some (.int z)))) S1 else .bad
          | none => .bad
        | _ => .bad
      | _ => .bad
  | .ex e => fun σ S => ((den cx e).e σ S).cat σ fun _ S1 => .ok (.nx σ) S1
  | .ret e => fun σ S => ((den cx e).e σ S).alloc.cat σ fun d S1 => .ok (.rt d) S1
  | .retN => fun _ S => .ok (.rt .non) S
  | .nop => fun σ S => .ok (.nx σ) S
  | .brk => fun σ S => .ok (.bk σ) S
  | .cnt => fun σ S => .ok (.ct σ) S
  | .ite c a b => fun σ S => ((den cx c).b σ S).cat σ fun x S1 => if x = true then exSs cx a σ S1 else exSs cx b σ S1
  | .fr t ik ia b => fun σ S => (dens cx ia σ S).cat σ fun ts S1 => match iterOf S1 ik ts with
      | none => .bad
      | some p => frL (bindT t) (exSs cx b) p.2 p.1 σ S1
  | .whl c b => fun σ S => whE (fun σ S => (den cx c).b σ S) (exSs cx b) σ S
  | .rse c es => fun σ S => if cx.rs c = true then (ded cx es σ S).cat σ fun ds S1 => .ok (.xc σ c ds) S1 else .bad
  | .tr b c i su => fun σ S => match exSs cx b σ S with
      | .ok (.xc σ1 k dd) S1 => if cx.rs k = false ∨ cx.xi c = false ∨ σ1.length ≤ i then .bad else if cx.sb k c = true then .ok (.rt (.bl (su.all fun m => cx.sb k m))) S1 else .ok (.xc σ1 k dd) S1
      | r => r
  | .die => fun _ _ => .bad
noncomputable def exSs (cx : Cxt) : List Sx → Env → Store → R Fl
  | [] => fun σ S => .ok (.nx σ) S
  | s :: r => fun σ S => (exS cx s σ S).bind fun f S1 => match f with
      | .nx σ1 => exSs cx r σ1 S1
      | f => .ok f S1
end

/-! ### calls, garbage -/
mutual
def noRef (n : Nat) : D → Bool
  | .ref m => decide (m < n)
  | .tup ds => noRefs n ds
  | _ => true
def noRefs (n : Nat) : List D → Bool
  | [] => true
  | d :: ds => noRef n d && noRefs n ds
end
/-- what a call made and nobody holds is forgotten, if it changed nothing that stood -/
def gc (S : Store) (d : D) (S' : Store) : Store := if S'.take S.length = S ∧ noRef S.length d = true then S else S'
def gcX (S : Store) (dd : List D) (S' : Store) : Store := if S'.take S.length = S ∧ noRefs S.length dd = true then S else S'
structure Fd where
  ps : Nat
  ns : Nat
  body : List Sx
structure Tb where
  fs : List Fd
  ini : Nat → Option Nat
  um : Nat → Nat → Option Nat
  sb : Nat → Nat → Bool
  at_ : Nat → Nat → Bool
  ic : Nat → Bool
  rs : Nat → Bool
  xi : Nat → Bool
  xa : Nat → Nat → Bool
  eq : Nat → Option Nat
def mkE (call : Nat → List D → Store → R D) (ini : Nat → Option Nat) (c : Nat) (ds : List D) (S : Store) : R D := match ini c with
  | none => .bad
  | some f => (call f (.ref S.length :: ds) (S ++ [.ins c []])).bind fun d S1 => if d = .non then .ok (.ref S.length) S1 else .bad
def finE (S : Store) : R Fl → R D
  | .ok (.rt d) S1 => .ok d (gc S d S1)
  | .ok (.nx _) S1 => .ok .non (gc S .non S1)
  | .ok (.xc _ c dd) S1 => .ex c dd (gcX S dd S1)
  | _ => .bad
def badC : Nat → List D → Store → R D := fun _ _ _ => .bad
/-- one call: its inner calls by c, the __init__ of what it makes by j -/
noncomputable def stepK (tb : Tb) (k : Nat) (c j : Nat → List D → Store → R D) (f : Nat) (ds : List D) (S : Store) : R D := match tb.fs[f]? with
  | none => .bad
  | some fd => if ds.length = fd.ps then finE S (exSs ⟨c, mkE j tb.ini, tb.um, tb.sb, tb.at_, tb.ic, tb.rs, tb.xi, tb.xa, decide (2 ≤ k), tb.eq, j⟩ fd.body (ds.map some ++ List.replicate (fd.ns - ds.length) none) S) else .bad
noncomputable def runP (tb : Tb) : Nat → (Nat → List D → Store → R D) × (Nat → List D → Store → R D)
  | 0 => (badC, badC)
  | k + 1 => (stepK tb k (runP tb k).1 (runP tb k).2, (runP tb k).1)
noncomputable def runK (tb : Tb) (k : Nat) : Nat → List D → Store → R D := (runP tb k).1
noncomputable def runJ (tb : Tb) (k : Nat) : Nat → List D → Store → R D := (runP tb k).2
theorem runK_zero (tb : Tb) : runK tb 0 = badC := rfl
theorem runJ_zero (tb : Tb) : runJ tb 0 = badC := rfl
theorem runK_succ (tb : Tb) (k : Nat) : runK tb (k + 1) = stepK tb k (runK tb k) (runJ tb k) := rfl
theorem runJ_succ (tb : Tb) (k : Nat) : runJ tb (k + 1) = runK tb k := rfl
end Ev
set_option Elab.async false
set_option linter.all false
set_option maxRecDepth 100000
/-! Ev, part C: from PySem's trees to Ex and Sx. -/
namespace Ev
open PySem L2

/-- the names of the text: defs, classes, constants of the module, attributes, own methods -/
structure Tab where
  funs : List (Str × Nat)
  clss : List (Str × Nat)
  csts : List (Str × D)
  flds : List Str
  meths : List Str
  exs : List (Str × Nat × Option Nat)
def visC (sc : Scope) (x : Str) : Bool := match sc.names.lookup x with
  | some .local => true | some .cell => true | some .free => true | _ => false
def locC (sc : Scope) (x : Str) : Bool := match sc.names.lookup x with
  | some .local => true | some .cell => true | _ => false
def glC (sc : Scope) (x : Str) : Bool := decide (sc.names.lookup x = some .globalImplicit)
def okN (x : Str) : Bool := !(x == ("__debug__" : Str)) && !(x == ("__classdict__" : Str)) && !decide (x = ("__name__" : Str))
def slot (N : List Str) (x : Str) : Option Nat := match N.findIdx? (fun y => y == x) with
  | some i => if N[i]? = some x then some i else none
  | none => none
theorem slot_at {N : List Str} {x : Str} {i : Nat} (h : slot N x = some i) : N[i]? = some x := by
  unfold slot at h
  split at h
  · split at h
    · cases h; assumption
    · cases h
  · cases h
def binC : Operator → Option Op2
  | .Add => some .add | .Sub => some .sub | .Mult => some .mul | .FloorDiv => some .fdiv | .Mod => some .mod | .Pow => some .pow | .BitXor => some .xor
  | .LShift => some .shl | .RShift => some .shr | .BitAnd => some .band | .BitOr => some .bor | _ => none
def cmpC : CmpOp → Option Cm
  | .Lt => some .lt | .LtE => some .le | .Gt => some .gt | .GtE => some .ge | .Eq => some .eq | .NotEq => some .ne | .In => some .mem | .NotIn => some .nmem | .Is => some .is | .IsNot => some .nis
def isComp : Expr → Bool
  | .ListComp .. => true | .SetComp .. => true | .DictComp .. => true | _ => false
def isSet : Expr → Bool | .Set .. => true | _ => false
def isStar : Expr → Bool | .Starred .. => true | _ => false
def isSlice : Expr → Bool | .Slice .. => true | _ => false
def isCall0 : Expr → Bool | .Call (.Name ..) [] [] _ => true | _ => false
def isTup : Expr → Bool | .Tuple .. => true | _ => false
def plainT : Expr → Bool
  | .UnaryOp .Not _ _ => false | .BoolOp .. => false | .IfExp .. => false | .Compare .. => false | _ => true
def bi1 : List (Str × Bi) := [("len", .len), ("all", .all), ("any", .any), ("tuple", .tuple), ("list", .list), ("int", .int), ("abs", .abs), ("sorted", .sorted), ("sum", .sum), ("bool", .bool), ("str", .str)]
/-- the built-in classes that isinstance is asked for -/
def tyN (x : Str) : Option String := if x = "int" then some "int" else if x = "bool" then some "bool" else if x = "str" then some "str" else if x = "tuple" then some "tuple" else if x = "list" then some "list" else if x = "dict" then some "dict" else none
def me0 (x : Str) : Option Me := if x = "pop" then some .pop else if x = "reverse" then some .reverse else none
def me1 (x : Str) : Option Me := if x = "append" then some .append else none
/-- the list of all that is a built-in's name here -/
def bltns : List Str := ["len", "all", "any", "tuple", "list", "int", "abs", "sorted", "sum", "bool", "isinstance", "str", "dict", "max", "min", "range", "enumerate", "zip", "reversed"]
mutual
def cTg (N : List Str) (sc : Scope) : Nat → Expr → Option Tg
  | 0, _ => none
  | n + 1, e => match e with
    | .Name x _ => if locC sc x = true then (slot N x).map .var else none
    | .Tuple es _ _ => (cTgs N sc n es).map .tup
    | _ => none
def cTgs (N : List Str) (sc : Scope) : Nat → List Expr → Option (List Tg)
  | 0, _ => none
  | _ + 1, [] => some []
  | n + 1, e :: es => if isStar e = true then none else (cTg N sc n e).bind fun t => (cTgs N sc n es).map (t :: ·)
end
mutual
def tgS : Tg → List Nat
  | .var i => [i]
  | .tup ts => tgSs ts
def tgSs : List Tg → List Nat
  | [] => []
  | t :: ts => tgS t ++ tgSs ts
end
def ownOf (N : List Str) (scope : Scope) : List (Str × Nat) := scope.names.filterMap fun y => match y.2 with
  | .local => (slot N y.1).map fun i => (y.1, i)
  | .cell => (slot N y.1).map fun i => (y.1, i)
  | _ => none
def seqM {α β : Type} (f : α → Option β) : List α → Option (List β)
  | [] => some []
  | a :: as => (f a).bind fun b => (seqM f as).map (b :: ·)
section
variable (T : Tab) (N : List Str)
/-- what a loop or a comprehension goes through: its kind and its parts -/
def cIt (c : Expr → Option Ex) (sc : Scope) (e : Expr) : Option (Ik × List Ex) := match e with
  | .Call (.Name f _) args [] _ =>
    if (glC sc f && okN f && (T.funs.lookup f).isNone && (T.clss.lookup f).isNone && !args.any isStar) = true then
      (if f = "range" then (match args with
        | [a] => (c a).map fun x => (.rng, [x])
        | [a, b] => (c a).bind fun x => (c b).map fun y => (.rng, [x, y])
        | [a, b, d] => (c a).bind fun x => (c b).bind fun y => (c d).map fun z => (.rng, [x, y, z])
        | _ => none)
      else (c e).map fun x => (.seq, [x]))
    else (c e).map fun x => (.seq, [x])
  | e => (c e).map fun x => (.seq, [x])
def cE : Nat → Scope → Expr → Option Ex
  | 0, _, _ => none
  | n + 1, sc, e => match e with
    | .Constant c _ _ => match c with
      | .none => some (.cst .non) | .bool b => some (.cst (.bl b)) | .int i => some (.cst (.int i)) | .str x => some (.cst (.str x)) | _ => none
    | .Name x _ => if okN x = true then (if visC sc x = true then (slot N x).map .var else if glC sc x = true then (T.csts.lookup x).map .cst else none) else none
    | .BinOp a o b _ => (binC o).bind fun o' => (cE n sc a).bind fun a' => (cE n sc b).map fun b' => .nd (.op o') [a', b']
    | .UnaryOp o a _ => match o with
      | .Not => (cE n sc a).map .not
      | .USub => (cE n sc a).map fun a' => .nd .neg [a']
      | _ => none
    | .BoolOp o es pos => match o, es with
      | _, [] => none
      | _, [a] => cE n sc a
      | .And, a :: b :: r => (cE n sc a).bind fun a' => (cE n sc (.BoolOp .And (b :: r) pos)).map fun b' => .and a' b'
      | .Or, a :: b :: r => (cE n sc a).bind fun a' => (cE n sc (.BoolOp .Or (b :: r) pos)).map fun b' => .or a' b'
    | .IfExp c a b _ => (cE n sc c).bind fun c' => (cE n sc a).bind fun a' => (cE n sc b).map fun b' => .ite c' a' b'
    | .Compare a os es _ => match os, es with
      | [o], [b] => if isSet b = true then none else (cmpC o).bind fun o' => (cE n sc a).bind fun a' => (cE n sc b).map fun b' => .nd (.cmp o') [a', b']
      | [o, q], [b, c] => if isSet c = true then none else (cmpC o).bind fun o' => (cmpC q).bind fun q' => (cE n sc a).bind fun a' => (cE n sc b).bind fun b' => (cE n sc c).map fun c' => .ch o' q' a' b' c'
      | _, _ => none
    | .Tuple es _ _ => if es.any isStar = true then none else (seqM (cE n sc) es).map fun es' => .na .tup es'
    | .List es _ => if es.any isStar = true then none else (seqM (cE n sc) es).map fun es' => .na .lst es'
    | .Dict ks vs _ => match ks, vs with
      | [], [] => some (.nd .dct [])
      | _, _ => none
    | .Subscript a i _ => match i with
      | .Slice lo hi st _ => match lo, hi, st with
        | some l, some h, none => (cE n sc a).bind fun a' => (cE n sc l).bind fun l' => (cE n sc h).map fun h' => .sl a' l' h'
        | some l, none, none => (cE n sc a).bind fun a' => (cE n sc l).map fun l' => .nd (.slc 1) [a', l']
        | none, some h, none => (cE n sc a).bind fun a' => (cE n sc h).map fun h' => .nd (.slc 2) [a', h']
        | none, none, none => (cE n sc a).map fun a' => .nd (.slc 0) [a']
        | none, none, some (.UnaryOp .USub (.Constant (.int 1) _ _) _) => (cE n sc a).map fun a' => .nd .bk [a']
        | _, _, _ => none
      | i => (cE n sc a).bind fun a' => (cE n sc i).map fun i' => .nd .idx [a', i']
    | .Attribute o f _ => if isCall0 o = true then none else match T.flds.findIdx? (fun g => g == f) with
      | some j => if T.flds[j]? = some f then (cE n sc o).map fun o' => .nd (.fld j) [o'] else none
      | none => none
    | .ListComp el gs scope _ => match gs with
      | [⟨tg, iter, ifs, 0⟩] => if (blkC N sc scope (ownOf N scope) && !isSet iter && decide (ifs.length ≤ 1)) = true then
          (cTg N scope 9 tg).bind fun t => if ((tgS t).all fun i => ((ownOf N scope).map (·.2)).contains i) = false then none else (cIt T (cE n sc) sc iter).bind fun p => (seqM (cE n (relS scope sc)) ifs).bind fun cs => (cE n (relS scope sc) el).map fun e' => .lc t p.1 p.2 cs e' ((ownOf N scope).map (·.2))
        else none
      | _ => none
    | .Call f args kws cpos => if (!kws.isEmpty || args.any isStar) = true then none else match f with
      | .Name g _ => if (glC sc g && okN g) = true then (match T.exs.lookup g with
        | some (i, none) => if args.isEmpty = true then some (.na (.mkx i none) []) else none
        | some (i, some f) => (match args with
          | [a] => (cE n sc a).map fun a' => .na (.mkx i (some f)) [a']
          | _ => none)
        | none => match T.funs.lookup g with
        | some i => if args.isEmpty = true then none else (seqM (cE n sc) args).map fun es => .na (.call i) es
        | none => match T.clss.lookup g with
          | some i => if args.isEmpty = true then none else (seqM (cE n sc) args).map fun es => .na (.mk i) es
          | none => match args with
            | [a] => match bi1.lookup g with
              | some b => (cE n sc a).map fun a' => .nd (.bi b) [a']
              | none => none
            | [a, b] => if g = "isinstance" then (match b with
                | .Name t _ => if (glC sc t && okN t) = true then (match T.clss.lookup t with
                    | some i => (cE n sc a).map fun a' => .nd (.isi (.c i)) [a']
                    | none => if t = "ValueError" then (cE n sc a).map fun a' => .nd (.isi .ve) [a'] else if (T.funs.lookup t).isNone = true then (tyN t).bind fun s => (cE n sc a).map fun a' => .nd (.isi (.b s)) [a'] else none) else none
                | _ => none)
              else if g = "max" then (cE n sc a).bind fun a' => (cE n sc b).map fun b' => .nd .max2 [a', b']
              else if g = "min" then (cE n sc a).bind fun a' => (cE n sc b).map fun b' => .nd .min2 [a', b']
              else none
            | _ => none) else none
      | .Attribute o m apos => if (isCall0 o || !(apos.endLine == cpos.line) || decide (30 ≤ args.length + 1)) = true then none else match T.meths.findIdx? (fun g => g == m) with
        | some j => none
        | none => match args with
          | [] => (me0 m).bind fun k => (cE n sc o).map fun o' => .meth k o' []
          | [a] => (me1 m).bind fun k => (cE n sc o).bind fun o' => (cE n sc a).map fun a' => .meth k o' [a']
          | _ => none
      | _ => none
    | _ => none
/-- one question of an except suite -/
def cSi (sc : Scope) (n : Str) (e : Expr) : Option Nat := match e with
  | .Call (.Name f _) [.Name y _, .Name t _] [] _ => if (f == "isinstance" && glC sc f && y == n && glC sc t && okN t) = true then (match T.clss.lookup t with
      | some i => some i
      | none => if (T.funs.lookup t).isNone = true ∧ t = "ValueError" then some 1000 else none) else none
  | _ => none
/-- an except suite: return isinstance(e, A) [and isinstance(e, B)] -/
def cSu (sc : Scope) (n : Str) (su : Stmt) : Option (List Nat) := match su with
  | .Return (some (.BoolOp .And [a, b] _)) _ => (cSi T sc n a).bind fun i => (cSi T sc n b).map fun j => [i, j]
  | .Return (some e) _ => (cSi T sc n e).map fun i => [i]
  | _ => none
/-- what is not understood must not be reached -/
def cD (c : Stmt → Option Sx) (s : Stmt) : Option Sx := some ((c s).getD .die)
def cS : Nat → Scope → Stmt → Option Sx
  | 0, _, _ => none
  | n' + 1, sc, st => match st with
    | .Assign tgs e pos => match tgs with
      | [tg] => match tg with
        | .Name x py => if locC sc x = true then (slot N x).bind fun i =>
            (match e with
              | .ListComp el gs scope p => if (decide (sc.names.lookup x = some .local) && decide (sc.kind = .function) && (py.line == p.line) && !(scope.names.any fun (m, k) => m == x && (k == .local || k == .cell))) = true then (cE T N 60 sc e).map fun e' => .set (.var i) e' else none
              | e => if isComp e = true then none else (cE T N 60 sc e).map fun e' => .set (.var i) e') else none
        | .Tuple ts k py => if isTup e = true then (match ts, e with
              | [.Name x px, .Name y py'], .Tuple [a, b] _ _ => if (decide (sc.names.lookup x = some .local) && decide (sc.names.lookup y = some .local) && decide (sc.kind = .function) && (px.line == py'.line) && !(x == y) && !isStar a && !isStar b && !foldedForSure 8 a && !constantsAlone 8 a) = true then
                  (slot N x).bind fun i => (slot N y).bind fun j => (cE T N 60 sc a).bind fun a' => (cE T N 60 sc b).map fun b' => .par [i, j] [a', b'] else none
              | _, _ => none)
            else if isComp e = true then none else (cTg N sc 9 tg).bind fun t => (cE T N 60 sc e).map fun e' => .set t e'
        | .Subscript o i _ => if (isComp e || isSlice i) = true then none else (cE T N 60 sc e).bind fun e' => (cE T N 60 sc o).bind fun o' => (cE T N 60 sc i).map fun i' => .sub o' i' e'
        | .Attribute o f _ => if (isComp e || isCall0 o) = true then none else match T.flds.findIdx? (fun g => g == f) with
          | some j => if T.flds[j]? = some f then (cE T N 60 sc e).bind fun e' => (cE T N 60 sc o).map fun o' => .fldS o' j e' else none
          | none => none
        | _ => none
      | _ => none
    | .AugAssign tg o e _ => match tg with
      | .Name x _ => if locC sc x = true then (slot N x).bind fun i => (binC o).bind fun o' => if o' = .add ∨ o' = .sub then (cE T N 60 sc e).map fun e' => .aug i o' e' else none else none
      | _ => none
    | .Expr e _ => match e with
      | .Constant (.str _) _ _ => some .nop
      | e => if isComp e = true then none else (cE T N 60 sc e).map .ex
    | .Return e _ => match e with
      | some e => (cE T N 60 sc e).map .ret
      | none => some .retN
    | .Pass _ => some .nop
    | .Break _ => some .brk
    | .Continue _ => some .cnt
    | .If c a b _ => (cE T N 60 sc c).bind fun c' => (seqM (cD (cS n' sc)) a).bind fun a' => (seqM (cD (cS n' sc)) b).map fun b' => .ite c' a' b'
    | .For tg iter b els _ => if (isSet iter || !els.isEmpty) = true then none else (cTg N sc 9 tg).bind fun t => (cIt T (cE T N 60 sc) sc iter).bind fun p => (seqM (cD (cS n' sc)) b).map fun b' => .fr t p.1 p.2 b'
    | .Raise e c _ => match e, c with
      | some (.Call (.Name x _) [] [] _), none => if (glC sc x && okN x) = true then (T.clss.lookup x).map fun c => .rse c [] else none
      | _, _ => none
    | .Try b hs els fin _ => match hs, els, fin with
      | [.ExceptHandler (some (.Name x _)) (some n) [su] _], [], [] => if (glC sc x && okN x && okN n && decide (sc.names.lookup n = some .local)) = true then (T.clss.lookup x).bind fun c => (slot N n).bind fun i => (cSu T sc n su).bind fun cs => (seqM (cD (cS n' sc)) b).map fun b' => .tr b' c i cs else none
      | _, _, _ => none
    | .While c b els _ => if (!els.isEmpty) = true then none else (cE T N 60 sc c).bind fun c' => (seqM (cD (cS n' sc)) b).map fun b' => .whl c' b'
    | _ => none
end
end Ev
set_option Elab.async false
set_option linter.all false
set_option maxRecDepth 100000
set_option autoImplicit false
set_option maxHeartbeats 4000000
/-! Ev, part X: exceptions held as values, with one attribute or none. -/
namespace Ev
open PySem L2 PySem.Spec PyProof.Rows
section
variable {X : Cx} {pins : List (Addr × Obj)} {σ : L2.St} {H : Hp} {s : Shared}
theorem exo_inst {a C : Addr} {dx : Option Addr} (I : Inv X pins σ H s) (e : H a = some (exo a C dx)) (hd : ∀ d, dx = some d → ∃ fs, H d = some (exd d fs)) : ∃ (oe : Obj) (od : Option Obj), PySem.W.InstAt s.heap a oe C od ∧ ∀ d fs, dx = some d → H d = some (exd d fs) → ∃ (o : Obj) (mA : Str → Option Value), od = some o ∧ s.heap.Ns1 d mA ∧ s.heap.get? d = some o ∧ ∀ f, RelO (fs.lookup f) (mA f) := by
  obtain ⟨t1, ho⟩ := exo_at I.hok e
  cases dx with
  | none => exact ⟨_, none, ⟨ho, rfl, rfl, trivial⟩, fun d fs z => by cases z⟩
  | some d =>
    obtain ⟨fs0, h0⟩ := hd d rfl
    obtain ⟨mA, hn, hr⟩ := exd_at I.hok h0
    obtain ⟨o, es, ep, h1, h2⟩ := id hn
    refine ⟨_, some o, ⟨ho, rfl, rfl, h1⟩, fun d' fs z h' => ?_⟩
    cases z
    obtain ⟨mB, hn', hr'⟩ := exd_at I.hok h'
    exact ⟨o, mB, rfl, hn', h1, hr'⟩
/-- isinstance(e, c) of such an exception -/
def rIsX (K : PySem.W.Frag) : List V → Hp → VK → Prop := fun xs H Q => ∃ (a C : Addr) (dx : Option Addr) (c : V) (cv : Value) (b : Bool), xs = [.ref a, c] ∧ H a = some (exo a C dx) ∧ (∀ d, dx = some d → ∃ fs, H d = some (exd d fs)) ∧ ExcC K C ∧ (∀ u, RelV c u → u = cv) ∧ PySem.W.kitOne K (.ref C) cv = some b ∧ Q (.bl b) H
theorem call_isX : CallR X (.builtin "isinstance") (rIsX X.K) := by
  intro pins s σ H xs us Q I r h
  obtain ⟨a, C, dx, c, cv, b, rfl, ha, hd, E, hcv, e, q⟩ := h
  cases r with
  | cons rx rr =>
    cases rr with
    | cons rt rr =>
      cases rr
      cases rx
      have ec := hcv _ rt
      subst ec
      obtain ⟨oe, od, J, _⟩ := exo_inst I ha hd
      obtain ⟨cdD, hcD, _⟩ := PySem.W.any_some E.hd
      exact PySem.W.kia_one (PySem.W.kitx_exc (by rw [hcD]; rfl) E.hg E.hk E.hs E.ha E.hn E.ht E.hm) I.kIn J e (fun z => nomatch z) fun tk => ⟨.bl b, H, I.kept (t' := tk) fun _ _ z => z, rfl, q⟩
/-- e.f of such an exception -/
def tXv (K : PySem.W.Frag) (f : Str) (te : TE) : TE := fun σ H Q => te σ H fun x H1 => ∃ (a C d : Addr) (fs : List (Str × V)) (v : V), x = .ref a ∧ H1 a = some (exo a C (some d)) ∧ H1 d = some (exd d fs) ∧ ExcC K C ∧ PySem.W.findIn K (.ref C) f = some none ∧ fs.lookup f = some v ∧ Q v H1
theorem pe_xv {e : Expr} {f : Str} {te : TE} {pos : Pos} (he : PE X e te) (hb : attributeBase e f X.env (eval e X.env) = eval e X.env) : PE X (.Attribute e f pos) (tXv X.K f te) := by
  refine ⟨fun pins s σ H Q I h => ?_⟩
  refine attr_of hb (thn (he.run pins s σ H _ I h) fun u s1 hh => ?_)
  obtain ⟨x, H1, I1, rx, a, C, d, fs, v, ex, ha, hd, E, hno, l, q⟩ := hh
  subst ex
  obtain rfl : u = Value.ref a := rx
  obtain ⟨oe, od, J, k⟩ := exo_inst I1 ha fun d' z => by cases z; exact ⟨fs, hd⟩
  obtain ⟨o, mA, rfl, hn, ho, hr⟩ := k d fs rfl hd
  obtain ⟨od', ho', hl⟩ := lookIn_ns hn
  rw [ho] at ho'
  cases ho'
  obtain ⟨u, hu, ru⟩ := RelO.some_of (v := v) (o := mA f) (by rw [← l]; exact hr f)
  exact HandSPX.exc_get I1.kIn J E.hg E.hk E.hs (PySem.W.findObj_own E.hd hno rfl (by rw [hl, hu])) (handed_of ru) ⟨v, H1, I1.tok _, ru, q⟩
/-- C(), C without own __init__ -/
theorem pe_ex0 {C : Addr} {bmB : List Value} {B newId initId : String} {x : Str} {p pos : Pos} (F : ExcBaseFacts B newId initId bmB) (q : PySem.W.excIn X.K C bmB newId = true) (gC : X.mg x = some (.ref C)) (kC : PySem.W.keepIn X.K (.ref C) = true) (hg : Gl X x)
    (hdb : (x == ("__debug__" : Str)) = false) : PE X (.Call (.Name x p) [] [] pos) (fun σ H Q => ∀ a, H a = none → Q (.ref a) (upd H a (exo a C none))) := by
  refine ⟨fun pins s σ H Q I h => ?_⟩
  refine wpAny_Call_Name_kw (ld_glob I hg gC ?_ hdb)
  refine PySem.W.callWith_K0 I.kIn kC ?_
  show wpAny _ _ (call (.ref C) []) _ _ _
  obtain ⟨bm, N, nm, qn, bs, hdct, sn, sub, ab, col, dd, k0, k1, k2, k3, k5, mN, hC, hN, hni, T⟩ := exc_obj I.kIn q
  refine wpAny_call_exc_subT F T hC hN hni (fun h' a hm => ?_) (Nat.zero_le _)
  have hn : H a = none := I.hok.gone hm.new
  obtain ⟨t, ht, _, _⟩ := hm.there
  exact ⟨.ref a, upd H a (exo a C none), I.laidN hm.keeps hm.new hn (exo_ok ht), rfl, h a hn⟩
/-- the promise of an __init__ that stores its one argument -/
def spX (C : Addr) (f : Str) : Sp := fun vs H Q _ => ∃ (a : Addr) (v : V), vs = [.ref a, v] ∧ H a = some (exo a C none) ∧ ∀ dx, H dx = none → dx ≠ a → Q .non (upd (upd H dx (exd dx [(f, v)])) a (exo a C (some dx)))
/-- the heap with a fresh error of the class at C on top, the tuple of its arguments below it -/
abbrev topped (hp : Heap) (C : Addr) (us : List Value) : Heap := (hp.push (PySem.W.kdv_tup us)).push (PySem.HandSPX.excO C hp.objs.size)
theorem topped_keep {hp : Heap} {C : Addr} {us : List Value} (b : Addr) (o : Obj) (e : hp.get? b = some o) : (topped hp C us).get? b = some o := by
  unfold topped
  exact Heap.get?_push_of_some _ (Heap.get?_push_of_some _ e)
theorem topped_at {hp : Heap} {C : Addr} {us : List Value} : (topped hp C us).get? (hp.objs.size + 1) = some (PySem.HandSPX.excO C hp.objs.size) := by
  unfold topped
  heap_get
theorem upd_twice {H : Hp} {p q : Addr} {o u w : HO} (h : q ≠ p) : upd (upd (upd H p o) q u) p w = upd (upd H q u) p w := by
  funext b
  by_cases e : b = p
  · rw [e, upd_same, upd_same]
  · rw [upd_ne e, upd_ne e]
    by_cases e2 : b = q
    · rw [e2, upd_same, upd_same]
    · rw [upd_ne e2, upd_ne e2, upd_ne e]
theorem pe_exv {CX : CXT} {x : Str} {C fI : Addr} {k : Nat} {fd : FuncData} {ps : List Str} {f : Str} {e : Expr} {p pos : Pos} {ta : TA} (T : OexC X.K C) (iC : PySem.W.findIn X.K (.ref C) "__init__" = some (some (.ref fI))) (tI : PySem.W.typeIn X.K (.ref fI) = some (.type "function"))
    (G : FnOk X.prog X.w X.K X.mg X.base CX k fI fd ps (spX C f)) (room : Room (k + 1) X.A) (bd : Binds X.K fd ps []) (thru : Passes CX X (fun _ _ _ => False)) (hg : Gl X x) (hm : X.mg x = some (.ref C)) (ha : PA X [e] ta)
    (hdb : (x == ("__debug__" : Str)) = false) (he : starEach [e] X.env = (false, eval e X.env) :: starEach [] X.env) :
    PE X (.Call (.Name x p) [e] [] pos) (fun σ H Q => ta σ H fun vs H1 => ∃ v, vs = [v] ∧ ∀ a dx, H1 a = none → H1 dx = none → dx ≠ a → Q (.ref a) (upd (upd H1 dx (exd dx [(f, v)])) a (exo a C (some dx)))) := by
  have cls := T.cls
  refine ⟨fun pins s σ H Q I rd => wpAny_Call_Name_kw (ld_glob I hg hm (PySem.W.callWith_K (h₀ := X.base) I.ok.mod.kin T.kC (thn (ha.run pos pins s σ H _ I rd) ?_) he rfl) hdb)⟩
  rintro us ⟨hp, gs, dr, tk, os⟩ ⟨vs, H1, J, rv, v, rfl, goal⟩
  refine ⟨J.kIn, ?_⟩
  show wpAny _ _ (call (.ref C) us) _ _ _
  -- the new error stands at the end of the heap, and is tracked while its __init__ runs
  have free : H1 (hp.objs.size + 1) = none := J.hok.fresh (Nat.le_succ _)
  have J2 : Inv X pins σ (upd H1 (hp.objs.size + 1) (exo (hp.objs.size + 1) C none)) ⟨topped hp C us, gs, dr, tk, os⟩ :=
    J.laid (t' := tk) (o := exo (hp.objs.size + 1) C none) (h' := topped hp C us) topped_keep (Nat.le_succ _) (exo_ok topped_at)
  have args : Vals [V.ref (hp.objs.size + 1), v] (Value.ref (hp.objs.size + 1) :: us) := .cons rfl rv
  have word : spX C f [.ref (hp.objs.size + 1), v] (upd H1 (hp.objs.size + 1) (exo (hp.objs.size + 1) C none)) (fun z H2 => z = .non ∧ Q (.ref (hp.objs.size + 1)) H2) (fun _ _ _ => False) := by
    refine ⟨_, v, rfl, upd_same, fun dx d1 d2 => ⟨rfl, ?_⟩⟩
    rw [upd_ne d2] at d1
    rw [upd_twice d2]
    exact goal _ dx free d1 d2
  have many : (Value.ref (hp.objs.size + 1) :: us).length = ps.length := args.length.symm.trans (G.len _ _ _ _ word)
  have bound := bd _ (Value.ref (hp.objs.size + 1) :: us) J2.kIn (by rw [List.append_nil]; exact many)
  rw [List.append_nil] at bound
  have short : us.length ≤ sizeLine := by
    have := rv.length
    rw [sizeLine_eq]
    simp at this
    omega
  obtain ⟨_, _, _, _, bm, _, _, _, _, _, _, _, _, _, _, found, vErr⟩ := cls
  refine wpAny_call (PySem.HandSPX.call_own F.excBase_ValueError (fun Y => PySem.HandSPX.refsVE_contains Y bm vErr) (J.kIn _ _ found) (PySem.W.looks_findIn J.kIn iC) (fun self => PySem.W.bind_fn J.kIn self tI) short ?_)
  refine codeAny_mono (G.run _ X.stack _ _ ⟨Value.ref (hp.objs.size + 1) :: us, []⟩ _ _ _ (fun _ _ _ => False) (room.make C us []) (J2.env0.make C us []) bound args word) fun r s' back => ?_
  rcases r with er | fl
  · exact thru pins σ _ _ er s' J2 back
  cases fl with
  | ret u =>
    obtain ⟨z, H2, J3, rz, ez, q2⟩ := J2.after back
    subst ez
    cases rz
    exact ⟨rfl, .ref (hp.objs.size + 1), H2, J3, rfl, q2⟩
  | _ => exact back.elim
end
end Ev
set_option Elab.async false
set_option linter.all false
set_option maxRecDepth 100000
set_option autoImplicit false
/-! Ev, part D: how the store lies in the heap; what a piece of the interpreter says of a piece of the text. -/
namespace Ev
open PySem L2

/-- the run: program, world, what the top wrote, and where the text's defs and classes stand -/
structure G where
  P : Program
  w : World
  K : PySem.W.Frag
  mg : Str → Option Value
  base : Heap
  fa : Nat → Addr
  ca : Nat → Addr
  T : Tab
  xf : Nat → Option Str
def G.fn (g : G) (i : Nat) : Str := g.T.flds.getD i ""

mutual
inductive Em (g : G) (H : Hp) (φ : List Addr) : D → V → Prop
  | non : Em g H φ .non .non
  | bl (b : Bool) : Em g H φ (.bl b) (.bl b)
  | int (i : Int) : Em g H φ (.int i) (.int i)
  | str (x : Str) : Em g H φ (.str x) (.str x)
  | tup {a : Addr} {vs : List V} {ds : List D} : SqT g.K H a vs → Ems g H φ ds vs → Em g H φ (.tup ds) (.ref a)
  | ref {n : Nat} {a : Addr} : φ[n]? = some a → Em g H φ (.ref n) (.ref a)
  | fn (n : Nat) : Em g H φ (.fn n) (.ref (g.fa n))
  | cls (n : Nat) : Em g H φ (.cls n) (.ref (g.ca n))
inductive Ems (g : G) (H : Hp) (φ : List Addr) : List D → List V → Prop
  | nil : Ems g H φ [] []
  | cons {d : D} {ds : List D} {v : V} {vs : List V} : Em g H φ d v → Ems g H φ ds vs → Ems g H φ (d :: ds) (v :: vs)
end
/-- what stands at an address, as an object of the store -/
def HOm (g : G) (H : Hp) (φ : List Addr) : O → HO → Prop
  | .lst ds, ho => ∃ vs, ho = .lst vs ∧ Ems g H φ ds vs
  | .dK kvs, ho => ∃ ws, ho = .dK ws ∧ ws.map (·.1) = kvs.map (·.1) ∧ Ems g H φ (kvs.map (·.2)) (ws.map (·.2))
  | .dT kvs, ho => ∃ ws, ho = .dT ws ∧ ws.map (·.1) = kvs.map (·.1) ∧ Ems g H φ (kvs.map (·.2)) (ws.map (·.2))
  | .ins c fs, ho => ∃ dx ws, ho = .ins (g.ca c) dx ws ∧ ws.map (·.1) = fs.map (fun p => g.fn p.1) ∧ Ems g H φ (fs.map (·.2)) (ws.map (·.2)) ∧ ∀ p ∈ fs, p.1 < g.T.flds.length
  | .exn _ _, _ => False
  | .lk o, ho => ∃ ob ho', ho = .frz ob ho' ∧ HOm g H φ o ho'
/-- an exception at a -/
def XAt (g : G) (H : Hp) (φ : List Addr) (a : Addr) (c : Nat) (fs : List (Nat × D)) : Prop :=
  (fs = [] ∧ H a = some (exo a (g.ca c) none)) ∨ ∃ dx f d v, fs = [(f, d)] ∧ H a = some (exo a (g.ca c) (some dx)) ∧ H dx = some (exd dx [(g.fn f, v)]) ∧ Em g H φ d v
/-- from one heap to a later one: tuples stay, names of objects stay, what is not in the store is as it was -/
structure Le (g : G) (H : Hp) (φ : List Addr) (H' : Hp) (φ' : List Addr) : Prop where
  tup : ∀ (a : Addr) (xs : List V), SqT g.K H a xs → SqT g.K H' a xs
  pre : ∀ (n : Nat) (a : Addr), φ[n]? = some a → φ'[n]? = some a
  xd : ∀ (p d : Addr) (fs : List (Str × V)), H p = some (exd d fs) → H' p = some (exd d fs)
structure Ext (g : G) (H : Hp) (φ : List Addr) (H' : Hp) (φ' : List Addr) : Prop extends Le g H φ H' φ' where
  out : ∀ (p : Addr) (o : HO), H p = some o → p ∉ φ → H' p = some o ∧ p ∉ φ'
  dom : ∀ (p : Addr), H' p = none → H p = none
structure Rel (g : G) (H : Hp) (φ : List Addr) (S : Store) : Prop where
  len : φ.length = S.length
  nd : φ.Nodup
  at_ : ∀ (n : Nat) (o : O), S[n]? = some o → isX o = false → ∃ a ho, φ[n]? = some a ∧ H a = some ho ∧ HOm g H φ o ho
  exn : ∀ (n c : Nat) (fs : List (Nat × D)), S[n]? = some (.exn c fs) → ∃ a, φ[n]? = some a ∧ XAt g H φ a c fs
structure RelE (g : G) (H : Hp) (φ : List Addr) (σ : Env) (τ : St) : Prop where
  len : σ.length = τ.length
  at_ : ∀ (i : Nat) (d : D), σ[i]? = some (some d) → ∃ v, τ[i]? = some (some v) ∧ Em g H φ d v
/-- a value, or an object that stands at an address of its own -/
def TEm (g : G) (H : Hp) (φ : List Addr) : T → V → Prop
  | .v d, v => Em g H φ d v
  | .t o, v => ∃ p ho, v = .ref p ∧ H p = some ho ∧ p ∉ φ ∧ HOm g H φ o ho
/-- it is younger than H -/
def Fr (H : Hp) : T → V → Prop
  | .v _, _ => True
  | .t _, v => ∀ p, v = .ref p → H p = none
inductive TEms (g : G) (H : Hp) (φ : List Addr) : List T → List V → Prop
  | nil : TEms g H φ [] []
  | cons {t : T} {ts : List T} {v : V} {vs : List V} : TEm g H φ t v → TEms g H φ ts vs → TEms g H φ (t :: ts) (v :: vs)
/-- an error's own dict -/
def XEm (g : G) (H : Hp) (φ : List Addr) (c : Nat) (dd : List D) (dx : Option Addr) : Prop := match g.xf c with
  | none => dd = [] ∧ dx = none
  | some f => ∃ d a v, dd = [d] ∧ dx = some a ∧ H a = some (.xd [(f, v)]) ∧ Em g H φ d v ∧ a ∉ φ

section
variable {g : G} {H H' H2 : Hp} {φ φ' φ2 : List Addr}
theorem Ext.refl : Ext g H φ H φ := ⟨⟨fun _ _ h => h, fun _ _ h => h, fun _ _ _ h => h⟩, fun _ _ h k => ⟨h, k⟩, fun _ h => h⟩
theorem Ext.trans (a : Ext g H φ H' φ') (b : Ext g H' φ' H2 φ2) : Ext g H φ H2 φ2 :=
  ⟨⟨fun p xs h => b.tup p xs (a.tup p xs h), fun n p h => b.pre n p (a.pre n p h), fun p d fs h => b.xd p d fs (a.xd p d fs h)⟩, fun p o h k => by
    obtain ⟨h1, k1⟩ := a.out p o h k
    exact b.out p o h1 k1, fun p h => a.dom p (b.dom p h)⟩
mutual
theorem Em.mono (e : Le g H φ H' φ') : ∀ (d : D) (v : V), Em g H φ d v → Em g H' φ' d v
  | .non, _, h => by cases h; exact .non
  | .bl _, _, h => by cases h; exact .bl _
  | .int _, _, h => by cases h; exact .int _
  | .str _, _, h => by cases h; exact .str _
  | .tup ds, _, h => by
    cases h with
    | tup hs ha => exact .tup (e.tup _ _ hs) (Ems.mono e ds _ ha)
  | .ref _, _, h => by
    cases h with
    | ref hn => exact .ref (e.pre _ _ hn)
  | .fn _, _, h => by cases h; exact .fn _
  | .cls _, _, h => by cases h; exact .cls _
theorem Ems.mono (e : Le g H φ H' φ') : ∀ (ds : List D) (vs : List V), Ems g H φ ds vs → Ems g H' φ' ds vs
  | [], _, h => by cases h; exact .nil
  | d :: ds, _, h => by
    cases h with
    | cons h1 h2 => exact .cons (Em.mono e d _ h1) (Ems.mono e ds _ h2)
end
theorem Em.ext {d : D} {v : V} (h : Em g H φ d v) (e : Le g H φ H' φ') : Em g H' φ' d v := Em.mono e d v h
theorem Ems.ext {ds : List D} {vs : List V} (h : Ems g H φ ds vs) (e : Le g H φ H' φ') : Ems g H' φ' ds vs := Ems.mono e ds vs h
theorem Ems.length : ∀ {ds : List D} {vs : List V}, Ems g H φ ds vs → ds.length = vs.length
  | [], _, h => by cases h; rfl
  | _ :: ds, _, h => by
    cases h with
    | cons _ h2 => simp [Ems.length h2]
theorem Ems.get : ∀ {ds : List D} {vs : List V} {i : Nat} {d : D}, Ems g H φ ds vs → ds[i]? = some d → ∃ v, vs[i]? = some v ∧ Em g H φ d v
  | [], _, _, _, _, e => by simp at e
  | d :: ds, _, 0, _, h, e => by
    cases h with
    | cons h1 _ => simp at e; subst e; exact ⟨_, rfl, h1⟩
  | d :: ds, _, i + 1, _, h, e => by
    cases h with
    | cons _ h2 =>
      obtain ⟨v, h3, h4⟩ := Ems.get (i := i) h2 (by simpa using e)
      exact ⟨v, by simpa using h3, h4⟩
theorem Ems.append : ∀ {ds es : List D} {vs ws : List V}, Ems g H φ ds vs → Ems g H φ es ws → Ems g H φ (ds ++ es) (vs ++ ws)
  | [], _, _, _, h, k => by cases h; exact k
  | _ :: ds, _, _, _, h, k => by
    cases h with
    | cons h1 h2 => exact .cons h1 (Ems.append h2 k)
theorem Ems.take : ∀ {ds : List D} {vs : List V} (n : Nat), Ems g H φ ds vs → Ems g H φ (ds.take n) (vs.take n)
  | _, _, 0, _ => by rw [List.take_zero, List.take_zero]; exact .nil
  | [], _, _ + 1, h => by cases h; rw [List.take_nil, List.take_nil]; exact .nil
  | _ :: _, _, n + 1, h => by
    cases h with
    | cons h1 h2 => rw [List.take_succ_cons, List.take_succ_cons]; exact .cons h1 (Ems.take n h2)
theorem Ems.drop : ∀ {ds : List D} {vs : List V} (n : Nat), Ems g H φ ds vs → Ems g H φ (ds.drop n) (vs.drop n)
  | _, _, 0, h => h
  | [], _, _ + 1, h => by cases h; exact .nil
  | _ :: _, _, n + 1, h => by
    cases h with
    | cons h1 h2 => exact Ems.drop n h2
theorem Ems.set : ∀ {ds : List D} {vs : List V} {d : D} {v : V} (i : Nat), Ems g H φ ds vs → Em g H φ d v → Ems g H φ (ds.set i d) (vs.set i v)
  | [], _, _, _, _, h, _ => by cases h; exact .nil
  | _ :: _, _, _, _, 0, h, k => by
    cases h with
    | cons _ h2 => exact .cons k h2
  | _ :: _, _, _, _, i + 1, h, k => by
    cases h with
    | cons h1 h2 => exact .cons h1 (Ems.set i h2 k)
theorem Ems.rep {ds : List D} {vs : List V} (h : Ems g H φ ds vs) : ∀ k : Nat, Ems g H φ (List.replicate k ds).flatten (List.replicate k vs).flatten
  | 0 => .nil
  | k + 1 => by
    rw [List.replicate_succ, List.replicate_succ, List.flatten_cons, List.flatten_cons]
    exact h.append (Ems.rep h k)
theorem Ems.reverse : ∀ {ds : List D} {vs : List V}, Ems g H φ ds vs → Ems g H φ ds.reverse vs.reverse
  | [], _, h => by cases h; exact .nil
  | d :: ds, _, h => by
    cases h with
    | cons h1 h2 =>
      rw [List.reverse_cons, List.reverse_cons]
      exact (Ems.reverse h2).append (.cons h1 .nil)
theorem Ems.dropLast : ∀ {ds : List D} {vs : List V}, Ems g H φ ds vs → Ems g H φ ds.dropLast vs.dropLast := fun {ds vs} h => by
  rw [List.dropLast_eq_take, List.dropLast_eq_take, h.length]
  exact h.take _
theorem HOm.ext : ∀ {o : O} {ho : HO}, HOm g H φ o ho → Le g H φ H' φ' → HOm g H' φ' o ho
  | .lst _, _, ⟨vs, h1, h2⟩, e => ⟨vs, h1, h2.ext e⟩
  | .dK _, _, ⟨vs, h1, h2, h3⟩, e => ⟨vs, h1, h2, h3.ext e⟩
  | .dT _, _, ⟨vs, h1, h2, h3⟩, e => ⟨vs, h1, h2, h3.ext e⟩
  | .ins _ _, _, ⟨dx, vs, h1, h2, h3, h4⟩, e => ⟨dx, vs, h1, h2, h3.ext e, h4⟩
  | .exn _ _, _, h, _ => h
  | .lk _, _, ⟨ob, ho, h1, h2⟩, e => ⟨ob, ho, h1, HOm.ext h2 e⟩
/-- no tuple: it may change -/
theorem HOm.notup : ∀ {o : O} {ho : HO}, HOm g H φ o ho → (∀ xs, ho ≠ .tup xs) ∧ ∀ ob xs, ho ≠ .frz ob (.tup xs)
  | .lst _, _, ⟨vs, h1, h2⟩ => by subst h1; exact ⟨fun _ z => (nomatch z), fun _ _ z => (nomatch z)⟩
  | .dK _, _, ⟨vs, h1, h2, h3⟩ => by subst h1; exact ⟨fun _ z => (nomatch z), fun _ _ z => (nomatch z)⟩
  | .dT _, _, ⟨vs, h1, h2, h3⟩ => by subst h1; exact ⟨fun _ z => (nomatch z), fun _ _ z => (nomatch z)⟩
  | .ins _ _, _, ⟨dx, vs, h1, h2, h3, h4⟩ => by subst h1; exact ⟨fun _ z => (nomatch z), fun _ _ z => (nomatch z)⟩
  | .exn _ _, _, h => h.elim
  | .lk _, _, ⟨ob, ho, h1, h2⟩ => by
    subst h1
    refine ⟨fun _ z => (nomatch z), fun ob' xs z => ?_⟩
    injection z with _ z2
    exact (HOm.notup h2).1 xs z2
theorem TEm.ext {t : T} {v : V} (h : TEm g H φ t v) (e : Ext g H φ H' φ') : TEm g H' φ' t v := by
  cases t with
  | v d => exact Em.ext h e.toLe
  | t o =>
    obtain ⟨p, ho, h1, h2, h3, h4⟩ := h
    obtain ⟨k1, k2⟩ := e.out p ho h2 h3
    exact ⟨p, ho, h1, k1, k2, h4.ext e.toLe⟩
theorem TEms.ext : ∀ {ts : List T} {vs : List V}, TEms g H φ ts vs → Ext g H φ H' φ' → TEms g H' φ' ts vs
  | [], _, h, _ => by cases h; exact .nil
  | _ :: _, _, h, e => by
    cases h with
    | cons h1 h2 => exact .cons (h1.ext e) (TEms.ext h2 e)
theorem Fr.ext {t : T} {v : V} (h : Fr H' t v) (e : Ext g H φ H' φ') : Fr H t v := by
  cases t with
  | v d => trivial
  | t o => exact fun p hp => e.dom p (h p hp)
theorem RelE.ext {σ : Env} {τ : St} (h : RelE g H φ σ τ) (e : Ext g H φ H' φ') : RelE g H' φ' σ τ := ⟨h.len, fun i d hd => by
  obtain ⟨v, h1, h2⟩ := h.at_ i d hd
  exact ⟨v, h1, h2.ext e.toLe⟩⟩
theorem XEm.ext {c : Nat} {dd : List D} {dx : Option Addr} (h : XEm g H φ c dd dx) (e : Ext g H φ H' φ') : XEm g H' φ' c dd dx := by
  unfold XEm at h ⊢
  split at h
  · exact h
  · obtain ⟨d, a, v, h1, h2, h3, h4, h5⟩ := h
    obtain ⟨k1, k2⟩ := e.out a _ h3 h5
    exact ⟨d, a, v, h1, h2, k1, h4.ext e.toLe, k2⟩
theorem XAt.live {a : Addr} {c : Nat} {fs : List (Nat × D)} (h : XAt g H φ a c fs) : ∃ ho, H a = some ho := by
  rcases h with ⟨_, h⟩ | ⟨dx, f, d, v, _, h, _⟩
  · exact ⟨_, h⟩
  · exact ⟨_, h⟩
theorem XAt.mono {a : Addr} {c : Nat} {fs : List (Nat × D)} (h : XAt g H φ a c fs) (e : Le g H φ H' φ') (ha : H' a = H a) : XAt g H' φ' a c fs := by
  rcases h with ⟨h1, h⟩ | ⟨dx, f, d, v, h1, h2, h3, h4⟩
  · exact .inl ⟨h1, ha.trans h⟩
  · exact .inr ⟨dx, f, d, v, h1, ha.trans h2, e.xd _ _ _ h3, h4.ext e⟩
theorem Rel.mem {S : Store} (r : Rel g H φ S) {a : Addr} (h : a ∈ φ) : ∃ ho, H a = some ho := by
  obtain ⟨n, hn, e⟩ := List.mem_iff_getElem.mp h
  have hs : n < S.length := by rw [← r.len]; exact hn
  have this : φ[n]? = some a := by rw [List.getElem?_eq_getElem hn, e]
  have hS : S[n]? = some S[n] := List.getElem?_eq_getElem hs
  generalize S[n] = o at hS
  cases hx : isX o with
  | false =>
    obtain ⟨a', ho, h1, h2, h3⟩ := r.at_ n o hS hx
    rw [this] at h1; cases h1
    exact ⟨ho, h2⟩
  | true =>
    cases o with
    | exn c fs =>
      obtain ⟨a', h1, h2⟩ := r.exn n c fs hS
      rw [this] at h1; cases h1
      exact h2.live
    | _ => cases hx
theorem Rel.notin {S : Store} (r : Rel g H φ S) {p : Addr} (h : H p = none) : p ∉ φ := fun hm => by
  obtain ⟨ho, h2⟩ := r.mem hm
  rw [h] at h2; cases h2
theorem Rel.step {S : Store} (r : Rel g H φ S) (k : ∀ a ∈ φ, H' a = H a) (e : Le g H φ H' φ) : Rel g H' φ S := ⟨r.len, r.nd, fun n o hn hx => by
  obtain ⟨a, ho, h1, h2, h3⟩ := r.at_ n o hn hx
  exact ⟨a, ho, h1, by rw [k a (List.mem_of_getElem? h1)]; exact h2, h3.ext e⟩, fun n c fs hn => by
  obtain ⟨a, h1, h2⟩ := r.exn n c fs hn
  exact ⟨a, h1, h2.mono e (k a (List.mem_of_getElem? h1))⟩⟩
theorem SqT.updN {K : PySem.W.Frag} {a p : Addr} {xs : List V} {u : HO} (h : SqT K H a xs) (hp : H p = none) : SqT K (upd H p u) a xs := by
  rcases h with h | h
  · rcases h with h | ⟨o, h⟩
    · exact .inl (.inl (by rw [upd_ne (ne_of_none h hp)]; exact h))
    · exact .inl (.inr ⟨o, by rw [upd_ne (ne_of_none h hp)]; exact h⟩)
  · exact .inr h
/-- a new object, of nobody yet -/
theorem Ext.new {p : Addr} {u : HO} (hp : H p = none) : Ext g H φ (upd H p u) φ := ⟨⟨fun a xs h => SqT.updN h hp, fun _ _ h => h, fun q d fs h => by rw [upd_ne (ne_of_none h hp)]; exact h⟩, fun q o h k => ⟨by rw [upd_ne (ne_of_none h hp)]; exact h, k⟩, fun q h => by
  by_cases e : q = p
  · subst e; exact hp
  · rw [upd_ne e] at h; exact h⟩
theorem Rel.new {S : Store} {p : Addr} {u : HO} (r : Rel g H φ S) (hp : H p = none) : Rel g (upd H p u) φ S := r.step (fun a ha => by
  obtain ⟨ho, h2⟩ := r.mem ha
  rw [upd_ne (ne_of_none h2 hp)]) (Ext.new hp).toLe
theorem Le.more {ψ : List Addr} : Le g H φ H (φ ++ ψ) := ⟨fun _ _ h => h, fun n a h => by
  rw [List.getElem?_append_left (List.getElem?_eq_some_iff.mp h).1]
  exact h, fun _ _ _ h => h⟩
/-- an object comes into the store: it is younger than H -/
theorem Ext.take_in {p : Addr} (e : Ext g H φ H' φ') (hp : H p = none) : Ext g H φ H' (φ' ++ [p]) := by
  refine ⟨⟨e.tup, fun n a h => Le.more (g := g) (H := H').pre n a (e.pre n a h), e.xd⟩, fun q o h k => ?_, e.dom⟩
  obtain ⟨h1, h2⟩ := e.out q o h k
  refine ⟨h1, fun hm => ?_⟩
  rcases List.mem_append.mp hm with hm | hm
  · exact h2 hm
  · have : q = p := by simpa using hm
    subst this
    rw [hp] at h; cases h
theorem nodup_snoc {p : Addr} (nd : φ.Nodup) (hn : p ∉ φ) : (φ ++ [p]).Nodup := by
  rw [List.nodup_append]
  refine ⟨nd, by simp, fun a ha b hb => ?_⟩
  have : b = p := by simpa using hb
  subst this
  exact fun e => hn (e ▸ ha)
theorem at_snoc {S : Store} {n : Nat} {o o' : O} (h : (S ++ [o])[n]? = some o') : S[n]? = some o' ∨ (n = S.length ∧ o' = o) := by
  by_cases hl : n < S.length
  · rw [List.getElem?_append_left hl] at h
    exact .inl h
  · have hnn : n = S.length := by
      have := (List.getElem?_eq_some_iff.mp h).1
      simp at this
      omega
    subst hnn
    rw [List.getElem?_append_right (Nat.le_refl _)] at h
    simp at h
    exact .inr ⟨rfl, h.symm⟩
/-- an exception comes into the store -/
theorem Rel.take_x {S : Store} {p : Addr} {c : Nat} {fs : List (Nat × D)} (r : Rel g H φ S) (hn : p ∉ φ) (hx : XAt g H φ p c fs) : Rel g H (φ ++ [p]) (S ++ [.exn c fs]) := by
  refine ⟨by simp [r.len], nodup_snoc r.nd hn, fun n o' hn' hx' => ?_, fun n c' fs' hn' => ?_⟩
  · rcases at_snoc hn' with h | ⟨rfl, rfl⟩
    · obtain ⟨a, ho', h1, h2, h3⟩ := r.at_ n o' h hx'
      exact ⟨a, ho', Le.more (g := g) (H := H).pre n a h1, h2, h3.ext Le.more⟩
    · cases hx'
  · rcases at_snoc hn' with h | ⟨rfl, e⟩
    · obtain ⟨a, h1, h2⟩ := r.exn n c' fs' h
      exact ⟨a, Le.more (g := g) (H := H).pre n a h1, h2.mono Le.more rfl⟩
    · cases e
      exact ⟨p, by rw [← r.len, List.getElem?_append_right (Nat.le_refl _)]; simp, hx.mono Le.more rfl⟩
theorem HOm.nox {o : O} {ho : HO} (h : HOm g H φ o ho) : isX o = false := by
  cases o with
  | exn c fs => exact h.elim
  | _ => rfl
theorem HOm.noxd : ∀ {o : O} {ho : HO}, HOm g H φ o ho → ∀ d fs, ho ≠ exd d fs
  | .lst _, _, ⟨vs, h1, h2⟩ => by subst h1; exact fun d fs z => (nomatch (show HO.lst vs = HO.ext _ from z))
  | .dK _, _, ⟨vs, h1, h2, h3⟩ => by subst h1; exact fun d fs z => (nomatch (show HO.dK vs = HO.ext _ from z))
  | .dT _, _, ⟨vs, h1, h2, h3⟩ => by subst h1; exact fun d fs z => (nomatch (show HO.dT vs = HO.ext _ from z))
  | .ins c _, _, ⟨dx, vs, h1, h2, h3, h4⟩ => by subst h1; exact fun d fs z => (nomatch (show HO.ins (g.ca c) dx vs = HO.ext _ from z))
  | .exn _ _, _, h => h.elim
  | .lk _, _, ⟨ob, ho, h1, h2⟩ => by subst h1; exact fun d fs z => (nomatch (show HO.frz ob ho = HO.ext _ from z))
theorem Rel.take_in {S : Store} {p : Addr} {o : O} {ho : HO} (r : Rel g H φ S) (hp : H p = some ho) (hn : p ∉ φ) (hm : HOm g H φ o ho) : Rel g H (φ ++ [p]) (S ++ [o]) := by
  refine ⟨by simp [r.len], nodup_snoc r.nd hn, fun n o' hn' hx => ?_, fun n c fs hn' => ?_⟩
  · rcases at_snoc hn' with h | ⟨rfl, rfl⟩
    · obtain ⟨a, ho', h1, h2, h3⟩ := r.at_ n o' h hx
      exact ⟨a, ho', Le.more (g := g) (H := H).pre n a h1, h2, h3.ext Le.more⟩
    · exact ⟨p, ho, by rw [← r.len, List.getElem?_append_right (Nat.le_refl _)]; simp, hp, hm.ext Le.more⟩
  · rcases at_snoc hn' with h | ⟨rfl, e⟩
    · obtain ⟨a, h1, h2⟩ := r.exn n c fs h
      exact ⟨a, Le.more (g := g) (H := H).pre n a h1, h2.mono Le.more rfl⟩
    · rw [← e] at hm
      exact hm.elim
/-- an object of the store is changed -/
theorem SqT.updT {K : PySem.W.Frag} {a p : Addr} {xs : List V} {ho u : HO} (h : SqT K H a xs) (hp : H p = some ho) (h1 : ∀ xs, ho ≠ .tup xs) (h2 : ∀ ob xs, ho ≠ .frz ob (.tup xs)) : SqT K (upd H p u) a xs := by
  rcases h with h | h
  · rcases h with h | ⟨o, h⟩
    · refine .inl (.inl ?_)
      rw [upd_ne (fun e => ?_)]
      · exact h
      · rw [e, hp] at h; cases h; exact h1 _ rfl
    · refine .inl (.inr ⟨o, ?_⟩)
      rw [upd_ne (fun e => ?_)]
      · exact h
      · rw [e, hp] at h; cases h; exact h2 _ _ rfl
  · exact .inr h
theorem Ext.put {S : Store} {n : Nat} {p : Addr} {o : O} {ho u : HO} (r : Rel g H φ S) (hn : φ[n]? = some p) (ho' : H p = some ho) (hm : HOm g H φ o ho) : Ext g H φ (upd H p u) φ := by
  refine ⟨⟨fun a xs h => SqT.updT h ho' hm.notup.1 hm.notup.2, fun _ _ h => h, fun q d fs h => ?_⟩, fun q o h k => ?_, fun q h => ?_⟩
  · rw [upd_ne (fun e => ?_)]
    · exact h
    · rw [e, ho'] at h; cases h; exact hm.noxd _ _ rfl
  · rw [upd_ne (fun e => ?_)]
    · exact ⟨h, k⟩
    · subst e; exact k (List.mem_of_getElem? hn)
  · by_cases e : q = p
    · subst e; rw [upd_same] at h; cases h
    · rw [upd_ne e] at h; exact h
theorem nodup_at {l : List Addr} {i j : Nat} {a : Addr} (nd : l.Nodup) (h1 : l[i]? = some a) (h2 : l[j]? = some a) : i = j := by
  obtain ⟨hi, e1⟩ := List.getElem?_eq_some_iff.mp h1
  obtain ⟨hj, e2⟩ := List.getElem?_eq_some_iff.mp h2
  have p : ∀ (i j : Nat) (hi : i < l.length) (hj : j < l.length), i < j → l[i] ≠ l[j] := List.pairwise_iff_getElem.mp nd
  rcases Nat.lt_trichotomy i j with h | h | h
  · exact absurd (e1.trans e2.symm) (p i j hi hj h)
  · exact h
  · exact absurd (e2.trans e1.symm) (p j i hj hi h)
theorem Rel.put {S : Store} {n : Nat} {p : Addr} {o o' : O} {ho u : HO} (r : Rel g H φ S) (hs : S[n]? = some o) (hn : φ[n]? = some p) (ho' : H p = some ho) (hm : HOm g H φ o ho) (hu : HOm g H φ o' u) : Rel g (upd H p u) φ (S.set n o') := by
  have e : Ext g H φ (upd H p u) φ := Ext.put r hn ho' hm
  refine ⟨by simp [r.len], r.nd, fun m o2 hm2 hx => ?_, fun m c fs hm2 => ?_⟩
  · by_cases hmn : m = n
    · subst hmn
      rw [List.getElem?_set_self (List.getElem?_eq_some_iff.mp hs).1] at hm2
      cases hm2
      exact ⟨p, u, hn, upd_same, hu.ext e.toLe⟩
    · rw [List.getElem?_set_ne (Ne.symm hmn)] at hm2
      obtain ⟨a, h2, k1, k2, k3⟩ := r.at_ m o2 hm2 hx
      refine ⟨a, h2, k1, ?_, k3.ext e.toLe⟩
      rw [upd_ne (fun ea => hmn (nodup_at r.nd k1 (by rw [ea]; exact hn)))]
      exact k2
  · by_cases hmn : m = n
    · subst hmn
      rw [List.getElem?_set_self (List.getElem?_eq_some_iff.mp hs).1] at hm2
      cases hm2
      exact hu.elim
    · rw [List.getElem?_set_ne (Ne.symm hmn)] at hm2
      obtain ⟨a, k1, k2⟩ := r.exn m c fs hm2
      exact ⟨a, k1, k2.mono e.toLe (upd_ne (fun ea => hmn (nodup_at r.nd k1 (by rw [ea]; exact hn))))⟩
/-- the object that is meant -/
theorem TEm.objW {S : Store} {t : T} {v : V} {o : O} (r : Rel g H φ S) (h : TEm g H φ t v) (e : objW S t = some o) (hx : isX o = false) : ∃ p ho, v = .ref p ∧ H p = some ho ∧ HOm g H φ o ho := by
  cases t with
  | v d =>
    cases d with
    | ref n =>
      obtain ⟨a, ho, h1, h2, h3⟩ := r.at_ n o e hx
      cases h with
      | ref hn =>
        rw [h1] at hn; cases hn
        exact ⟨a, ho, rfl, h2, h3⟩
    | _ => cases e
  | t o' =>
    cases e
    obtain ⟨p, ho, h1, h2, _, h4⟩ := h
    exact ⟨p, ho, h1, h2, h4⟩
theorem HOm.lstR {H : Hp} {p : Addr} {o : O} {ho : HO} {ds : List D} (hp : H p = some ho) (h : HOm g H φ o ho) (e : unlk o = .lst ds) : ∃ vs, SqL g.K H p vs ∧ Ems g H φ ds vs := by
  cases o with
  | lst ds' =>
    cases e
    obtain ⟨vs, rfl, h2⟩ := h
    exact ⟨vs, .inl (.inl hp), h2⟩
  | lk o' =>
    have e' : o' = .lst ds := e
    subst e'
    obtain ⟨ob, ho', rfl, vs, rfl, h2⟩ := h
    exact ⟨vs, .inl (.inr ⟨ob, hp⟩), h2⟩
  | _ => cases e
theorem TEm.objR {S : Store} {t : T} {v : V} {o : O} (r : Rel g H φ S) (h : TEm g H φ t v) (e : Ev.objR S t = some o) (hx : isX o = false) : ∃ p ho o', v = .ref p ∧ H p = some ho ∧ HOm g H φ o' ho ∧ (o = o' ∨ o = unlk o') := by
  cases t with
  | v d =>
    cases d with
    | ref n =>
      have e' : (S[n]?).map unlk = some o := e
      cases hs : S[n]? with
      | none => rw [hs] at e'; cases e'
      | some o2 =>
        rw [hs] at e'
        have e2 := Option.some.inj e'
        have hx2 : isX o2 = false := by
          cases o2 with
          | exn c fs => rw [← e2] at hx; exact hx
          | _ => rfl
        obtain ⟨p, ho, h1, h2, h3⟩ := TEm.objW (t := .v (.ref n)) r h hs hx2
        exact ⟨p, ho, o2, h1, h2, h3, .inr e2.symm⟩
    | _ => cases e
  | t o' =>
    cases e
    obtain ⟨p, ho, h1, h2, _, h4⟩ := h
    exact ⟨p, ho, _, h1, h2, h4, .inl rfl⟩
theorem TEm.lstR {S : Store} {t : T} {v : V} {ds : List D} (r : Rel g H φ S) (h : TEm g H φ t v) (e : Ev.lstR S t = some ds) : ∃ p vs, v = .ref p ∧ SqL g.K H p vs ∧ Ems g H φ ds vs := by
  have e0 : Ev.objR S t = some (.lst ds) := by
    unfold Ev.lstR at e
    split at e
    · cases e; assumption
    · cases e
  obtain ⟨p, ho, o', h1, h2, h3, h4⟩ := h.objR r e0 rfl
  have hu : unlk o' = .lst ds := by
    rcases h4 with h4 | h4
    · rw [← h4]; rfl
    · exact h4.symm
  obtain ⟨vs, k1, k2⟩ := HOm.lstR h2 h3 hu
  exact ⟨p, vs, h1, k1, k2⟩
theorem TEm.lstW {S : Store} {t : T} {v : V} {ds : List D} (r : Rel g H φ S) (h : TEm g H φ t v) (e : Ev.lstW S t = some ds) : ∃ p vs, v = .ref p ∧ H p = some (.lst vs) ∧ Ems g H φ ds vs := by
  have e0 : Ev.objW S t = some (.lst ds) := by
    unfold Ev.lstW at e
    split at e
    · cases e; assumption
    · cases e
  obtain ⟨p, ho, h1, h2, vs, rfl, h3⟩ := h.objW r e0 rfl
  exact ⟨p, vs, h1, h2, h3⟩
theorem TEm.seqR {S : Store} {t : T} {v : V} {ds : List D} (r : Rel g H φ S) (h : TEm g H φ t v) (e : Ev.seqR S t = some ds) : ∃ p vs, v = .ref p ∧ (SqL g.K H p vs ∨ SqT g.K H p vs) ∧ Ems g H φ ds vs := by
  by_cases ht : ∃ es, t = .v (.tup es)
  · obtain ⟨es, rfl⟩ := ht
    have e' : some es = some ds := e
    cases e'
    cases h with
    | tup h1 h2 => exact ⟨_, _, rfl, .inr h1, h2⟩
  · have e' : Ev.lstR S t = some ds := by
      unfold Ev.seqR at e
      split at e
      · exact absurd ⟨_, rfl⟩ ht
      · exact e
    obtain ⟨p, vs, h1, h2, h3⟩ := h.lstR r e'
    exact ⟨p, vs, h1, .inl h2, h3⟩
end
end Ev
set_option Elab.async false
set_option linter.all false
set_option maxRecDepth 100000
set_option autoImplicit false
set_option maxHeartbeats 4000000
/-! Ev, part Y: sorted of tuples of ints of any length; a dict looked for in a list of tuples. -/
namespace Ev
open PySem PySem.W PySem.Calls PyProof.Rows
section
variable {prog : Program} {w : World} {A : Around} {E : Value → Shared → Prop} {s : Shared}
/-- v is a tuple of these ints -/
def TupI (h : Heap) (v : Value) (ns : List Int) : Prop := ∃ (a : Addr) (its : List Value), v = .ref a ∧ IsTup h a its.toArray ∧ IntsAre its ns
theorem TupI.keeps {h h' : Heap} {v : Value} {ns : List Int} (x : TupI h v ns) (k : ∀ b o, v = .ref b → h.get? b = some o → h'.get? b = some o) : TupI h' v ns := by
  obtain ⟨a, its, e, ⟨o, ho, r⟩, hi⟩ := x
  exact ⟨a, its, e, ⟨o, k _ _ e ho, r⟩, hi⟩
theorem TupI.type {M : Model} {h : Heap} {v : Value} {ns : List Int} (x : TupI h v ns) : Looks M h (typeOf v) (.type "tuple") := by
  obtain ⟨a, its, rfl, ⟨o, ho, hc, _⟩, _⟩ := x
  have y : Looks M h (typeOf (.ref a)) o.cls := (Looks.ld ho).andThen .now
  rw [hc] at y
  exact y
/-- the first item of a tuple -/
def fstOf (h : Heap) : Value → Option Value
  | .ref a => match h.get? a with
    | some o => match o.data with
      | .seq its _ => its[0]?
      | _ => none
    | none => none
  | _ => none
theorem mapM_to {α β : Type} {f : α → Sem β} {g : α → β} : ∀ (l : List α) {Q : List β → Shared → Prop}, (∀ v ∈ l, ∀ (Q' : β → Shared → Prop), Q' (g v) s → wpAny (model prog w) A (f v) Q' E s) → Q (l.map g) s → wpAny (model prog w) A (l.mapM f) Q E s
  | [], _, _, h => by rw [List.mapM_nil]; exact wpAny_pure h
  | x :: l, Q, hf, h => by
    rw [List.mapM_cons]
    exact wpAny_bind (hf x (.head _) _ (wpAny_bind (mapM_to l (Q := fun bs s' => wpAny (model prog w) A (pure (g x :: bs)) Q E s') (fun v hv => hf v (.tail _ hv)) (wpAny_pure h))))
theorem first_at {v : Value} {ns : List Int} {Q : Option Value → Shared → Prop} (x : TupI s.heap v ns) (h : Q (fstOf s.heap v) s) : wpAny (model prog w) A (firstOfTuple' v) Q E s := by
  have ty := x.type (M := model prog w)
  obtain ⟨a, its, rfl, ⟨o, ho, hc, n, hd⟩, hi⟩ := x
  rw [kas_first_eq]
  refine wpAny_bind (ty.here ?_)
  rw [if_neg (by first | decide | simp)]
  refine wpAny_bind (listItems_at ho hd (wpAny_pure ?_))
  have e : fstOf s.heap (.ref a) = its.toArray[0]? := by
    unfold fstOf
    simp only [ho, hd]
  rw [e] at h
  exact h
theorem fst_some {h : Heap} {v f : Value} {ns : List Int} (x : TupI h v ns) (e : fstOf h v = some f) : ∃ i t, f = .int i t := by
  obtain ⟨a, its, rfl, ⟨o, ho, hc, n, hd⟩, hi⟩ := x
  unfold fstOf at e
  simp only [ho, hd] at e
  cases hi with
  | nil => simp at e
  | cons i t r =>
    simp at e
    exact ⟨i, t, e.symm⟩
theorem all_first {h : Heap} : ∀ (vs : List Value) (k : Value → List Int), (∀ v ∈ vs, TupI h v (k v)) → (∀ v ∈ vs, (fstOf h v).isSome = true) → ∀ f ∈ (vs.map (fstOf h)).filterMap id, ∃ i t, f = Value.int i t := by
  intro vs k hv _ f hf
  rw [List.mem_filterMap] at hf
  obtain ⟨o, ho, e⟩ := hf
  obtain ⟨v, hm, rfl⟩ := List.mem_map.mp ho
  exact fst_some (hv v hm) e
/-- how a list of tuples of ints is sorted -/
theorem kind_tup {vs : List Value} {k : Value → List Int} (h2 : 2 ≤ vs.length) (hv : ∀ v ∈ vs, TupI s.heap v (k v)) {R : SortKind → Prop} (h1 : R (tuples' true)) (h3 : R general') (h4 : R oneType') :
    ∃ κ, R κ ∧ ∀ (Q : SortKind → Shared → Prop) (E : Value → Shared → Prop), Q κ s → wpAny (model prog w) A (keyKind' vs.toArray) Q E s := by
  by_cases ha : ((vs.map (fstOf s.heap)).toArray.all fun x => x.isSome) = true
  · refine ⟨tuples' true, h1, fun Q E hq => ?_⟩
    rw [kat_kind_eq, List.mapM_toArray, map_eq_pure_bind]
    refine wpAny_bind (wpAny_bind (mapM_to (g := fstOf s.heap) vs (fun v hm Q' q' => first_at (hv v hm) q') (wpAny_pure ?_)))
    rw [if_pos ha]
    refine wpAny_bind (wpAny_rule ?_)
    have hfm : ((vs.map (fstOf s.heap)).toArray.filterMap id) = ((vs.map (fstOf s.heap)).filterMap id).toArray := by simp
    have hall : ∀ v ∈ vs, (fstOf s.heap v).isSome = true := fun v hm => by
      simp only [List.all_toArray, List.all_map, List.all_eq_true] at ha
      exact ha v hm
    have hint := all_first vs k hv hall
    have hne : (vs.map (fstOf s.heap)).filterMap id ≠ [] := by
      match vs, h2, hall with
      | v :: r, _, hall =>
        obtain ⟨f, hf⟩ := Option.isSome_iff_exists.mp (hall v List.mem_cons_self)
        rw [List.map_cons, List.filterMap_cons, hf]
        simp
    rw [hfm]
    generalize (vs.map (fstOf s.heap)).filterMap id = fs at hint hne
    rw [oneTypeOnly'_eq, List.mapM_toArray, map_eq_pure_bind]
    refine wpAny_bind (wpAny_bind (wpAny_bind (mapM_to (g := fun _ => Value.type "int") fs (fun v hm Q' q' => by
      obtain ⟨i, t, rfl⟩ := hint v hm
      exact wpAny_pure q') (wpAny_pure ?_))))
    obtain ⟨f₁, fr, rfl⟩ : ∃ f₁ fr, fs = f₁ :: fr := by
      match fs, hne with
      | f₁ :: fr, _ => exact ⟨f₁, fr, rfl⟩
    have hall2 : ((List.map (fun _ => Value.type "int") (f₁ :: fr)).toArray.all fun x => x == Value.type "int") = true := by
      simp only [List.all_toArray, List.all_map, List.all_eq_true]
      intro _ _
      rfl
    have h0 : (List.map (fun _ => Value.type "int") (f₁ :: fr)).toArray[0]? = some (Value.type "int") := by simp
    rw [h0]
    simp only [hall2, if_true]
    have e : (Value.type "int" != Value.type "tuple") = true := by first | decide +kernel | rfl | decide
    refine wpAny_pure (wpAny_pure ?_)
    show Q (tuples' (Value.type "int" != Value.type "tuple")) s
    rw [e]
    exact hq
  · by_cases hb : ((vs.map (fstOf s.heap)).toArray[0]?.bind id).isSome = true
    · refine ⟨general', h3, fun Q E hq => ?_⟩
      rw [kat_kind_eq, List.mapM_toArray, map_eq_pure_bind]
      refine wpAny_bind (wpAny_bind (mapM_to (g := fstOf s.heap) vs (fun v hm Q' q' => first_at (hv v hm) q') (wpAny_pure ?_)))
      rw [if_neg ha, if_pos hb]
      exact wpAny_pure hq
    · refine ⟨oneType', h4, fun Q E hq => ?_⟩
      rw [kat_kind_eq, List.mapM_toArray, map_eq_pure_bind]
      refine wpAny_bind (wpAny_bind (mapM_to (g := fstOf s.heap) vs (fun v hm Q' q' => first_at (hv v hm) q') (wpAny_pure ?_)))
      rw [if_neg ha, if_neg hb]
      rw [oneTypeOnly'_eq, List.mapM_toArray, map_eq_pure_bind]
      refine wpAny_bind (wpAny_bind (wpAny_bind (mapM_to (g := fun _ => Value.type "tuple") vs (fun v hm Q' q' => (hv v hm).type.here q') (wpAny_pure ?_))))
      obtain ⟨f₁, fr, rfl⟩ : ∃ f₁ fr, vs = f₁ :: fr := by
        match vs, h2 with
        | f₁ :: fr, _ => exact ⟨f₁, fr, rfl⟩
      have hall2 : ((List.map (fun _ => Value.type "tuple") (f₁ :: fr)).toArray.all fun x => x == Value.type "tuple") = true := by
        simp only [List.all_toArray, List.all_map, List.all_eq_true]
        intro _ _
        rfl
      have h0 : (List.map (fun _ => Value.type "tuple") (f₁ :: fr)).toArray[0]? = some (Value.type "tuple") := by simp
      rw [h0]
      simp only [hall2, if_true]
      exact wpAny_pure (wpAny_pure hq)
theorem kat_ints {fin : Bool} {Q : Bool → Shared → Prop} : ∀ {vs us : List Value} {ns ms : List Int} (i : Nat), IntsAre vs ns → IntsAre us ms → fin = decide (ns.length < ms.length) → Q (HT.lexLt ns ms) s → KatLex prog w A true fin Q (vs.zip us) i s
  | _, _, _, _, i, .nil, .nil, hf, h => by
    refine kat_nil ?_
    rw [hf]
    exact h
  | _, _, _, _, i, .nil, .cons m t r, hf, h => by
    refine kat_nil ?_
    rw [hf]
    exact h
  | _, _, _, _, i, .cons n t r, .nil, hf, h => by
    refine kat_nil ?_
    rw [hf]
    exact h
  | _, _, _, _, i, .cons (ns := ns) n t r, .cons (ns := ms) m u r', hf, h => by
    rw [HT.lexLt_cons] at h
    refine kat_cons (SeqAt.EqAt.int_int n t m u prog w _ _ ?_)
    refine kat_go (fun e1 => ?_) (fun e1 => ?_)
    · have ex : n = m := by simpa using e1
      rw [if_pos ex] at h
      exact kat_yes (kat_ints (i + 1) r r' (by rw [hf]; simp) h)
    · have ex : ¬ n = m := by simpa using e1
      rw [if_neg ex] at h
      refine kat_no ?_
      cases hb : (true && i == 0) with
      | true => exact oneLt_int h
      | false => exact kat_one _ _ (PyProof.Rows.lt_int h)
theorem lt_kind {v u : Value} {ns ms : List Int} {κ : SortKind} {Q : Bool → Shared → Prop} (hu : A.units < cLine) (hk : κ = tuples' true ∨ κ = general' ∨ κ = oneType') (hv : TupI s.heap v ns) (hw : TupI s.heap u ms) (h : Q (HT.lexLt ns ms) s) :
    wpAny (model prog w) A (keyLt' κ v u) Q E s := by
  obtain ⟨a, its, rfl, ha, ia⟩ := hv
  obtain ⟨b, its2, rfl, hb, ib⟩ := hw
  rcases hk with rfl | rfl | rfl
  · obtain ⟨o, ho, hc, n, hd⟩ := ha
    obtain ⟨o2, ho2, hc2, n2, hd2⟩ := hb
    refine kat_lt ho hd ho2 hd2 ?_
    refine kat_ints 0 ia ib ?_ h
    rw [List.size_toArray, List.size_toArray, ← ia.length, ← ib.length]
  · show wpAny (model prog w) A (oneLt' false (.ref a) (.ref b)) Q E s
    exact kat_one _ _ (HT.lt_tupInts ha hb ia ib hu h)
  · rw [keyLt'_oneType, oneLt'_eq]
    simp only [if_true]
    refine wpAny_bind (wpAny_cRoomFor hu ?_)
    obtain ⟨⟨cls, dd, data, sl⟩, ho, hc, n, hd⟩ := id ha
    obtain ⟨⟨cls2, dd2, data2, sl2⟩, ho2, hc2, n2, hd2⟩ := id hb
    simp only at hc hd hc2 hd2
    subst hc hd hc2 hd2
    refine wpAny_bind (wpAny_callSpecialIfBound?_slot (T := "tuple") ⟨_, ho, rfl⟩ PySem.F.slot_tuple_lt (call_meets PySem.F.slot_tuple_lt ⟨_, ho, rfl⟩ PySem.F.entry_tuple_lt (PySem.F.args_tuple_lt_2 _ _)
      (HT.tuple_lt_ints a b its.toArray its2.toArray n n2 dd dd2 sl sl2 ns ms ia ib) ⟨ho, ho2, ?_⟩))
    exact wpAny_truthy_bool h
theorem tup_sortable {a : Addr} {vs : List Value} {k : Value → List Int} (h2 : 2 ≤ vs.length) (hu : A.units < cLine) (hv : ∀ v ∈ vs, TupI s.heap v (k v)) (ha : ∀ v ∈ vs, v ≠ .ref a) :
    SrtO.SortableO prog w A s a vs fun v u => HT.lexLt (k v) (k u) := by
  intro h' keep
  have hv' : ∀ v ∈ vs, TupI h' v (k v) := fun v hm => (hv v hm).keeps fun b o e g => keep b o (fun z => ha v hm (by rw [e, z])) g
  obtain ⟨κ, hk, hw⟩ := kind_tup (prog := prog) (w := w) (A := A) (s := { s with heap := h' }) (R := fun κ => κ = tuples' true ∨ κ = general' ∨ κ = oneType') h2 hv' (.inl rfl) (.inr (.inl rfl)) (.inr (.inr rfl))
  refine ⟨κ, hw, fun p q hp hq => ?_⟩
  exact lt_kind (s := { s with heap := h' }) (Q := fun r s' => s' = { s with heap := h' } ∧ r = HT.lexLt (k p.1) (k q.1)) hu hk (hv' _ hp) (hv' _ hq) ⟨rfl, rfl⟩
end
end Ev

namespace L2
open PySem PySem.Spec PyProof.Rows
/-- sorted(xs), xs a list of tuples of ints (k says which) -/
def rSortedTI (K : PySem.W.Frag) : List V → Hp → VK → Prop := fun vs H Q => ∃ (a : Addr) (xs : List V) (k : V → List Int), vs = [V.ref a] ∧ SqL K H a xs ∧ (∀ x ∈ xs, ∃ t, x = V.ref t ∧ SqT K H t ((k x).map V.int)) ∧
  ∀ ys p, SrtO.Srtd (fun x y => HT.lexLt (k x) (k y)) ys → SrtO.Stb (fun x y => HT.lexLt (k x) (k y)) ys xs → H p = none → Q (.ref p) (upd H p (.lst ys))
section
variable {X : Cx}
theorem cr_sortedTI (hu : X.A.units + 64 < cLine) : CallR X (.builtin "sorted") (rSortedTI X.K) := by
  intro pins s σ H vs us Q I r h
  obtain ⟨a, xs, k, rfl, hs, hx, q⟩ := h
  obtain ⟨its, rv, hl, hz⟩ := I.list hs
  obtain ⟨u, rfl, ru⟩ := vals1 r
  obtain rfl : u = Value.ref a := ru
  obtain ⟨e1, e2⟩ := refs_back rv fun x m => by
    obtain ⟨t, e, _⟩ := hx x m
    exact ⟨t, e⟩
  have hzs : its.length ≤ sizeLine := by rw [← rv.length]; exact hz
  have hp : ∀ v ∈ its, Ev.TupI s.heap v (k (backV v)) := fun v hv => by
    obtain ⟨t, rfl⟩ := e2 v hv
    have hm : V.ref t ∈ xs := by rw [e1]; exact List.mem_map.mpr ⟨_, hv, rfl⟩
    obtain ⟨t', e, ht⟩ := hx _ hm
    cases e
    obtain ⟨its2, r2, ht2, _⟩ := I.tuple ht
    exact ⟨t, its2, rfl, ht2, intsAre_of r2⟩
  refine SrtO.sorted_ord (NtL.swo_lexL fun u => k (backV u)) hl.isList hzs (fun h2 h₁ a' ha kk => ?_) fun out h1 h2 => ?_
  · refine Ev.tup_sortable (s := { s with heap := h₁ }) h2 (by show X.A.units + 1 + 1 < cLine; omega) (fun v hv => (hp v hv).keeps fun b o _ e => (kk b o e).2) fun v hv z => ?_
    obtain ⟨t, its2, e, ⟨o, ho, _⟩, _⟩ := hp v hv
    rw [e] at z
    exact (kk t o ho).1 (Value.ref.inj z)
  · have h3 : ∀ u ∈ out, ∃ a, u = Value.ref a := fun u hu => e2 u (h2.perm.mem_iff.mp hu)
    obtain ⟨ep, he'⟩ := PyProof.Rows.sortedAll_at s.heap its out.toArray
    have hb : SrtO.Stb (fun x y => HT.lexLt (k x) (k y)) (out.map backV) xs := by
      rw [e1]
      exact SrtO.Stb.map (NtL.swo_lexL k) backV h2
    have hlen : (out.map backV).length ≤ sizeLine := by
      rw [hb.len]
      exact hz
    exact ⟨.ref _, upd H (s.heap.objs.size + 1) (.lst (out.map backV)), I.laid (t' := s.toks) (fun _ _ => PyProof.Rows.sortedAll_old) (Nat.le_succ _) ⟨hlen, out, ep, vals_back h3, he'⟩, rfl, q _ _ (SrtO.srtd_map h1) hb (I.hok.fresh (Nat.le_succ _))⟩
end
end L2

/-! ### a dict looked for in a list of tuples -/
namespace Ev
open PySem PySem.W PySem.Calls PyProof.Rows
section
open PySem.SeqAt
open PySem.AutoSeq1 (wpAny_loadPart')
open PySem.MeetsSeq
theorem tuple_eq_declines_dict (l b : Addr) (items : Array Value) (n : Nat) (dd : Option Addr) (sl : Array (Option Value)) :
    Meets (Builtin.«tuple.__eq__» ⟨[.ref l, .ref b], []⟩) (fun _ R s => s.heap.get? l = some { cls := .type "tuple", dict := dd, data := .seq items n, slots := sl } ∧ s.TypeIs (.ref b) "dict" ∧ R (.ok (.ret .notImplemented)) s) :=
  .of_wp fun prog w A R s h => by
    obtain ⟨hp, g, d, tk, os⟩ := s
    obtain ⟨hl, hb, h⟩ := h
    obtain ⟨⟨c2, d2, x2, s2⟩, ho2, hc2⟩ := hb
    simp only at hc2 ho2
    subst hc2
    have f1 := F.sub_dict_tuple
    wp_walk using wpAny_loadPart' hl, wpAny_loadPart' ho2
    exact ⟨_, rfl, h⟩
variable {A : Around} {s : Shared}
theorem RcAt.tuple_dict {l b : Addr} {items : Array Value} (hl : s.heap.IsTuple l items) (hb : s.TypeIs (.ref b) "dict") (hu : A.units < cLine) : RcAt A s (.ref l) (.ref b) false := fun prog w E Q h => by
  obtain ⟨⟨cls, dd, data, sl⟩, ho, hc, n, hd⟩ := id hl
  obtain ⟨ob, ho2, hc2⟩ := id hb
  simp only at hc hd
  subst hc hd
  have hne : l ≠ b := fun e => by
    subst e
    rw [ho] at ho2
    cases ho2
    exact absurd hc2 (by simp)
  exact (rc_eq_decline_or (k := false) ⟨_, ho, rfl⟩ hb (by decide) F.sub_dict_tuple F.slot_tuple_eq F.slot_dict_eq_refl
    (fun _ hq => call_meets F.slot_tuple_eq ⟨_, ho, rfl⟩ F.entry_tuple_eq (F.args_tuple_eq_2 _ _) (tuple_eq_declines_dict l b items n dd sl) ⟨ho, hb, hq⟩)
    (fun _ hq => wpAny_call_entry PySem.F.slot_dict_eq_refl hb PySem.F.entry_dict_eq (by
      show wpAny _ _ (Builtin.Dict.dictSlotArgs "__eq__" ⟨[.ref b, .ref l], []⟩ >>= _) _ _ s
      refine wpAny_bind ?_
      unfold Builtin.Dict.dictSlotArgs
      refine wpAny_bind (wpAny_notOrdered_dict hb ?_)
      show wpAny _ _ (pure (Value.ref b, Value.ref l)) _ _ s
      refine wpAny_pure ?_
      refine wpAny_bind (wpAny_isInstance (T := "tuple") ⟨_, ho, rfl⟩ PySem.F.sub_tuple_dict ?_)
      simp only [Bool.not_false, if_true]
      exact wpAny_bind (wpAny_rule (wpAny_bind (wpAny_pure (wpAny_pure ⟨_, rfl, hq⟩))))) (PySem.F.args_dict_eq_2 _ _))
    (fun _ hq => wpAny_isSame_ref_other' hne ho ho2 (by rw [hc2]; simp) hq) (.inr hu) h)
theorem EqAt.tuple_dict {l b : Addr} {items : Array Value} (hl : s.heap.IsTuple l items) (hb : s.TypeIs (.ref b) "dict") (hu : A.units < cLine) : EqAt A s (.ref l) (.ref b) false := by
  refine SeqAt.EqAt.of_refs (fun e => ?_) (RcAt.tuple_dict hl hb hu)
  subst e
  obtain ⟨o, ho, hc, _⟩ := hl
  obtain ⟨o2, ho2, hc2⟩ := hb
  rw [ho] at ho2
  cases ho2
  rw [hc] at hc2
  exact absurd hc2 (by simp)
end
end Ev
namespace L2
open PySem PySem.Spec PyProof.Rows
section
variable {X : Cx}
/-- x [not] in ys, x a dict, ys a list of tuples -/
def rInDT (K : PySem.W.Frag) (r : Bool) : R2 := fun x y H Q => ∃ (d a : Addr) (xs : List V) (kvs : List (Key × V)), x = .ref d ∧ Rd H d (.dK kvs) ∧ y = .ref a ∧ SqL K H a xs ∧ (∀ z ∈ xs, ∃ t zs, z = V.ref t ∧ SqT K H t zs) ∧ Q (.bl r) H
theorem vals_mem : ∀ {xs : List V} {its : List Value}, Vals xs its → ∀ v ∈ its, ∃ x ∈ xs, RelV x v
  | _, _, .nil, v, h => absurd h (by simp)
  | _, _, .cons r t, v, h => by
    rcases List.mem_cons.mp h with e | h
    · subst e
      exact ⟨_, List.mem_cons_self, r⟩
    · obtain ⟨x, hx, r⟩ := vals_mem t v h
      exact ⟨x, List.mem_cons_of_mem _ hx, r⟩
theorem dT_items {pins : List (Addr × Obj)} {σ : St} {H : Hp} {s : Shared} {d : Addr} {xs : List V} {kvs : List (Key × V)} {its : List Value} (hu : X.A.units + 64 < cLine) (I : Inv X pins σ H s) (rv : Vals xs its) (hd : Rd H d (.dK kvs)) (hx : ∀ z ∈ xs, ∃ t zs, z = V.ref t ∧ SqT X.K H t zs) :
    ∀ v ∈ its.toArray, SeqAt.EqAt X.A.in1 s v (.ref d) false := fun v hv => by
  obtain ⟨x, hm, r⟩ := vals_mem rv v (by simpa using hv)
  obtain ⟨t, zs, rfl, ht⟩ := hx x hm
  cases r
  obtain ⟨its2, r2, ht2, _⟩ := I.tuple ht
  have td : s.TypeIs (.ref d) "dict" := by
    obtain ⟨_, _, vs, _, hd⟩ := hd.ok I.hok
    exact hd.typeIs
  exact Ev.EqAt.tuple_dict (A := X.A.in1) ht2 td (by show X.A.units + _ < cLine; omega)
theorem op_inDT (hu : X.A.units + 64 < cLine) : OpR X (compareOp .In) (rInDT X.K false) := by
  intro pins s σ H x y v u Q I rx ry h
  obtain ⟨d, a, xs, kvs, rfl, hd, rfl, hs, hx, q⟩ := h
  cases rx
  cases ry
  obtain ⟨its, rv, hl, hz⟩ := I.list hs
  refine SeqAt.in_listAt (fun _ => false) hl.isList (dT_items hu I rv hd hx) ?_
  have e : (its.toArray.any fun _ => false) = false := by simp
  rw [e]
  exact ⟨.bl _, H, I, rfl, q⟩
theorem op_notInDT (hu : X.A.units + 64 < cLine) : OpR X (compareOp .NotIn) (rInDT X.K true) := by
  intro pins s σ H x y v u Q I rx ry h
  obtain ⟨d, a, xs, kvs, rfl, hd, rfl, hs, hx, q⟩ := h
  cases rx
  cases ry
  obtain ⟨its, rv, hl, hz⟩ := I.list hs
  refine SeqAt.notIn_listAt (fun _ => false) hl.isList (dT_items hu I rv hd hx) ?_
  have e : (its.toArray.any fun _ => false) = false := by simp
  rw [e]
  exact ⟨.bl _, H, I, rfl, q⟩
end
end L2
set_option Elab.async false
set_option linter.all false
set_option maxRecDepth 100000
set_option autoImplicit false
set_option maxHeartbeats 1000000
/-! Ev, part E: the operations by values. -/
namespace Ev
open PySem L2

/-- from H, φ on: K of what comes, W of an exception -/
def Post (g : G) (W : WX) (H : Hp) (φ : List Addr) (τ : St) {α : Type} (K : α → Store → Hp → List Addr → Prop) : R α → Prop
  | .ok a S' => ∀ H' φ', Ext g H φ H' φ' → Rel g H' φ' S' → K a S' H' φ'
  | .ex c dd S' => ∀ H' φ' dx, Ext g H φ H' φ' → Rel g H' φ' S' → XEm g H' φ' c dd dx → W (.ref (g.ca c)) dx τ H'
  | .bad => False
section
variable {g : G} {W : WX} {H H1 : Hp} {φ φ1 : List Addr} {τ : St} {α β : Type} {K K' : α → Store → Hp → List Addr → Prop}
theorem Post.shift {r : R α} (e : Ext g H φ H1 φ1) (h : Post g W H φ τ K r) : Post g W H1 φ1 τ K r := by
  cases r with
  | ok a S => exact fun H' φ' e' r' => h H' φ' (e.trans e') r'
  | ex c dd S => exact fun H' φ' dx e' r' x => h H' φ' dx (e.trans e') r' x
  | bad => exact h
theorem Post.mono {r : R α} (h : Post g W H φ τ K r) (k : ∀ a S' H' φ', Ext g H φ H' φ' → Rel g H' φ' S' → K a S' H' φ' → K' a S' H' φ') : Post g W H φ τ K' r := by
  cases r with
  | ok a S => exact fun H' φ' e' r' => k a S H' φ' e' r' (h H' φ' e' r')
  | ex c dd S => exact h
  | bad => exact h
theorem Post.bnd {r : R α} {f : α → Store → R β} {K : β → Store → Hp → List Addr → Prop} (h : Post g W H φ τ K (r.bind f)) : Post g W H φ τ (fun a S1 _ _ => Post g W H φ τ K (f a S1)) r := by
  cases r with
  | ok a S => exact fun H' φ' e' r' => h
  | ex c dd S => exact h
  | bad => exact h
theorem Post.ofO {S : Store} {o : Option α} (h : Post g W H φ τ K (Ev.ofO S o)) : ∃ a, o = some a ∧ Post g W H φ τ K (.ok a S) := by
  cases o with
  | none => exact (show False from h).elim
  | some a => exact ⟨a, rfl, h⟩
end

/-- what an operation asks and gives -/
def rOp (g : G) (f : Store → T → T → Option T) : R2 := fun x y H Q => ∃ S φ t1 t2 t, Rel g H φ S ∧ TEm g H φ t1 x ∧ TEm g H φ t2 y ∧ f S t1 t2 = some t ∧
  ∀ H' v, Ext g H φ H' φ → Rel g H' φ S → TEm g H' φ t v → Fr H t v → Q v H'
section
variable {g : G} {X : Cx} {pins : List (Addr × Obj)} {s : Shared} {σ : St} {H : Hp} {φ : List Addr} {S : Store} {Q : VK}
/-- a new object, handed on as one's own -/
theorem give_new {o : O} {ho : HO} {p : Addr} (r : Rel g H φ S) (hp : H p = none) (hm : HOm g H φ o ho) (h : ∀ H' v, Ext g H φ H' φ → Rel g H' φ S → TEm g H' φ (.t o) v → Fr H (.t o) v → Q v H') : Q (.ref p) (upd H p ho) :=
  h _ _ (Ext.new hp) (r.new hp) ⟨p, ho, rfl, upd_same, r.notin hp, hm.ext (Ext.new (φ := φ) (g := g) hp).toLe⟩ fun q e => by cases e; exact hp
theorem give_tup {ds : List D} {vs : List V} {p : Addr} (r : Rel g H φ S) (hp : H p = none) (hm : Ems g H φ ds vs) (h : ∀ H' v, Ext g H φ H' φ → Rel g H' φ S → TEm g H' φ (.v (.tup ds)) v → Fr H (.v (.tup ds)) v → Q v H') : Q (.ref p) (upd H p (.tup vs)) :=
  h _ _ (Ext.new hp) (r.new hp) (Em.tup (SqT.of upd_same) (hm.ext (Ext.new (φ := φ) (g := g) hp).toLe)) trivial
theorem give {d : D} {v : V} (r : Rel g H φ S) (hm : Em g H φ d v) (h : ∀ H' v, Ext g H φ H' φ → Rel g H' φ S → TEm g H' φ (.v d) v → Fr H (.v d) v → Q v H') : Q v H := h H v Ext.refl r hm trivial
theorem B64_ok {i : Int} (h : B64 i = true) : -(2 ^ 64) < i ∧ i < 2 ^ 64 := by
  unfold B64 at h
  rw [Bool.and_eq_true, decide_eq_true_eq, decide_eq_true_eq] at h
  exact h
theorem opI_sound {op : Operator} {o : Op2} (hb : binC op = some o) {i j z : Int} (hz : opI o i j = some z) {t u : Tok} (I : Inv X pins σ H s) (q : Q (.int z) H) :
    wpAny (model X.prog X.w) X.A (binaryOp op (.int i t) (.int j u)) (EP X pins σ Q) X.xe s := by
  have rx : RelV (.int i) (.int i t) := ⟨_, rfl⟩
  have ry : RelV (.int j) (.int j u) := ⟨_, rfl⟩
  cases op <;> simp only [binC, Option.some.injEq, reduceCtorEq] at hb <;> subst hb <;> simp only [opI] at hz
  case Add => cases hz; exact op_add pins s σ H _ _ _ _ Q I rx ry ⟨_, _, rfl, rfl, q⟩
  case Sub => cases hz; exact op_sub pins s σ H _ _ _ _ Q I rx ry ⟨_, _, rfl, rfl, q⟩
  case Mult =>
    split at hz
    · rename_i hc
      cases hz
      rw [Bool.or_eq_true] at hc
      exact op_mul pins s σ H _ _ _ _ Q I rx ry ⟨_, _, rfl, rfl, hc.elim (fun h => .inl (B64_ok h)) (fun h => .inr (B64_ok h)), q⟩
    · cases hz
  case Mod =>
    split at hz
    · cases hz; exact op_mod pins s σ H _ _ _ _ Q I rx ry ⟨_, _, rfl, rfl, by assumption, q⟩
    · cases hz
  case Pow =>
    split at hz
    · cases hz; exact op_pow pins s σ H _ _ _ _ Q I rx ry ⟨_, _, rfl, rfl, by assumption, q⟩
    · cases hz
  case LShift =>
    split at hz
    · cases hz; exact op_shl pins s σ H _ _ _ _ Q I rx ry ⟨_, _, rfl, rfl, by assumption, q⟩
    · cases hz
  case RShift =>
    split at hz
    · cases hz; exact op_shr pins s σ H _ _ _ _ Q I rx ry ⟨_, _, rfl, rfl, by assumption, q⟩
    · cases hz
  case BitOr => cases hz; exact op_or pins s σ H _ _ _ _ Q I rx ry ⟨_, _, rfl, rfl, q⟩
  case BitXor => cases hz; exact op_xor pins s σ H _ _ _ _ Q I rx ry ⟨_, _, rfl, rfl, q⟩
  case BitAnd => cases hz; exact op_and pins s σ H _ _ _ _ Q I rx ry ⟨_, _, rfl, rfl, q⟩
  case FloorDiv =>
    split at hz
    · cases hz; exact op_fdiv pins s σ H _ _ _ _ Q I rx ry ⟨_, _, rfl, rfl, by assumption, q⟩
    · cases hz
theorem binC_add {op : Operator} (h : binC op = some .add) : op = .Add := by cases op <;> simp_all [binC]
theorem binC_mul {op : Operator} (h : binC op = some .mul) : op = .Mult := by cases op <;> simp_all [binC]
theorem opL_sound {op : Operator} {o : Op2} (hb : binC op = some o) {a b t : T} {x y : V} {v u : Value} (I : Inv X pins σ H s) (rx : RelV x v) (ry : RelV y u) (r : Rel g H φ S) (ha : TEm g H φ a x) (hb' : TEm g H φ b y) (ht : opL S o a b = some t)
    (h : ∀ H' v, Ext g H φ H' φ → Rel g H' φ S → TEm g H' φ t v → Fr H t v → Q v H') : wpAny (model X.prog X.w) X.A (binaryOp op v u) (EP X pins σ Q) X.xe s := by
  unfold opL at ht
  split at ht
  · -- lists put together
    have e := binC_add hb
    subst e
    split at ht
    · rename_i xs ys hx hy
      split at ht
      · rename_i hl
        cases ht
        obtain ⟨p, vs, e1, h1, m1⟩ := ha.lstW r hx
        obtain ⟨q, ws, e2, h2, m2⟩ := hb'.lstW r hy
        exact op_cat pins s σ H _ _ _ _ Q I rx ry ⟨p, q, vs, ws, e1, e2, h1, h2, by rw [← m1.length, ← m2.length]; exact hl, fun n hn => give_new (o := .lst _) r hn ⟨_, rfl, m1.append m2⟩ h⟩
      · cases ht
    · cases ht
  · rename_i k
    have e := binC_mul hb
    subst e
    split at ht
    · rename_i _ xs hx
      split at ht
      · rename_i hl
        cases ht
        obtain ⟨p, vs, e1, h1, m1⟩ := ha.lstW r hx
        cases hb'
        exact op_rep pins s σ H _ _ _ _ Q I rx ry ⟨p, k, vs, e1, rfl, h1, hl.1, hl.2.1, by rw [← m1.length]; exact hl.2.2, fun n hn => give_new (o := .lst _) r hn ⟨_, rfl, m1.rep _⟩ h⟩
      · cases ht
    · cases ht
  · cases ht
theorem op_sound {op : Operator} {o : Op2} (hK : X.K = g.K) (hb : binC op = some o) : OpR X (binaryOp op) (rOp g fun S a b => opE S o a b) := by
  rintro pins s σ H x y v u Q I rx ry ⟨S, φ, a, b, t, r, ha, hb', ht, h⟩
  simp only [opE] at ht
  split at ht
  · -- ints
    rename_i i j
    cases ha
    cases hb'
    obtain ⟨t1, rfl⟩ := rx
    obtain ⟨t2, rfl⟩ := ry
    cases hz : opI o i j with
    | none => rw [hz] at ht; cases ht
    | some z =>
      rw [hz] at ht
      cases ht
      exact opI_sound hb hz I (give r (.int _) h)
  · -- texts
    have e := binC_add hb
    subst e
    split at ht
    · cases ht
      cases ha
      cases hb'
      exact op_add_str pins s σ H _ _ _ _ Q I rx ry ⟨_, _, rfl, rfl, by assumption, give r (.str _) h⟩
    · cases ht
  · -- tuples
    have e := binC_add hb
    subst e
    split at ht
    · rename_i hl
      cases ht
      cases ha with
      | tup h1 m1 =>
        cases hb' with
        | tup h2 m2 =>
          rw [← hK] at h1 h2
          refine op_catA pins s σ H _ _ _ _ Q I rx ry ⟨_, _, _, _, rfl, rfl, h1, h2, by rw [← m1.length, ← m2.length]; exact hl, fun z => ?_, fun _ z => ?_, fun _ _ n hn => give_tup r hn (m1.append m2) h⟩
          · subst z
            cases m1
            rw [hK] at h2
            exact give r (.tup h2 m2) h
          · subst z
            cases m2
            rw [hK] at h1
            rw [List.append_nil] at h
            exact give r (.tup h1 m1) h
    · cases ht
  · have e := binC_mul hb
    subst e
    split at ht
    · rename_i hl
      cases ht
      cases ha with
      | tup h1 m1 =>
        cases hb'
        rw [← hK] at h1
        refine op_repT pins s σ H _ _ _ _ Q I rx ry ⟨_, _, _, rfl, rfl, h1, fun z => ?_, hl.2.1, hl.2.2.1, by rw [← m1.length]; exact hl.2.2.2, fun n hn => give_tup r hn (m1.rep _) h⟩
        subst z
        cases m1
        exact hl.1 rfl
    · cases ht
  · exact opL_sound hb I rx ry r ha hb' ht h

/-! ### comparisons -/
mutual
theorem toPyW_dp {f : Nat → Option PyData} (hf : ∀ (n : Nat) (p : PyData), f n = some p → ∀ v, Em g H φ (.ref n) v → Dp g.K H v p) : ∀ (d : D) (p : PyData) (v : V), toPyW f d = some p → Em g H φ d v → Dp g.K H v p
  | .non, p, _, e, h => by cases h; cases e; exact .non
  | .bl _, p, _, e, h => by cases h; cases e; exact .bl _
  | .int _, p, _, e, h => by cases h; cases e; exact .int _
  | .str _, p, _, e, h => by cases h; cases e; exact .str _
  | .tup ds, p, _, e, h => by
    cases h with
    | tup h1 h2 =>
      rw [toPyW] at e
      cases hq : toPysW f ds with
      | none => rw [hq] at e; cases e
      | some ps =>
        rw [hq] at e
        cases e
        exact .tup h1 (toPysW_dp hf ds ps _ hq h2)
  | .ref n, p, v, e, h => hf n p e v h
  | .fn _, p, _, e, h => by cases e
  | .cls _, p, _, e, h => by cases e
theorem toPysW_dp {f : Nat → Option PyData} (hf : ∀ (n : Nat) (p : PyData), f n = some p → ∀ v, Em g H φ (.ref n) v → Dp g.K H v p) : ∀ (ds : List D) (ps : List PyData) (vs : List V), toPysW f ds = some ps → Ems g H φ ds vs → DpAll g.K H vs ps
  | [], ps, _, e, h => by cases h; cases e; exact .nil
  | d :: ds, ps, _, e, h => by
    cases h with
    | cons h1 h2 =>
      rw [toPysW] at e
      cases hq : toPyW f d with
      | none => rw [hq] at e; cases e
      | some q =>
        rw [hq] at e
        cases hr : toPysW f ds with
        | none => rw [Option.bind_some, hr] at e; cases e
        | some qs =>
          rw [Option.bind_some, hr] at e
          cases e
          exact .cons (toPyW_dp hf d q _ hq h1) (toPysW_dp hf ds qs _ hr h2)
end
theorem refPy_dp (r : Rel g H φ S) : ∀ (k n : Nat) (p : PyData), refPy k S n = some p → ∀ v, Em g H φ (.ref n) v → Dp g.K H v p
  | 0, _, _, e, _, _ => by cases e
  | k + 1, n, p, e, v, h => by
    rw [refPy] at e
    cases hl : lstR S (.v (.ref n)) with
    | none => rw [hl] at e; cases e
    | some ds =>
      rw [hl, Option.bind_some] at e
      cases hq : toPysW (refPy k S) ds with
      | none => rw [hq] at e; cases e
      | some ps =>
        rw [hq] at e
        cases e
        obtain ⟨q, vs, rfl, h1, h2⟩ := TEm.lstR (t := .v (.ref n)) r h hl
        exact .lst h1 (toPysW_dp (refPy_dp r k) ds ps vs hq h2)
theorem toPy_dp (r : Rel g H φ S) {t : T} {p : PyData} {v : V} (e : toPy S t = some p) (h : TEm g H φ t v) : Dp g.K H v p := by
  cases t with
  | v d => exact toPyW_dp (refPy_dp r 3) d p v e h
  | t o =>
    cases o with
    | lst ds =>
      have e' : (toPysW (refPy 3 S) ds).map PyData.list = some p := e
      cases hq : toPysW (refPy 3 S) ds with
      | none => rw [hq] at e'; cases e'
      | some ps =>
        rw [hq] at e'
        cases e'
        obtain ⟨q, ho, rfl, h1, _, vs, rfl, h2⟩ := h
        exact .lst (SqL.of h1) (toPysW_dp (refPy_dp r 3) ds ps vs hq h2)
    | _ => cases e
theorem eqE_sound {a b : T} {x y : V} {c : Bool} (r : Rel g H φ S) (ha : TEm g H φ a x) (hb : TEm g H φ b y) (e : eqE S a b = some c) : ∃ p q, Dp g.K H x p ∧ Dp g.K H y q ∧ SeqAt.shaped p = true ∧ SeqAt.shaped q = true ∧ c = PyData.eqv p q := by
  unfold eqE at e
  split at e
  · rename_i p q h1 h2
    split at e
    · rename_i hs
      cases e
      exact ⟨p, q, toPy_dp r h1 ha, toPy_dp r h2 hb, hs.1, hs.2, rfl⟩
    · cases e
  · cases e
theorem Em.flat {d : D} {v : V} (h : Em g H φ d v) (f : flatD d = true) : flatV v = true := by
  cases h <;> first | rfl | cases f
theorem Ems.flat : ∀ {ds : List D} {vs : List V}, Ems g H φ ds vs → ds.all flatD = true → vs.all flatV = true
  | [], _, h, _ => by cases h; rfl
  | _ :: _, _, h, f => by
    cases h with
    | cons h1 h2 =>
      rw [List.all_cons, Bool.and_eq_true] at f
      rw [List.all_cons, h1.flat f.1, Ems.flat h2 f.2]
      rfl
theorem eqF_eqV {d e : D} {x y : V} (h : Em g H φ d x) (k : Em g H φ e y) (f1 : flatD d = true) (f2 : flatD e = true) : eqV x y = eqF d e := by
  cases h <;> cases k <;> first | rfl | cases f1 | cases f2
theorem any_eqF {d : D} {x : V} (h : Em g H φ d x) (f : flatD d = true) : ∀ {ds : List D} {vs : List V}, Ems g H φ ds vs → ds.all flatD = true → (vs.any fun y => eqV y x) = ds.any fun z => eqF z d
  | [], _, h, _ => by cases h; rfl
  | _ :: _, _, k, f2 => by
    cases k with
    | cons h1 h2 =>
      rw [List.all_cons, Bool.and_eq_true] at f2
      rw [List.any_cons, List.any_cons, eqF_eqV h1 h f2.1 f, any_eqF h f h2 f2.2]
theorem valK_eq {κ : Type} [DecidableEq κ] (k : κ) : ∀ {kvs : List (κ × D)} {ws : List (κ × V)}, ws.map (·.1) = kvs.map (·.1) → Ems g H φ (kvs.map (·.2)) (ws.map (·.2)) →
    (valV ws k).isSome = (valK k kvs).isSome ∧ ∀ d, valK k kvs = some d → ∃ v, valV ws k = some v ∧ Em g H φ d v
  | [], ws, h1, h2 => by
    cases ws with
    | nil => exact ⟨rfl, fun d e => by cases e⟩
    | cons _ _ => cases h1
  | (x, d) :: r, ws, h1, h2 => by
    cases ws with
    | nil => cases h1
    | cons w ws =>
      obtain ⟨y, v⟩ := w
      simp only [List.map_cons, List.cons.injEq] at h1 h2
      obtain ⟨e1, h1⟩ := h1
      subst e1
      cases h2 with
      | cons k1 k2 =>
        have ih := valK_eq k h1 k2
        have hv : valV ((y, v) :: ws) k = if y = k then some v else valV ws k := by
          unfold valV
          rw [List.find?_cons]
          by_cases e : y = k
          · simp [e]
          · simp [e]
        rw [hv]
        unfold valK
        by_cases e : y = k
        · rw [if_pos e, if_pos e]
          exact ⟨rfl, fun d' e' => by cases e'; exact ⟨v, rfl, k1⟩⟩
        · rw [if_neg e, if_neg e]
          exact ih
theorem keyOf_V {d : D} {k : Key} {v : V} (e : keyOf d = some k) (h : Em g H φ d v) : v = kV k := by
  cases h <;> cases e <;> rfl
theorem non_iff {a : T} {x : V} (h : TEm g H φ a x) : decide (x = .non) = decide (a = .v .non) := by
  cases a with
  | v d => cases h <;> simp
  | t o =>
    obtain ⟨p, ho, rfl, _⟩ := h
    simp
theorem intsOf_Em : ∀ {ds : List D} {is : List Int} {vs : List V}, intsOf ds = some is → Ems g H φ ds vs → vs = is.map V.int
  | [], _, _, e, h => by cases h; cases e; rfl
  | d :: ds, is, _, e, h => by
    cases h with
    | cons h1 h2 =>
      cases h1 with
      | int i =>
        have e' : (intsOf ds).map (i :: ·) = some is := e
        cases hq : intsOf ds with
        | none => rw [hq] at e'; cases e'
        | some js =>
          rw [hq] at e'
          cases e'
          rw [intsOf_Em hq h2]
          rfl
      | _ => cases e
theorem inV_of {x : V} {xs : List V} : inV x xs = xs.any fun y => eqV y x := rfl
/-- in, by values -/
theorem dct_at {a : T} {x : V} (r : Rel g H φ S) (ha : TEm g H φ a x) (h : isDct S a = true) : ∃ ws p, x = .ref p ∧ Rd H p (.dK ws) := by
  unfold isDct at h
  split at h
  · rename_i kvs hk
    obtain ⟨p, ho, o', rfl, h1, h2, h3⟩ := ha.objR r hk rfl
    have h3' : unlk o' = .dK kvs := by
      rcases h3 with h3 | h3
      · rw [← h3]; rfl
      · exact h3.symm
    cases o' with
    | dK kvs' =>
      cases h3'
      obtain ⟨ws, rfl, k1, k2⟩ := h2
      exact ⟨ws, p, rfl, .inl h1⟩
    | lk o2 =>
      have h3' : o2 = .dK kvs := h3'
      subst h3'
      obtain ⟨ob, ho', rfl, ws, rfl, k1, k2⟩ := h2
      exact ⟨ws, p, rfl, .inr ⟨ob, h1⟩⟩
    | _ => cases h3'
  · cases h
theorem ems_tups : ∀ {ds : List D} {vs : List V}, Ems g H φ ds vs → ds.all isTupD = true → ∀ z ∈ vs, ∃ t zs, z = V.ref t ∧ SqT g.K H t zs
  | _, _, .nil, _, z, hz => absurd hz (by simp)
  | _, _, .cons (d := d) m ms, h, z, hz => by
    rw [List.all_cons, Bool.and_eq_true] at h
    rcases List.mem_cons.mp hz with e | hz
    · subst e
      cases m with
      | tup h1 h2 => exact ⟨_, _, rfl, h1⟩
      | _ => simp [isTupD] at h
    · exact ems_tups ms h.2 z hz
theorem tups_at {b : T} {y : V} (r : Rel g H φ S) (hb : TEm g H φ b y) (h : allTup S b = true) : ∃ p vs, y = .ref p ∧ SqL g.K H p vs ∧ ∀ z ∈ vs, ∃ t zs, z = V.ref t ∧ SqT g.K H t zs := by
  unfold allTup at h
  split at h
  · rename_i ds hd
    obtain ⟨p, vs, rfl, h1, h2⟩ := hb.lstR r hd
    exact ⟨p, vs, rfl, h1, ems_tups h2 h⟩
  · cases h
theorem memE_sound {a b : T} {x y : V} {v u : Value} {c : Bool} (hK : X.K = g.K) (hu : X.A.units + 65 < cLine) (I : Inv X pins σ H s) (rx : RelV x v) (ry : RelV y u) (r : Rel g H φ S) (ha : TEm g H φ a x) (hb : TEm g H φ b y) (e : memE S a b = some c) :
    (∀ Q : VK, Q (.bl c) H → wpAny (model X.prog X.w) X.A (compareOp .In v u) (EP X pins σ Q) X.xe s) ∧ ∀ Q : VK, Q (.bl (!c)) H → wpAny (model X.prog X.w) X.A (compareOp .NotIn v u) (EP X pins σ Q) X.xe s := by
  unfold memE at e
  split at e
  · -- a tuple of flat things
    rename_i ds
    split at e
    · rename_i d
      split at e
      · rename_i hf
        cases e
        cases hb with
        | tup h1 h2 =>
          rw [← hK] at h1
          have hx : flatV x = true := Em.flat ha hf.1
          have hv := h2.flat hf.2
          have he := any_eqF ha hf.1 h2 hf.2
          refine ⟨fun Q q => op_in_seq pins s σ H _ _ _ _ Q I rx ry ⟨_, _, rfl, .inr h1, hx, hv, ?_⟩, fun Q q => op_notIn_seq pins s σ H _ _ _ _ Q I rx ry ⟨_, _, rfl, .inr h1, hx, hv, ?_⟩⟩
          · rw [if_neg Bool.false_ne_true, inV_of, he]; exact q
          · rw [if_pos rfl, inV_of, he]; exact q
      · cases e
    · cases e
  · split at e
    · -- a list
      split at e
      · rename_i p qs h1 h2
        split at e
        · rename_i hs
          cases e
          have d1 := toPy_dp r h1 ha
          have d2 := toPy_dp r h2 hb
          rw [← hK] at d1 d2
          exact ⟨fun Q q => op_inD hu pins s σ H _ _ _ _ Q I rx ry ⟨p, qs, d1, d2, hs.1, hs.2, q⟩, fun Q q => op_notInD hu pins s σ H _ _ _ _ Q I rx ry ⟨p, qs, d1, d2, hs.1, hs.2, q⟩⟩
        · cases e
      · -- a dict in a list of tuples
        split at e
        · rename_i hs
          cases e
          rw [Bool.and_eq_true] at hs
          obtain ⟨kvs, p, hp1, hp2⟩ := dct_at r ha hs.1
          obtain ⟨q, vs, hq1, hq2, hq3⟩ := tups_at r hb hs.2
          subst hp1 hq1
          rw [← hK] at hq2 hq3
          exact ⟨fun Q q' => op_inDT (by omega) pins s σ H _ _ _ _ Q I rx ry ⟨p, q, vs, kvs, rfl, hp2, rfl, hq2, hq3, q'⟩, fun Q q' => op_notInDT (by omega) pins s σ H _ _ _ _ Q I rx ry ⟨p, q, vs, kvs, rfl, hp2, rfl, hq2, hq3, q'⟩⟩
        · cases e
    · -- a dict
      rename_i kvs hk
      split at e
      · rename_i d
        cases hq : keyOf d with
        | none => rw [hq] at e; cases e
        | some k =>
          rw [hq] at e
          cases e
          obtain ⟨p, ho, o', rfl, h1, h2, h3⟩ := hb.objR r hk rfl
          have hx : x = kV k := keyOf_V hq ha
          obtain ⟨ws, hr, e1, e2⟩ : ∃ ws, Rd H p (.dK ws) ∧ ws.map (·.1) = kvs.map (·.1) ∧ Ems g H φ (kvs.map (·.2)) (ws.map (·.2)) := by
            have h3' : unlk o' = .dK kvs := by
              rcases h3 with h3 | h3
              · rw [← h3]; rfl
              · exact h3.symm
            cases o' with
            | dK kvs' =>
              cases h3'
              obtain ⟨ws, rfl, k1, k2⟩ := h2
              exact ⟨ws, .inl h1, k1, k2⟩
            | lk o2 =>
              have h3' : o2 = .dK kvs := h3'
              subst h3'
              obtain ⟨ob, ho', rfl, ws, rfl, k1, k2⟩ := h2
              exact ⟨ws, .inr ⟨ob, h1⟩, k1, k2⟩
            | _ => cases h3'
          have hd : DGet H p x (valV ws k) := .inl ⟨ws, k, hr, hx, rfl⟩
          have hv := (valK_eq k e1 e2).1
          cases (show u = Value.ref p from ry)
          exact ⟨fun Q q => d_in (by omega) I hd rx fun s' I' => ⟨.bl _, H, I', by rw [hv]; rfl, q⟩, fun Q q => d_notIn (by omega) I hd rx fun s' I' => ⟨.bl _, H, I', by rw [hv]; rfl, q⟩⟩
      · cases e
    · cases e
theorem isE_sound {a b : T} {x y : V} {v u : Value} {c : Bool} (I : Inv X pins σ H s) (rx : RelV x v) (ry : RelV y u) (ha : TEm g H φ a x) (hb : TEm g H φ b y) (e : isE a b = some c) :
    (∀ Q : VK, Q (.bl c) H → wpAny (model X.prog X.w) X.A (compareOp .Is v u) (EP X pins σ Q) X.xe s) ∧ ∀ Q : VK, Q (.bl (!c)) H → wpAny (model X.prog X.w) X.A (compareOp .IsNot v u) (EP X pins σ Q) X.xe s := by
  unfold isE at e
  split at e
  · cases e
    cases hb
    exact ⟨fun Q q => op_isN pins s σ H _ _ _ _ Q I rx ry ⟨rfl, by rw [non_iff ha]; exact q⟩, fun Q q => op_notN pins s σ H _ _ _ _ Q I rx ry ⟨rfl, by rw [non_iff ha]; exact q⟩⟩
  · cases e
    cases ha
    cases hb
    exact ⟨fun Q q => op_isBl pins s σ H _ _ _ _ Q I rx ry ⟨_, _, rfl, rfl, q⟩, fun Q q => op_notBl pins s σ H _ _ _ _ Q I rx ry ⟨_, _, rfl, rfl, q⟩⟩
  · cases e
theorem cmp_sound {op : CmpOp} {o : Cm} (hK : X.K = g.K) (hu : X.A.units + 65 < cLine) (hb : cmpC op = some o) : OpR X (compareOp op) (rOp g fun S a b => (cmpE S o a b).map fun c => .v (.bl c)) := by
  rintro pins s σ H x y v u Q I rx ry ⟨S, φ, a, b, t, r, ha, hb', ht, h⟩
  replace ht : (cmpE S o a b).map (fun c => T.v (.bl c)) = some t := ht
  cases hc : cmpE S o a b with
  | none => rw [hc] at ht; cases ht
  | some c =>
    rw [hc] at ht
    cases ht
    have q : Q (.bl c) H := give r (.bl _) h
    clear h
    have dn : ∀ {f : Bool → Bool} {o : Option Bool}, o.map f = some c → ∃ c', o = some c' ∧ c = f c' := fun {f o} e => by
      cases o with
      | none => cases e
      | some c' => cases e; exact ⟨c', rfl, rfl⟩
    cases op <;> simp only [cmpC, Option.some.injEq] at hb <;> subst hb <;> simp only [cmpE] at hc
    case Eq =>
      obtain ⟨p, q', d1, d2, s1, s2, rfl⟩ := eqE_sound r ha hb' hc
      rw [← hK] at d1 d2
      exact op_eqD (by omega) pins s σ H _ _ _ _ Q I rx ry ⟨p, q', d1, d2, s1, s2, q⟩
    case NotEq =>
      obtain ⟨c', hd, rfl⟩ := dn hc
      obtain ⟨p, q', d1, d2, s1, s2, rfl⟩ := eqE_sound r ha hb' hd
      rw [← hK] at d1 d2
      exact op_neD (by omega) pins s σ H _ _ _ _ Q I rx ry ⟨p, q', d1, d2, s1, s2, q⟩
    case In => exact (memE_sound hK hu I rx ry r ha hb' hc).1 Q q
    case NotIn =>
      obtain ⟨c', hd, rfl⟩ := dn hc
      exact (memE_sound hK hu I rx ry r ha hb' hd).2 Q q
    case Is => exact (isE_sound I rx ry ha hb' hc).1 Q q
    case IsNot =>
      obtain ⟨c', hd, rfl⟩ := dn hc
      exact (isE_sound I rx ry ha hb' hd).2 Q q
    case Lt =>
      split at hc
      · rename_i d e
        unfold ltD at hc
        split at hc
        · cases hc
          cases ha
          cases hb'
          exact op_lt pins s σ H _ _ _ _ Q I rx ry ⟨_, _, rfl, rfl, q⟩
        · cases hc
          cases ha
          cases hb'
          exact op_lt_str pins s σ H _ _ _ _ Q I rx ry ⟨_, _, rfl, rfl, q⟩
        · split at hc
          · rename_i xs ys h1 h2
            cases hc
            cases ha with
            | tup t1 m1 =>
              cases hb' with
              | tup t2 m2 =>
                have e1 := intsOf_Em h1 m1
                have e2 := intsOf_Em h2 m2
                subst e1 e2
                rw [← hK] at t1 t2
                exact op_ltT (by omega) pins s σ H _ _ _ _ Q I rx ry ⟨_, _, _, _, rfl, rfl, t1, t2, q⟩
          · cases hc
        · cases hc
      · cases hc
    case LtE =>
      split at hc
      · cases ha
        cases hb'
        cases hc
        exact op_le pins s σ H _ _ _ _ Q I rx ry ⟨_, _, rfl, rfl, q⟩
      · cases hc
    case Gt =>
      split at hc
      · cases ha
        cases hb'
        cases hc
        exact op_gt pins s σ H _ _ _ _ Q I rx ry ⟨_, _, rfl, rfl, q⟩
      · cases hc
    case GtE =>
      split at hc
      · cases ha
        cases hb'
        cases hc
        exact op_ge pins s σ H _ _ _ _ Q I rx ry ⟨_, _, rfl, rfl, q⟩
      · cases hc
end
end Ev
set_option Elab.async false
set_option linter.all false
set_option maxRecDepth 100000
set_option autoImplicit false
set_option maxHeartbeats 1000000
/-! Ev, part F: built-ins, subscripts, methods, by values. -/
namespace Ev
open PySem L2

def biV : Bi → Value
  | .len => .builtin "len" | .all => .builtin "all" | .any => .builtin "any" | .tuple => .type "tuple" | .list => .type "list" | .int => .type "int" | .abs => .builtin "abs"
  | .sorted => .builtin "sorted" | .sum => .builtin "sum" | .max => .builtin "max" | .min => .builtin "min" | .bool => .type "bool" | .str => .type "str"
def rBi (g : G) (b : Bi) : List V → Hp → VK → Prop := fun xs H Q => ∃ S φ x t t', xs = [x] ∧ Rel g H φ S ∧ TEm g H φ t x ∧ biE S b t = some t' ∧
  ∀ H' v, Ext g H φ H' φ → Rel g H' φ S → TEm g H' φ t' v → Fr H t' v → Q v H'

theorem insI_perm (x : Int) : ∀ l : List Int, (insI x l).Perm (x :: l)
  | [] => .refl _
  | y :: r => by
    unfold insI
    split
    · exact .refl _
    · exact ((insI_perm x r).cons y).trans (.swap x y r)
theorem sortI_perm : ∀ l : List Int, (sortI l).Perm l
  | [] => .refl _
  | x :: r => (insI_perm x (sortI r)).trans ((sortI_perm r).cons x)
theorem insI_sorted (x : Int) : ∀ l : List Int, l.Pairwise (· ≤ ·) → (insI x l).Pairwise (· ≤ ·)
  | [], _ => by unfold insI; exact List.pairwise_singleton _ _
  | y :: r, h => by
    unfold insI
    have hr := (List.pairwise_cons.mp h)
    split
    · rename_i hxy
      refine List.pairwise_cons.mpr ⟨fun z hz => ?_, h⟩
      rcases List.mem_cons.mp hz with e | hz
      · omega
      · have := hr.1 z hz
        omega
    · rename_i hxy
      refine List.pairwise_cons.mpr ⟨fun z hz => ?_, insI_sorted x r hr.2⟩
      rcases List.mem_cons.mp ((insI_perm x r).mem_iff.mp hz) with e | hz
      · omega
      · exact hr.1 z hz
theorem sortI_sorted : ∀ l : List Int, (sortI l).Pairwise (· ≤ ·)
  | [] => .nil
  | x :: r => insI_sorted x _ (sortI_sorted r)
theorem sortI_of {a b : List Int} (hp : a.Perm b) (ha : a.Pairwise (· ≤ ·)) : a = sortI b := PySem.W.ksm_same (hp.trans (sortI_perm b).symm) ha (sortI_sorted b)

section
variable {g : G} {X : Cx} {pins : List (Addr × Obj)} {s : Shared} {σ : St} {H : Hp} {φ : List Addr} {S : Store} {Q : VK}
theorem blsOf_Em : ∀ {ds : List D} {bs : List Bool} {vs : List V}, blsOf ds = some bs → Ems g H φ ds vs → vs = bs.map V.bl
  | [], _, _, e, h => by cases h; cases e; rfl
  | d :: ds, bs, _, e, h => by
    cases h with
    | cons h1 h2 =>
      cases h1 with
      | bl i =>
        have e' : (blsOf ds).map (i :: ·) = some bs := e
        cases hq : blsOf ds with
        | none => rw [hq] at e'; cases e'
        | some js =>
          rw [hq] at e'
          cases e'
          rw [blsOf_Em hq h2]
          rfl
      | _ => cases e
theorem Ems.ints (is : List Int) : Ems g H φ (is.map D.int) (is.map V.int) := by
  induction is with
  | nil => exact .nil
  | cons i r ih => exact .cons (.int i) ih
theorem opt_bind {α β : Type} {o : Option α} {f : α → Option β} {b : β} (h : o.bind f = some b) : ∃ a, o = some a ∧ f a = some b := by
  cases o with
  | none => cases h
  | some a => exact ⟨a, rfl, h⟩
theorem opt_map {α β : Type} {o : Option α} {f : α → β} {b : β} (h : o.map f = some b) : ∃ a, o = some a ∧ f a = b := by
  cases o with
  | none => cases h
  | some a => exact ⟨a, rfl, Option.some.inj h⟩
theorem intO_some {t : T} {i : Int} (h : intO t = some i) : t = .v (.int i) := by
  unfold intO at h
  split at h
  · cases h; rfl
  · cases h
theorem lex_tot : ∀ a b : List Int, HT.lexLt a b = false → HT.lexLt b a = false → a = b
  | [], [], _, _ => rfl
  | [], _ :: _, h, _ => by rw [HT.lexLt_nil_cons] at h; cases h
  | _ :: _, [], _, h => by rw [HT.lexLt_nil_cons] at h; cases h
  | x :: xs, y :: ys, h1, h2 => by
    rw [HT.lexLt_cons] at h1 h2
    by_cases e : x = y
    · subst e
      rw [if_pos rfl] at h1 h2
      rw [lex_tot xs ys h1 h2]
    · rw [if_neg e] at h1
      rw [if_neg (Ne.symm e)] at h2
      have a := of_decide_eq_false h1
      have b := of_decide_eq_false h2
      omega
theorem insL_perm (x : List Int) : ∀ l : List (List Int), (insL x l).Perm (x :: l)
  | [] => List.Perm.refl _
  | y :: r => by
    rw [insL]
    split
    · exact ((insL_perm x r).cons y).trans (List.Perm.swap x y r)
    · exact List.Perm.refl _
theorem sortL_perm : ∀ l : List (List Int), (sortL l).Perm l
  | [] => List.Perm.refl _
  | x :: r => (insL_perm x _).trans ((sortL_perm r).cons x)
theorem insL_sorted (x : List Int) : ∀ l : List (List Int), l.Pairwise (fun a b => HT.lexLt b a = false) → (insL x l).Pairwise (fun a b => HT.lexLt b a = false)
  | [], _ => List.pairwise_singleton _ _
  | y :: r, h => by
    obtain ⟨h1, h2⟩ := List.pairwise_cons.mp h
    rw [insL]
    split
    · rename_i hy
      refine List.pairwise_cons.mpr ⟨fun z hz => ?_, insL_sorted x r h2⟩
      rcases List.mem_cons.mp ((insL_perm x r).mem_iff.mp hz) with e | hz
      · rw [e]
        exact NtL.lex_asym _ _ hy
      · exact h1 z hz
    · rename_i hy
      have hy : HT.lexLt y x = false := by simpa using hy
      refine List.pairwise_cons.mpr ⟨fun z hz => ?_, h⟩
      rcases List.mem_cons.mp hz with e | hz
      · rw [e]
        exact hy
      · exact NtL.lex_tr _ _ _ hy (h1 z hz)
theorem sortL_sorted : ∀ l : List (List Int), (sortL l).Pairwise (fun a b => HT.lexLt b a = false)
  | [] => List.Pairwise.nil
  | x :: r => insL_sorted x _ (sortL_sorted r)
theorem lexL_uniq : ∀ {a b : List (List Int)}, a.Perm b → a.Pairwise (fun x y => HT.lexLt y x = false) → b.Pairwise (fun x y => HT.lexLt y x = false) → a = b
  | [], b, p, _, _ => (List.Perm.eq_nil p.symm).symm
  | x :: a, [], p, _, _ => absurd p.length_eq (by simp)
  | x :: a, y :: b, p, ha, hb => by
    obtain ⟨a1, a2⟩ := List.pairwise_cons.mp ha
    obtain ⟨b1, b2⟩ := List.pairwise_cons.mp hb
    have rf : ∀ z : List Int, HT.lexLt z z = false := (NtL.swo_lexL (fun z : List Int => z)).refl
    have h1 : HT.lexLt y x = false := by
      rcases List.mem_cons.mp (p.mem_iff.mpr List.mem_cons_self) with e | h
      · rw [e]; exact rf x
      · exact a1 y h
    have h2 : HT.lexLt x y = false := by
      rcases List.mem_cons.mp (p.mem_iff.mp List.mem_cons_self) with e | h
      · rw [e]; exact rf y
      · exact b1 x h
    have e := lex_tot x y h2 h1
    subst e
    rw [lexL_uniq p.cons_inv a2 b2]
theorem intsOf_map : ∀ {ds : List D} {is : List Int}, intsOf ds = some is → ds = is.map D.int
  | [], is, h => by cases h; rfl
  | .int i :: r, is, h => by
    obtain ⟨js, hj, rfl⟩ := opt_map h
    rw [intsOf_map hj]
    rfl
  | .non :: _, _, h => by cases h
  | .bl _ :: _, _, h => by cases h
  | .str _ :: _, _, h => by cases h
  | .tup _ :: _, _, h => by cases h
  | .ref _ :: _, _, h => by cases h
  | .fn _ :: _, _, h => by cases h
  | .cls _ :: _, _, h => by cases h
theorem intsOf_ints : ∀ is : List Int, Ev.intsOf (is.map D.int) = some is
  | [] => rfl
  | i :: r => by rw [List.map_cons, Ev.intsOf, intsOf_ints r]; rfl
theorem tupsOf_map : ∀ {ds : List D} {xs : List (List Int)}, tupsOf ds = some xs → ds = xs.map tupI
  | [], is, h => by cases h; rfl
  | .tup ds :: r, xs, h => by
    obtain ⟨is, hi, h⟩ := opt_bind h
    obtain ⟨js, hj, rfl⟩ := opt_map h
    rw [tupsOf_map hj, intsOf_map hi]
    rfl
  | .non :: _, _, h => by cases h
  | .bl _ :: _, _, h => by cases h
  | .str _ :: _, _, h => by cases h
  | .int _ :: _, _, h => by cases h
  | .ref _ :: _, _, h => by cases h
  | .fn _ :: _, _, h => by cases h
  | .cls _ :: _, _, h => by cases h
/-- a heap's tuple has one list of ints -/
theorem sqT_uniq {a : Addr} {ns ms : List Int} (I : Inv X pins σ H s) (h1 : SqT X.K H a (ns.map V.int)) (h2 : SqT X.K H a (ms.map V.int)) : ns = ms := by
  obtain ⟨its, r1, ⟨o, ho, _, n, hd⟩, _⟩ := I.tuple h1
  obtain ⟨its2, r2, ⟨o2, ho2, _, n2, hd2⟩, _⟩ := I.tuple h2
  rw [ho] at ho2
  cases ho2
  rw [hd] at hd2
  have e : its = its2 := by
    have := (Data.seq.inj hd2).1
    simpa using this
  subst e
  have i1 : PyProof.Rows.IntsAre its ns := by simpa using intsAre_of r1
  have i2 : PyProof.Rows.IntsAre its ms := by simpa using intsAre_of r2
  rw [← i1.nums, ← i2.nums]
open Classical in
noncomputable def keyT (K : PySem.W.Frag) (H : Hp) (x : V) : List Int := if h : ∃ (ns : List Int) (t : Addr), x = V.ref t ∧ SqT K H t (ns.map V.int) then h.choose else []
theorem keyT_at {a : Addr} {ns : List Int} (I : Inv X pins σ H s) (h : SqT X.K H a (ns.map V.int)) : keyT X.K H (.ref a) = ns := by
  have hx : ∃ (ns : List Int) (t : Addr), V.ref a = V.ref t ∧ SqT X.K H t (ns.map V.int) := ⟨ns, a, rfl, h⟩
  unfold keyT
  rw [dif_pos hx]
  obtain ⟨t, e, h2⟩ := hx.choose_spec
  cases e
  exact sqT_uniq I h2 h
theorem ems_keyT (hK : X.K = g.K) (I : Inv X pins σ H s) : ∀ {xs : List (List Int)} {vs : List V}, Ems g H φ (xs.map tupI) vs → vs.map (keyT X.K H) = xs ∧ ∀ x ∈ vs, ∃ t, x = V.ref t ∧ SqT X.K H t ((keyT X.K H x).map V.int)
  | [], _, .nil => ⟨rfl, fun x hx => absurd hx (by simp)⟩
  | ns :: xs, _, .cons m ms => by
    obtain ⟨h1, h2⟩ := ems_keyT hK I ms
    cases m with
    | tup k1 k2 =>
      have e := intsOf_Em (intsOf_ints ns) k2
      subst e
      rw [← hK] at k1
      have hk := keyT_at I k1
      refine ⟨by rw [List.map_cons, h1, hk], fun x hx => ?_⟩
      rcases List.mem_cons.mp hx with e | hx
      · subst e
        exact ⟨_, rfl, by rw [hk]; exact k1⟩
      · exact h2 x hx
theorem ems_of_keyT (hK : X.K = g.K) : ∀ {vs : List V}, (∀ x ∈ vs, ∃ t, x = V.ref t ∧ SqT X.K H t ((keyT X.K H x).map V.int)) → Ems g H φ ((vs.map (keyT X.K H)).map tupI) vs
  | [], _ => .nil
  | v :: vs, h => by
    obtain ⟨t, rfl, ht⟩ := h v List.mem_cons_self
    refine .cons (.tup (by rw [← hK]; exact ht) (Ems.ints _)) (ems_of_keyT hK fun x hx => h x (List.mem_cons_of_mem _ hx))
theorem bi_sound (b : Bi) (hK : X.K = g.K) (hu : X.A.units + 65 < cLine) (hc : X.calm = true) : CallR X (biV b) (rBi g b) := by
  rintro pins s σ H xs us Q I rs ⟨S, φ, x, t, t', rfl, r, ha, ht, h⟩
  cases b
  case len =>
    unfold biE at ht
    simp only at ht
    split at ht
    · split at ht
      · cases ht
        cases ha
        exact call_len pins s σ H _ _ Q I rs ⟨_, _, rfl, ⟨by assumption, rfl⟩, give r (.int _) h⟩
      · cases ht
    · split at ht
      · rename_i ds hs
        cases ht
        obtain ⟨p, vs, rfl, h1, h2⟩ := ha.seqR r hs
        rw [← hK] at h1
        refine call_len pins s σ H _ _ Q I rs ⟨_, vs.length, rfl, ?_, ?_⟩
        · rcases h1 with h1 | h1
          · exact .inl ⟨_, h1, rfl⟩
          · exact .inr ⟨_, h1, rfl⟩
        · rw [← h2.length]
          exact give r (.int _) h
      · split at ht
        · rename_i kvs hk
          cases ht
          obtain ⟨p, ho, rfl, h1, ws, rfl, e1, e2⟩ := ha.objW r hk rfl
          obtain ⟨u, rfl, ru⟩ := vals1 rs
          cases (show u = Value.ref p from ru)
          have hl : (ws.length : Int) = (kvs.length : Int) := by
            have := congrArg List.length e1
            simp at this
            rw [this]
          exact d_len I (.inl h1) fun tk s' I' => ⟨.int kvs.length, H, I', ⟨tk, by rw [hl]⟩, give r (.int _) h⟩
        · cases ht
  case all =>
    obtain ⟨ds, hd, ht⟩ := opt_bind ht
    obtain ⟨bs, hb, rfl⟩ := opt_map ht
    obtain ⟨p, vs, rfl, h1, h2⟩ := ha.lstR r hd
    rw [← hK] at h1
    have e := blsOf_Em hb h2
    subst e
    exact cr_all hc pins s σ H _ _ Q I rs ⟨p, bs, rfl, h1, give r (.bl _) h⟩
  case any =>
    obtain ⟨ds, hd, ht⟩ := opt_bind ht
    obtain ⟨bs, hb, rfl⟩ := opt_map ht
    obtain ⟨p, vs, rfl, h1, h2⟩ := ha.lstR r hd
    rw [← hK] at h1
    have e := blsOf_Em hb h2
    subst e
    exact cr_any hc pins s σ H _ _ Q I rs ⟨p, bs, rfl, h1, give r (.bl _) h⟩
  case tuple =>
    obtain ⟨ds, hd, rfl⟩ := opt_map ht
    obtain ⟨p, vs, rfl, h1, h2⟩ := ha.seqR r hd
    refine call_tuple_of pins s σ H _ _ Q I rs ⟨p, vs, rfl, ?_⟩
    rcases h1 with h1 | h1
    · rw [← hK] at h1
      exact .inl ⟨h1, fun n hn => give_tup r hn h2 h⟩
    · have h1' := h1
      rw [← hK] at h1'
      exact .inr ⟨h1', give r (.tup h1 h2) h⟩
  case list =>
    obtain ⟨ds, hd, rfl⟩ := opt_map ht
    obtain ⟨p, vs, rfl, h1, h2⟩ := ha.seqR r hd
    rw [← hK] at h1
    exact call_list_of pins s σ H _ _ Q I rs ⟨p, vs, rfl, h1, fun n hn => give_new (o := .lst _) r hn ⟨_, rfl, h2⟩ h⟩
  case int =>
    unfold biE at ht
    simp only at ht
    split at ht
    · cases ht
      cases ha
      exact call_int1 pins s σ H _ _ Q I rs (.inl ⟨_, rfl, give r (.int _) h⟩)
    · cases ht
      cases ha
      exact call_int1 pins s σ H _ _ Q I rs (.inr ⟨_, rfl, give r (.int _) h⟩)
    · cases ht
  case abs =>
    obtain ⟨i, hi, rfl⟩ := opt_map ht
    have e := intO_some hi
    subst e
    cases ha
    exact call_abs pins s σ H _ _ Q I rs ⟨i, rfl, give r (.int _) h⟩
  case sorted =>
    obtain ⟨ds, hd, ht⟩ := opt_bind ht
    obtain ⟨rs', hb, rfl⟩ := opt_map ht
    obtain ⟨p, vs, rfl, h1, h2⟩ := ha.lstR r hd
    rw [← hK] at h1
    unfold sortD at hb
    split at hb
    · rename_i is hb'
      cases hb
      have e := intsOf_Em hb' h2
      subst e
      refine cr_sortedI pins s σ H _ _ Q I rs ⟨p, is, rfl, h1, fun ns' q k1 k2 hn => ?_⟩
      have e := sortI_of k1 k2
      subst e
      exact give_new (o := .lst _) r hn ⟨_, rfl, Ems.ints _⟩ h
    · obtain ⟨xs, hb', rfl⟩ := opt_map hb
      have e := tupsOf_map hb'
      subst e
      obtain ⟨k1, k2⟩ := ems_keyT hK I h2
      refine cr_sortedTI (by omega) pins s σ H _ _ Q I rs ⟨p, vs, keyT X.K H, rfl, h1, k2, fun ys q hs hst hn => ?_⟩
      have e : ys.map (keyT X.K H) = sortL xs := by
        refine lexL_uniq ?_ (List.pairwise_map.mpr (hs.imp fun {x y} z => z)) (sortL_sorted xs)
        have p1 := hst.perm.map (keyT X.K H)
        rw [k1] at p1
        exact p1.trans (sortL_perm xs).symm
      rw [← e] at h
      exact give_new (o := .lst _) r hn ⟨_, rfl, ems_of_keyT hK fun x hx => k2 x (hst.perm.mem_iff.mp hx)⟩ h
  case sum =>
    obtain ⟨ds, hd, ht⟩ := opt_bind ht
    obtain ⟨is, hb, rfl⟩ := opt_map ht
    obtain ⟨p, vs, rfl, h1, h2⟩ := ha.lstR r hd
    rw [← hK] at h1
    have e := intsOf_Em hb h2
    subst e
    exact cr_sum hc pins s σ H _ _ Q I rs ⟨p, is, rfl, h1, give r (.int _) h⟩
  case bool =>
    unfold biE at ht
    simp only at ht
    split at ht
    · cases ht
      cases ha
      exact call_bool1 pins s σ H _ _ Q I rs (.inl ⟨_, rfl, give r (.bl _) h⟩)
    · cases ht
      cases ha
      exact call_bool1 pins s σ H _ _ Q I rs (.inr ⟨_, rfl, give r (.bl _) h⟩)
    · cases ht
  case str =>
    unfold biE at ht
    simp only at ht
    split at ht
    · split at ht
      · rename_i hl
        cases ht
        cases ha
        exact call_str_int pins s σ H _ _ Q I rs ⟨_, rfl, hl, give r (.str _) h⟩
      · cases ht
    · cases ht
  all_goals cases ht

theorem atI_Em {ds : List D} {vs : List V} {i : Int} {d : D} (h : Ems g H φ ds vs) (e : atI ds i = some d) : ∃ v, atI vs i = some v ∧ Em g H φ d v := by
  unfold atI at e ⊢
  obtain ⟨j, h1, h2⟩ := opt_bind e
  obtain ⟨v, h3, h4⟩ := h.get h2
  rw [← h.length, h1]
  exact ⟨v, h3, h4⟩
theorem dk_get {t : T} {x : V} {kvs : List (Key × D)} {k : Key} {d : D} (r : Rel g H φ S) (ha : TEm g H φ t x) (hk : objR S t = some (.dK kvs)) (hv : valK k kvs = some d) : ∃ p v, x = .ref p ∧ DGet H p (kV k) (some v) ∧ Em g H φ d v := by
  obtain ⟨p, ho, o', rfl, h1, h2, h3⟩ := ha.objR r hk rfl
  have h3' : unlk o' = .dK kvs := by
    rcases h3 with h3 | h3
    · rw [← h3]; rfl
    · exact h3.symm
  obtain ⟨ws, hr, e1, e2⟩ : ∃ ws, Rd H p (.dK ws) ∧ ws.map (·.1) = kvs.map (·.1) ∧ Ems g H φ (kvs.map (·.2)) (ws.map (·.2)) := by
    cases o' with
    | dK kvs' =>
      cases h3'
      obtain ⟨ws, rfl, k1, k2⟩ := h2
      exact ⟨ws, .inl h1, k1, k2⟩
    | lk o2 =>
      have h3' : o2 = .dK kvs := h3'
      subst h3'
      obtain ⟨ob, ho', rfl, ws, rfl, k1, k2⟩ := h2
      exact ⟨ws, .inr ⟨ob, h1⟩, k1, k2⟩
    | _ => cases h3'
  obtain ⟨v, k1, k2⟩ := (valK_eq k e1 e2).2 d hv
  exact ⟨p, v, rfl, .inl ⟨ws, k, hr, rfl, k1.symm⟩, k2⟩
theorem idx_sound (hK : X.K = g.K) (hu : X.A.units + 65 < cLine) : IxR X (rOp g fun S a i => (idxE S a i).map T.v) := by
  rintro value slice pins s σ H x y v u Q I rx ry ⟨S, φ, a, i, t, r, ha, hb, ht, h⟩ hs
  obtain ⟨d, hd, rfl⟩ := opt_map (f := T.v) (o := idxE S a i) ht
  unfold idxE at hd
  split at hd
  · split at hd
    · obtain ⟨c, hc, rfl⟩ := opt_map hd
      cases ha
      cases hb
      exact ix_str value slice pins s σ H _ _ _ _ Q I rx ry ⟨_, _, _, rfl, rfl, by assumption, hc, give r (.str _) h⟩ hs
    · cases hd
  · cases hb
    split at hd
    · rename_i ds hds
      obtain ⟨p, vs, rfl, h1, h2⟩ := ha.seqR r hds
      rw [← hK] at h1
      obtain ⟨w, e1, e2⟩ := atI_Em h2 hd
      rcases h1 with h1 | h1
      · exact ix_list value slice pins s σ H _ _ _ _ Q I rx ry ⟨p, vs, _, w, rfl, rfl, h1, e1, give r e2 h⟩ hs
      · exact ix_tup value slice pins s σ H _ _ _ _ Q I rx ry ⟨p, vs, _, w, rfl, rfl, h1, e1, give r e2 h⟩ hs
    · split at hd
      · rename_i kvs hk
        obtain ⟨p, w, rfl, e1, e2⟩ := dk_get r ha hk hd
        cases (show v = Value.ref p from rx)
        exact PyProof.Rows.tail_any (dict_typeIs I e1) PySem.F.slot_dict_getitem.lookup (d_getItem (by omega) I e1 ry fun w' s' I' rw' => ⟨w, H, I', rw', give r e2 h⟩) hs
      · cases hd
  · cases hb
    split at hd
    · rename_i kvs hk
      obtain ⟨p, w, rfl, e1, e2⟩ := dk_get r ha hk hd
      cases (show v = Value.ref p from rx)
      exact PyProof.Rows.tail_any (dict_typeIs I e1) PySem.F.slot_dict_getitem.lookup (d_getItem (by omega) I e1 ry fun w' s' I' rw' => ⟨w, H, I', rw', give r e2 h⟩) hs
    · cases hd
  · cases hd
theorem cut_Em {ds : List D} {vs : List V} {lo hi : Option Int} (h : Ems g H φ ds vs) : Ems g H φ (cut ds lo hi) (cutV vs lo hi) := by
  unfold cut cutV
  rw [← h.length]
  exact (h.drop _).take _
def rSlc (g : G) : V → Option Int → Option Int → Hp → VK → Prop := fun x lo hi H Q => ∃ S φ a t, Rel g H φ S ∧ TEm g H φ a x ∧ slcE S a lo hi = some t ∧ ∀ H' v, Ext g H φ H' φ → Rel g H' φ S → TEm g H' φ t v → Fr H t v → Q v H'
theorem slc_sound (hK : X.K = g.K) : SlR X (rSlc g) := by
  rintro pins s σ H x v vl vu lo hi sl Q I rx hs pl pu ⟨S, φ, a, t, r, ha, ht, h⟩
  unfold slcE at ht
  split at ht
  · cases ht
    cases ha with
    | tup h1 h2 =>
      have h1' := h1
      rw [← hK] at h1'
      refine sl_tupA pins s σ H _ v vl vu lo hi sl Q I rx hs pl pu ⟨_, _, rfl, h1', fun hw => ?_, fun hw n hn => give_tup r hn (cut_Em h2) h⟩
      have e : ∀ {α : Type} (xs : List α), (HT.sIx xs.length 0 lo = 0 ∧ HT.sIx xs.length xs.length hi = xs.length) → (xs.drop (HT.sIx xs.length 0 lo)).take (HT.sIx xs.length xs.length hi - HT.sIx xs.length 0 lo) = xs := by
        intro α xs hz
        rw [hz.1, hz.2]
        simp
      have e2 := e _ (by rw [h2.length]; exact hw)
      unfold cut at h
      rw [e2] at h
      exact give r (.tup h1 h2) h
  · cases ht
  · obtain ⟨ds, hd, rfl⟩ := opt_map ht
    obtain ⟨p, vs, rfl, h1, h2⟩ := ha.lstR r hd
    rw [← hK] at h1
    exact sl_list pins s σ H _ v vl vu lo hi sl Q I rx hs pl pu ⟨p, vs, rfl, h1, fun n hn => give_new (o := .lst _) r hn ⟨_, rfl, cut_Em h2⟩ h⟩
end
end Ev
set_option Elab.async false
set_option linter.all false
set_option maxRecDepth 100000
set_option autoImplicit false
set_option maxHeartbeats 4000000
/-! Ev, part W: an instance with its own __eq__, compared by == and !=. -/
namespace Ev
open PySem PySem.Spec PyProof.Rows
section
variable {prog : Program} {w : World} {A : Around} {E : Value → Shared → Prop} {s : Shared} {K : PySem.W.Frag} {x C f : Addr} {ox : Obj} {od : Option Obj} {b tb : Value}
/-- the class leaves != to object -/
def leavesNe (K : PySem.W.Frag) (C : Addr) : Prop := PySem.W.findIn K (.ref C) "__ne__" = some (some (.builtin "object.__ne__")) ∧ PySem.W.mroIn K C (.type "object") = some true
/-- object.__ne__ turns the answer of __eq__ about -/
theorem entry_ne {Q : PySem.Fin → Shared → Prop} (hu : A.units < cLine) (X : K.In s.heap) (I : PySem.W.InstAt s.heap x ox C od) (hs : PySem.W.findIn K (.ref C) "__eq__" = some (some (.ref f))) (hf : PySem.W.isFn K (.ref f) = true)
    (h : wpAny (model prog w) A (call (.ref f) [.ref x, b]) (fun v s' => ∃ r, v = .bool r ∧ Q (.done (.ret (.bool (!r)))) s') E s) : wpAny (model prog w) A (Builtin.«object.__ne__» ⟨[.ref x, b], []⟩) Q E s := by
  unfold Builtin.«object.__ne__»
  refine wpAny_bind (wpAny_of_eq (a := ((Value.ref x : Value), [b])) (by first | rfl | (simp only [Builtin.slotArgs]; rfl)) ?_)
  refine wpAny_bind (wpAny_cRoomFor hu (wpAny_bind (PySem.W.ifBound_K X I hs hf (wpAny_mono h (fun v s' hv => ?_) fun _ _ e => e))))
  obtain ⟨r, rfl, q⟩ := hv
  refine wpAny_bind (wpAny_truthy_bool ?_)
  exact wpAny_pure q
theorem ne_answer {Q : Value → Shared → Prop} (hu : A.units + 1 < cLine) (X : K.In s.heap) (I : PySem.W.InstAt s.heap x ox C od) (hn : leavesNe K C) (hs : PySem.W.findIn K (.ref C) "__eq__" = some (some (.ref f))) (hf : PySem.W.isFn K (.ref f) = true)
    (h : wpAny (model prog w) A.in1 (call (.ref f) [.ref x, b]) (fun v s' => ∃ r, v = .bool r ∧ Q (.bool (!r)) s') E s) : wpAny (model prog w) A (tryCompare (.ref x) "__ne__" b) (fun r s' => ∃ v, r = some v ∧ Q v s') E s := by
  have inner : wpAny (model prog w) A (call (.builtin "object.__ne__") [.ref x, b]) (fun v s' => ∃ r, v = .bool r ∧ Q (.bool r) s') E s := by
    refine wpAny_call (codeAny_call_builtin F.cmp_object.ne.plain F.cmpEntry_ne (PySem.W.check_slot F.cmpKind_ne F.cmpSplit_ne (I.type.andThen (PySem.W.looks_mroIn X hn.2)) (F.cmpArgs_ne _ _) (entry_ne hu X I hs hf (wpAny_mono h (fun v s' hv => ?_) fun _ _ e => e))))
    obtain ⟨r, rfl, q⟩ := hv
    exact ⟨r, rfl, _, rfl, q⟩
  have asked : wpAny (model prog w) A (callSpecialIfBound? (.ref x) "__ne__" [b]) (fun v s' => ∃ r, v = some (.bool r) ∧ Q (.bool r) s') E s := by
    simp only [callSpecialIfBound?, bindSpecialIfBound?]
    refine wpAny_holding (wpAny_bind (wpAny_bind (wpAny_bind (I.type.here ((PySem.W.looks_findIn X hn.1).here (wpAny_bind (wpAny_askSetting (wpAny_ite ?_))))))))
    have fin : wpAny (model prog w) A (call (.builtin "object.__ne__") ([.ref x] ++ [b]) >>= fun v => pure (some v)) (fun v s' => ∃ r, v = some (.bool r) ∧ Q (.bool r) s') E s := by
      refine wpAny_bind (wpAny_mono inner (fun v s' hv => ?_) fun _ _ e => e)
      obtain ⟨r, rfl, q⟩ := hv
      exact wpAny_pure ⟨r, rfl, q⟩
    split
    · exact wpAny_bind (wpAny_of_eq (F.cmp_object.ne.bind _) (wpAny_pure (by exact fin)))
    · exact wpAny_tryCatch (wpAny_bind (wpAny_of_eq (F.cmp_object.ne.bind _) (wpAny_pure (by exact fin))))
  unfold tryCompare
  refine wpAny_bind (wpAny_mono asked (fun v s' hv => ?_) fun _ _ e => e)
  obtain ⟨r, rfl, q⟩ := hv
  exact wpAny_pure ⟨_, rfl, q⟩
/-- x != b -/
theorem own_ne {Q : Value → Shared → Prop} (hu : A.units + 1 < cLine) (X : K.In s.heap) (I : PySem.W.InstAt s.heap x ox C od) (hb : PySem.W.Looks (model prog w) s.heap (typeOf b) tb) (hnf : PySem.W.notFirst K C tb = true) (hn : leavesNe K C)
    (hs : PySem.W.findIn K (.ref C) "__eq__" = some (some (.ref f))) (hf : PySem.W.isFn K (.ref f) = true)
    (h : wpAny (model prog w) A.in1 (call (.ref f) [.ref x, b]) (fun v s' => ∃ r, v = .bool r ∧ Q (.bool (!r)) s') E s) : wpAny (model prog w) A (richCompare .NotEq (.ref x) b) Q E s := by
  have one := ne_answer hu X I hn hs hf h
  unfold richCompare
  simp only [oneThing_ref]
  refine wpAny_holding (wpAny_bind (wpAny_cRoomFor (Nat.lt_of_succ_lt hu) ?_))
  refine wpAny_bind (I.type.here (wpAny_bind (hb.here ?_)))
  split
  · rename_i q
    have e : PySem.W.subIn K tb (.ref C) = some false := by
      rcases Bool.or_eq_true_iff.mp hnf with e | e
      · rw [beq_iff_eq.mp e] at q; simp at q
      · exact beq_iff_eq.mp e
    refine wpAny_bind ((PySem.W.looks_subIn X e).here ?_)
    simp only [Bool.false_eq_true, if_false]
    refine wpAny_bind (wpAny_mono one (fun r s' z => ?_) fun _ _ e => e)
    obtain ⟨v, rfl, q⟩ := z
    exact wpAny_pure q
  · refine wpAny_bind (wpAny_pure ?_)
    simp only [Bool.false_eq_true, if_false]
    refine wpAny_bind (wpAny_mono one (fun r s' z => ?_) fun _ _ e => e)
    obtain ⟨v, rfl, q⟩ := z
    exact wpAny_pure q
end
end Ev
set_option Elab.async false
set_option linter.all false
set_option maxRecDepth 100000
set_option autoImplicit false
set_option maxHeartbeats 1000000
/-! Ev, part G: where one stands, the readings, expressions but comprehensions. -/
namespace Ev
open PySem L2

/-- the built-in types' names that isinstance may meet -/
def tyNames : List String := ["NoneType", "bool", "int", "str", "tuple", "list", "dict"]
/-- a def's promise: what the interpreter says of it -/
def spOf (g : G) (n : Nat) (run : List D → Store → R D) : Sp := fun vs H Q E => vs.length = n ∧ ∃ ds S φ, Rel g H φ S ∧ Ems g H φ ds vs ∧
  Post g (fun cls dx _ H' => E cls dx H') H φ [] (fun d S' H' φ' => ∀ v, Em g H' φ' d v → Q v H') (run ds S)
/-- what the text must be -/
structure GOk (g : G) (cx : Cxt) : Prop where
  nd : g.T.flds.Nodup
  fun_ : ∀ x i, g.T.funs.lookup x = some i → g.mg x = some (.ref (g.fa i)) ∧ PySem.W.keepIn g.K (.ref (g.fa i)) = true
  cls_ : ∀ x i, g.T.clss.lookup x = some i → g.mg x = some (.ref (g.ca i))
  cst_ : ∀ x d, g.T.csts.lookup x = some d → ∃ u v, g.mg x = some u ∧ RelV v u ∧ ∀ H φ, Em g H φ d v
  blt_ : ∀ x ∈ bltns, g.mg x = none
  at_ : ∀ c f, cx.at_ c f = true → Cls g.K (g.ca c) ∧ NoAttr g.K (g.ca c) (g.fn f)
  ic_ : ∀ c, cx.ic c = true → Cls g.K (g.ca c) ∧ PySem.W.findIn g.K (.ref (g.ca c)) "__class__" = some (some (.builtin "object.__class__")) ∧
    PySem.W.specialIn g.K (.builtin "object.__class__") "__get__" = some (some (.builtin "getset_descriptor.__get__")) ∧ PySem.W.takesIn g.K (.builtin "object.__class__") = some true ∧ PySem.W.mroIn g.K (g.ca c) (.type "object") = some true ∧
    ∀ s ∈ tyNames, PySem.W.kitOne g.K (.ref (g.ca c)) (.type s) = some false
  cc_ : ∀ x m n, cx.ic m = true → g.T.clss.lookup x = some n → PySem.W.kitOne g.K (.ref (g.ca m)) (.ref (g.ca n)) = some (cx.sb m n)
  xi_ : ∀ c, cx.xi c = true → ExcC g.K (g.ca c) ∧ PySem.W.kitOne g.K (.ref (g.ca c)) (.type "ValueError") = some (cx.sb c 1000)
  rs_ : ∀ c, cx.rs c = true → cx.xi c = true ∧ g.xf c = none ∧ PySem.W.keepIn g.K (.ref (g.ca c)) = true ∧ PySem.W.excIn g.K (g.ca c) [.type "ValueError", .type "Exception", .type "BaseException", .type "object"] "ValueError.__new__" = true ∧
    PySem.W.subIn g.K (.ref (g.ca c)) (.type "BaseException") = some true ∧ PySem.W.typeIn g.K (.ref (g.ca c)) = some (.type "type")
  ex_ : ∀ x c d, cx.xi c = true → g.T.clss.lookup x = some d → PySem.W.kitOne g.K (.ref (g.ca c)) (.ref (g.ca d)) = some (cx.sb c d) ∧ (cx.xi d = true → PySem.W.exmOne g.K (.ref (g.ca c)) (.ref (g.ca d)) = some (cx.sb c d))
  xa_ : ∀ c f, cx.xa c f = true → ExcC g.K (g.ca c) ∧ PySem.W.findIn g.K (.ref (g.ca c)) (g.fn f) = some none
  x0_ : ∀ x c, g.T.exs.lookup x = some (c, none) → g.mg x = some (.ref (g.ca c)) ∧ PySem.W.keepIn g.K (.ref (g.ca c)) = true ∧ PySem.W.excIn g.K (g.ca c) [.type "ValueError", .type "Exception", .type "BaseException", .type "object"] "ValueError.__new__" = true
  x1_ : ∀ x c f, g.T.exs.lookup x = some (c, some f) → g.mg x = some (.ref (g.ca c)) ∧ OexC g.K (g.ca c) ∧ ∃ fI fd ps, PySem.W.findIn g.K (.ref (g.ca c)) "__init__" = some (some (.ref fI)) ∧ PySem.W.typeIn g.K (.ref fI) = some (.type "function") ∧ Binds g.K fd ps [] ∧
    FnOk g.P g.w g.K g.mg g.base (L2.CX g.P g.w) 1 fI fd ps (spX (g.ca c) (g.fn f))
  eq_ : ∀ c f, cx.eq c = some f → cx.ic c = true ∧ PySem.W.findIn g.K (.ref (g.ca c)) "__eq__" = some (some (.ref (g.fa f))) ∧ PySem.W.isFn g.K (.ref (g.fa f)) = true ∧ leavesNe g.K (g.ca c) ∧
    (∀ s ∈ tyNames, PySem.W.notFirst g.K (g.ca c) (.type s) = true) ∧ ∀ m, cx.ic m = true → PySem.W.notFirst g.K (g.ca c) (.ref (g.ca m)) = true
  vn_ : g.mg "ValueError" = none
  tc_ : ∀ x s n, s ∈ tyNames → g.T.clss.lookup x = some n → PySem.W.kitOne g.K (.type s) (.ref (g.ca n)) = some false
/-- what the calls keep, at level k -/
structure COk (g : G) (cx : Cxt) (k : Nat) : Prop where
  lv_ : cx.lv = true → 2 ≤ k
  eq_ : ∀ c f, cx.eq c = some f → (∀ ds S, cx.cj f ds S = .bad) ∨ ∃ j fd ps, k = j + 1 ∧ (∀ ds S, ds.length ≠ ps.length → cx.cj f ds S = .bad) ∧ FnOk g.P g.w g.K g.mg g.base (L2.CX g.P g.w) j (g.fa f) fd ps (spOf g ps.length (cx.cj f)) ∧ Binds g.K fd ps []
  call_ : ∀ x i, g.T.funs.lookup x = some i → ∃ fd ps, (∀ ds S, ds.length ≠ ps.length → cx.call i ds S = .bad) ∧ FnOk g.P g.w g.K g.mg g.base (L2.CX g.P g.w) k (g.fa i) fd ps (spOf g ps.length (cx.call i)) ∧ Binds g.K fd ps []
  mak_ : ∀ x c, g.T.clss.lookup x = some c → PySem.W.keepIn g.K (.ref (g.ca c)) = true ∧ ((∀ ds S, cx.mak c ds S = .bad) ∨ ∃ j f fd ps ini, k = j + 1 ∧ (∀ ds S, ds.length ≠ ps.length → ini ds S = .bad) ∧ Mk g.K (g.ca c) f ∧
    FnOk g.P g.w g.K g.mg g.base (L2.CX g.P g.w) j f fd ps (spOf g ps.length ini) ∧ Binds g.K fd ps [] ∧
    ∀ ds S, cx.mak c ds S = (ini (.ref S.length :: ds) (S ++ [.ins c []])).bind fun d S1 => if d = .non then .ok (.ref S.length) S1 else .bad)
/-- where one stands -/
structure XOk (g : G) (N : List Str) (k : Nat) (sc : Scope) (W : WX) (X : Cx) : Prop where
  prog : X.prog = g.P
  hw : X.w = g.w
  K : X.K = g.K
  mg : X.mg = g.mg
  base : X.base = g.base
  hN : X.N = N
  nd : N.Nodup
  hsc : X.env.scope = sc
  room : Room k X.A
  calm : X.calm = true
  tk : Takes X W

/-! ### readings -/
def KE (g : G) (H0 : Hp) (Q : VK) : T → Store → Hp → List Addr → Prop := fun t _ H' φ' => ∀ v, TEm g H' φ' t v → Fr H0 t v → Q v H'
def tE (g : G) (W : WX) (m : Env → Store → R T) : TE := fun τ H Q => ∃ σ S φ, Rel g H φ S ∧ RelE g H φ σ τ ∧ Post g W H φ τ (KE g H Q) (m σ S)
def tT (g : G) (W : WX) (m : Env → Store → R Bool) : TT := fun τ H Q => ∃ σ S φ, Rel g H φ S ∧ RelE g H φ σ τ ∧ Post g W H φ τ (fun b _ H' _ => Q b H') (m σ S)
def tD (g : G) (W : WX) (m : Env → Store → R (List D)) : TA := fun τ H Q => ∃ σ S φ, Rel g H φ S ∧ RelE g H φ σ τ ∧ Post g W H φ τ (fun ds _ H' φ' => ∀ vs, Ems g H' φ' ds vs → Q vs H') (m σ S)

theorem PEimp {X : Cx} {e : Expr} {t t' : TE} (h : PE X e t) (k : ∀ τ H Q, t' τ H Q → t τ H Q) : PE X e t' := ⟨fun pins s τ H Q I q => h.run pins s τ H Q I (k τ H Q q)⟩
theorem PTimp {X : Cx} {e : Expr} {t t' : TT} (h : PT X e t) (k : ∀ τ H Q, t' τ H Q → t τ H Q) : PT X e t' := ⟨fun pins s τ H Q I q => h.run pins s τ H Q I (k τ H Q q)⟩
theorem PAimp {X : Cx} {e : List Expr} {t t' : TA} (h : PA X e t) (k : ∀ τ H Q, t' τ H Q → t τ H Q) : PA X e t' := ⟨fun pos pins s τ H Q I q => h.run pos pins s τ H Q I (k τ H Q q)⟩
section
variable {g : G} {W : WX} {H H1 : Hp} {φ φ1 : List Addr} {τ : St} {σ : Env} {S1 : Store} {β : Type} {K : β → Store → Hp → List Addr → Prop}
theorem use_e {m : Env → Store → R T} {f : T → Store → R β} {Q : VK} (rel : Rel g H1 φ1 S1) (rE : RelE g H1 φ1 σ τ) (ex : Ext g H φ H1 φ1) (h : Post g W H φ τ K ((m σ S1).bind f))
    (cont : ∀ t S2 H2 φ2 v, Ext g H1 φ1 H2 φ2 → Rel g H2 φ2 S2 → TEm g H2 φ2 t v → Fr H1 t v → Post g W H φ τ K (f t S2) → Q v H2) : tE g W m τ H1 Q :=
  ⟨σ, S1, φ1, rel, rE, Post.mono (Post.shift ex (Post.bnd h)) fun t S2 H2 φ2 e2 r2 p v em fr => cont t S2 H2 φ2 v e2 r2 em fr p⟩
theorem use_t {m : Env → Store → R Bool} {f : Bool → Store → R β} {Q : Bool → Hp → Prop} (rel : Rel g H1 φ1 S1) (rE : RelE g H1 φ1 σ τ) (ex : Ext g H φ H1 φ1) (h : Post g W H φ τ K ((m σ S1).bind f))
    (cont : ∀ t S2 H2 φ2, Ext g H1 φ1 H2 φ2 → Rel g H2 φ2 S2 → Post g W H φ τ K (f t S2) → Q t H2) : tT g W m τ H1 Q :=
  ⟨σ, S1, φ1, rel, rE, Post.mono (Post.shift ex (Post.bnd h)) fun t S2 H2 φ2 e2 r2 p => cont t S2 H2 φ2 e2 r2 p⟩
theorem use_d {m : Env → Store → R (List D)} {f : List D → Store → R β} {Q : List V → Hp → Prop} (rel : Rel g H1 φ1 S1) (rE : RelE g H1 φ1 σ τ) (ex : Ext g H φ H1 φ1) (h : Post g W H φ τ K ((m σ S1).bind f))
    (cont : ∀ t S2 H2 φ2 v, Ext g H1 φ1 H2 φ2 → Rel g H2 φ2 S2 → Ems g H2 φ2 t v → Post g W H φ τ K (f t S2) → Q v H2) : tD g W m τ H1 Q :=
  ⟨σ, S1, φ1, rel, rE, Post.mono (Post.shift ex (Post.bnd h)) fun t S2 H2 φ2 e2 r2 p v em => cont t S2 H2 φ2 v e2 r2 em p⟩
/-- the last step of an operation -/
theorem fin_op {H0 : Hp} {φ0 : List Addr} {Q : VK} {o : Option T} (ex : Ext g H0 φ0 H1 φ1) (h : Post g W H0 φ0 τ (KE g H0 Q) (ofO S1 o)) :
    ∃ t, o = some t ∧ ∀ H' v, Ext g H1 φ1 H' φ1 → Rel g H' φ1 S1 → TEm g H' φ1 t v → Fr H1 t v → Q v H' := by
  obtain ⟨t, ht, p⟩ := Post.ofO (α := T) h
  exact ⟨t, ht, fun H' v e r m f => p H' φ1 (ex.trans e) r v m (f.ext ex)⟩
theorem fin_v {H0 : Hp} {φ0 : List Addr} {Q : VK} {t : T} {v : V} (ex : Ext g H0 φ0 H1 φ1) (h : Post g W H0 φ0 τ (KE g H0 Q) (.ok t S1)) (r : Rel g H1 φ1 S1) (m : TEm g H1 φ1 t v) (f : Fr H0 t v) : Q v H1 := h H1 φ1 ex r v m f
end
theorem R.bind_assoc {α β γ : Type} (r : R α) (f : α → Store → R β) (h : β → Store → R γ) : (r.bind f).bind h = r.bind fun a S => (f a S).bind h := by
  cases r <;> rfl
theorem dens1 {cx : Cxt} {a : Ex} {σ : Env} {S : Store} {β : Type} (f : List T → Store → R β) : (dens cx [a] σ S).bind f = ((den cx a).e σ S).bind fun t S' => f [t] S' := by
  simp only [dens, R.bind_assoc]
  rfl
theorem dens2 {cx : Cxt} {a b : Ex} {σ : Env} {S : Store} {β : Type} (f : List T → Store → R β) : (dens cx [a, b] σ S).bind f = ((den cx a).e σ S).bind fun t S1 => ((den cx b).e σ S1).bind fun u S2 => f [t, u] S2 := by
  simp only [dens, R.bind_assoc]
  rfl
theorem dens3 {cx : Cxt} {a b c : Ex} {σ : Env} {S : Store} {β : Type} (f : List T → Store → R β) :
    (dens cx [a, b, c] σ S).bind f = ((den cx a).e σ S).bind fun t S1 => ((den cx b).e σ S1).bind fun u S2 => ((den cx c).e σ S2).bind fun v S3 => f [t, u, v] S3 := by
  simp only [dens, R.bind_assoc]
  rfl

/-! ### facts of the syntax -/
section
variable {env : PySem.Env}
theorem starE {e : Expr} {es : List Expr} (h : isStar e = false) : starEach (e :: es) env = (false, eval e env) :: starEach es env := by
  cases e <;> first | rfl | cases h
theorem starP {pos : Pos} : ∀ {es : List Expr}, es.any isStar = false → (backTo pos (starEach es env)).any (·.1) = false
  | [], _ => rfl
  | e :: es, h => by
    rw [List.any_cons, Bool.or_eq_false_iff] at h
    rw [starE h.1]
    have := starP (pos := pos) h.2
    unfold backTo at this ⊢
    rw [List.map_cons, List.any_cons, this]
    rfl
theorem starA {pos : Pos} : ∀ {es : List Expr}, es.any isStar = false → (backTo pos (starEach es env)).all (fun x => !x.1) = true
  | [], _ => rfl
  | e :: es, h => by
    rw [List.any_cons, Bool.or_eq_false_iff] at h
    rw [starE h.1]
    have := starA (pos := pos) h.2
    unfold backTo at this ⊢
    rw [List.map_cons, List.all_cons, this]
    rfl
theorem plainIx {b : Expr} (h : isSlice b = false) : PlainIx b := fun o i => by
  cases b <;> first | rfl | cases h
theorem noFold {e : Expr} (h : isSet e = false) : ∀ x, foldedSetIterable e env x = pure x := fun x => by
  cases e <;> first | rfl | cases h
theorem noMark {op : CmpOp} {e : Expr} (h : isSet e = false) : behindInMarks op e = false := by
  cases e <;> first | rfl | cases h
theorem noMark2 {op op' : CmpOp} {b c : Expr} (h : isSet c = false) : lastMarks [op, op'] [b, c] = false := by
  show behindInMarks op' c = false
  exact noMark h
theorem noSuper {o : Expr} {f : Str} {t : Sem Value} (h : isCall0 o = false) : attributeBase o f env t = t := by
  unfold attributeBase
  cases o with
  | Call fn args kws pos =>
    cases fn <;> cases args <;> cases kws <;> first | rfl | cases h
  | _ => rfl
theorem noSwap {e : Expr} {t : Option Expr} {l : Nat} (h : isComp e = false) : swapsWith e t l env = pure false := by
  cases e <;> first | rfl | cases h
theorem noStores {tg e : Expr} (h : isTup e = false) : swappedStores [tg] e env = pure none := by
  unfold swappedStores
  cases tg <;> cases e <;> first | rfl | cases h
theorem noTest {a : Expr} (h : plainT a = true) : ∀ whole, isTrue a env whole = (do let v ← whole; standAt a.pos; holding [v] (truthy v)) := fun whole => by
  cases a with
  | UnaryOp op x pos => cases op <;> first | rfl | cases h
  | BoolOp _ _ _ => cases h
  | IfExp _ _ _ _ => cases h
  | Compare _ _ _ _ => cases h
  | _ => rfl
end
theorem okN_iff {x : Str} (h : okN x = true) : (x == ("__debug__" : Str)) = false ∧ (x == ("__classdict__" : Str)) = false ∧ x ≠ "__name__" := by
  unfold okN at h
  simp only [Bool.and_eq_true, Bool.not_eq_true', decide_eq_false_iff_not] at h
  exact ⟨h.1.1, h.1.2, h.2⟩
theorem visC_iff {sc : Scope} {x : Str} (h : visC sc x = true) : Vis sc x := by
  unfold visC at h
  split at h
  · exact .inl (by assumption)
  · exact .inr (.inl (by assumption))
  · exact .inr (.inr (by assumption))
  · cases h
theorem locC_iff {sc : Scope} {x : Str} (h : locC sc x = true) : Loc sc x := by
  unfold locC at h
  split at h
  · exact .inl (by assumption)
  · exact .inr (by assumption)
  · cases h
section
variable {g : G} {N : List Str} {k : Nat} {sc : Scope} {W : WX} {X : Cx} {cx : Cxt}
theorem XOk.gl (x : XOk g N k sc W X) {n : Str} (h : glC sc n = true) : Gl X n := by
  unfold glC at h
  have h' := of_decide_eq_true h
  show X.env.scope.names.lookup n = _
  rw [x.hsc]
  exact h'
theorem XOk.units (x : XOk g N k sc W X) : X.A.units + 65 < cLine := by
  have := x.room.un
  omega

/-- a test by the truth of the value -/
theorem truth_sound {S : Store} {H : Hp} {φ : List Addr} {t : T} {v : V} {c : Bool} (r : Rel g H φ S) (h : TEm g H φ t v) (e : truth S t = some c) : TruV g.K v H c := by
  have rest : ∀ o, objW S t = some o → (match (some o : Option O) with
      | some (.lst ds) => some (!ds.isEmpty)
      | some (.lk (.lst ds)) => some (!ds.isEmpty)
      | some (.dK kvs) => some (!kvs.isEmpty)
      | _ => none) = some c → TruV g.K v H c := by
    intro o ho hc
    have hx : isX o = false := by
      cases o with
      | exn c fs => cases hc
      | _ => rfl
    obtain ⟨p, h', rfl, h1, h2⟩ := h.objW r ho hx
    split at hc
    · rename_i ds e'
      cases e'
      cases hc
      obtain ⟨vs, rfl, h3⟩ := h2
      refine .inl ⟨vs, SqL.of h1, ?_⟩
      cases h3 <;> rfl
    · rename_i ds e'
      cases e'
      cases hc
      obtain ⟨ob, ho', rfl, vs, rfl, h3⟩ := h2
      refine .inl ⟨vs, .inl (.inr ⟨ob, h1⟩), ?_⟩
      cases h3 <;> rfl
    · rename_i kvs e'
      cases e'
      cases hc
      obtain ⟨ws, rfl, h3, _⟩ := h2
      refine .inr (.inr ⟨ws, h1, ?_⟩)
      cases ws <;> cases kvs <;> first | rfl | cases h3
    · cases hc
  unfold truth at e
  split at e
  · cases h; cases e; rfl
  · cases h; cases e; rfl
  · cases h; cases e; rfl
  · split at e
    · cases h; cases e; exact ⟨by assumption, rfl⟩
    · cases e
  · cases e
    cases h with
    | tup h1 h2 =>
      refine .inr (.inl ⟨_, h1, ?_⟩)
      cases h2 <;> rfl
  · cases e
  · cases e
  · cases ho : objW S t with
    | none => rw [ho] at e; cases e
    | some o =>
      rw [ho] at e
      exact rest o ho e
theorem pt_of {e : Expr} {m : Ev.Env → Store → R T} (x : XOk g N k sc W X) (h : PE X e (tE g W m)) (hp : plainT e = true) : PT X e (tT g W (Den.of m).b) := by
  refine PTimp (pt_truth h (noTest hp)) ?_
  rintro τ H Q ⟨σ, S, φ, r, rE, p⟩
  refine use_e r rE Ext.refl p fun t S1 H1 φ1 v e1 r1 m1 _ p1 => ?_
  obtain ⟨c, hc, p2⟩ := Post.ofO p1
  exact ⟨c, by rw [x.K]; exact truth_sound r1 m1 hc, p2 H1 φ1 e1 r1⟩
/-- an expression both ways -/
def PB (g : G) (W : WX) (X : Cx) (e : Expr) (d : Den) : Prop := PE X e (tE g W d.e) ∧ PT X e (tT g W d.b)
theorem pb_of {e : Expr} {m : Ev.Env → Store → R T} (x : XOk g N k sc W X) (hp : plainT e = true) (h : PE X e (tE g W m)) : PB g W X e (Den.of m) := ⟨h, pt_of x h hp⟩

theorem s_var {i : Nat} {n : Str} {pos : Pos} (x : XOk g N k sc W X) (hi : slot N n = some i) (hv : visC sc n = true) (ho : okN n = true) : PB g W X (.Name n pos) (den cx (.var i)) := by
  refine pb_of x rfl (PEimp (pe_var (i := i) (by rw [x.hN]; exact slot_at hi) (by rw [x.hsc]; exact visC_iff hv) (okN_iff ho).1 (okN_iff ho).2.1) ?_)
  rintro τ H Q ⟨σ, S, φ, r, rE, p⟩
  obtain ⟨t, ht, p2⟩ := Post.ofO p
  obtain ⟨d, hd, rfl⟩ := opt_map ht
  have hσ : σ[i]? = some (some d) := by
    cases hq : σ[i]? with
    | none => rw [hq] at hd; cases hd
    | some o => rw [hq] at hd; cases o with
      | none => cases hd
      | some d' => cases hd; rfl
  obtain ⟨v, h1, h2⟩ := rE.at_ i d hσ
  exact ⟨v, h1, p2 H φ Ext.refl r v h2 trivial⟩
theorem s_cst {d : D} {v : V} {e : Expr} (x : XOk g N k sc W X) (hp : plainT e = true) (h : PE X e (tC v)) (hm : ∀ H φ, Em g H φ d v) : PB g W X e (den cx (.cst d)) := by
  refine pb_of x hp (PEimp h ?_)
  rintro τ H Q ⟨σ, S, φ, r, rE, p⟩
  exact p H φ Ext.refl r v (hm H φ) trivial
theorem s_op {a b : Expr} {a' b' : Ex} {op : Operator} {o : Op2} {pos : Pos} (x : XOk g N k sc W X) (ho : binC op = some o) (ha : PB g W X a (den cx a')) (hb : PB g W X b (den cx b')) : PB g W X (.BinOp a op b pos) (den cx (.nd (.op o) [a', b'])) := by
  refine pb_of x rfl (PEimp (pe_op (op_sound x.K ho) ha.1 hb.1) ?_)
  rintro τ H Q ⟨σ, S, φ, r, rE, p⟩
  replace p : Post g W H φ τ (KE g H Q) ((dens cx [a', b'] σ S).bind fun ts S' => app cx S' (.op o) ts) := p
  rw [dens2] at p
  refine use_e r rE Ext.refl p fun t1 S1 H1 φ1 v1 e1 r1 m1 f1 p1 => ?_
  refine use_e r1 (rE.ext e1) e1 p1 fun t2 S2 H2 φ2 v2 e2 r2 m2 f2 p2 => ?_
  obtain ⟨t, ht, k⟩ := fin_op (e1.trans e2) p2
  exact ⟨S2, φ2, t1, t2, t, r2, m1.ext e2, m2, ht, k⟩
theorem s_neg {a : Expr} {a' : Ex} {pos : Pos} (x : XOk g N k sc W X) (ha : PB g W X a (den cx a')) : PB g W X (.UnaryOp .USub a pos) (den cx (.nd .neg [a'])) := by
  refine pb_of x rfl (PEimp (pe_un un_neg ha.1) ?_)
  rintro τ H Q ⟨σ, S, φ, r, rE, p⟩
  replace p : Post g W H φ τ (KE g H Q) ((dens cx [a'] σ S).bind fun ts S' => app cx S' .neg ts) := p
  rw [dens1] at p
  refine use_e r rE Ext.refl p fun t1 S1 H1 φ1 v1 e1 r1 m1 f1 p1 => ?_
  obtain ⟨t, ht, k⟩ := fin_op e1 p1
  obtain ⟨i, hi, rfl⟩ := opt_map ht
  have e := intO_some hi
  subst e
  cases m1
  exact ⟨i, rfl, give r1 (.int _) k⟩
end
end Ev
set_option Elab.async false
set_option linter.all false
set_option maxRecDepth 100000
set_option autoImplicit false
set_option maxHeartbeats 1000000
/-! Ev, part H: and, or, not, if; displays, subscripts, fields, isinstance, built-ins, calls. -/
namespace Ev
open PySem L2
section
variable {g : G} {N : List Str} {k : Nat} {sc : Scope} {W : WX} {X : Cx} {cx : Cxt}

theorem Post.ke {H H1 : Hp} {φ φ1 : List Addr} {τ : St} {Q : VK} {r : R T} (e : Ext g H φ H1 φ1) (h : Post g W H φ τ (KE g H Q) r) : Post g W H1 φ1 τ (KE g H1 Q) r :=
  Post.mono (Post.shift e h) fun _ _ _ _ _ _ q v m f => q v m (f.ext e)
theorem pwOf {op : BoolOp} {es : List Expr} {pos : Pos} {t : TT} (h : PT X (.BoolOp op es pos) t) : PW X (.BoolOp op es pos) t := ⟨fun whole pins s τ H Q I q => h.run pins s τ H Q I q⟩
theorem s_one {op : BoolOp} {a : Expr} {d : Den} {pos : Pos} (h : PB g W X a d) : PB g W X (.BoolOp op [a] pos) d :=
  ⟨pe_one h.1, match op with
    | .And => (pw_and1 h.2).pt
    | .Or => (pw_or1 h.2).pt⟩
theorem s_and {a b : Expr} {r : List Expr} {a' b' : Ex} {pos : Pos} (ha : PB g W X a (den cx a')) (hb : PB g W X (.BoolOp .And (b :: r) pos) (den cx b')) : PB g W X (.BoolOp .And (a :: b :: r) pos) (den cx (.and a' b')) := by
  constructor
  · refine PEimp (pe_and ha.1 hb.1) ?_
    rintro τ H Q ⟨σ, S, φ, r, rE, p⟩
    refine use_e r rE Ext.refl p fun t1 S1 H1 φ1 v1 e1 r1 m1 f1 p1 => ?_
    split at p1
    · cases m1
      exact ⟨true, rfl, by rw [if_pos rfl]; exact ⟨σ, S1, φ1, r1, rE.ext e1, Post.ke e1 p1⟩⟩
    · cases m1
      exact ⟨false, rfl, by rw [if_neg Bool.false_ne_true]; exact fin_v e1 p1 r1 (.bl false) trivial⟩
    · exact (show False from p1).elim
  · refine PTimp (pw_and ha.2 (pwOf hb.2)).pt ?_
    rintro τ H Q ⟨σ, S, φ, r, rE, p⟩
    refine use_t r rE Ext.refl p fun c S1 H1 φ1 e1 r1 p1 => ?_
    cases c with
    | true =>
      rw [if_pos rfl] at p1 ⊢
      exact ⟨σ, S1, φ1, r1, rE.ext e1, Post.shift e1 p1⟩
    | false =>
      rw [if_neg Bool.false_ne_true] at p1 ⊢
      exact p1 H1 φ1 e1 r1
theorem s_or {a b : Expr} {r : List Expr} {a' b' : Ex} {pos : Pos} (ha : PB g W X a (den cx a')) (hb : PB g W X (.BoolOp .Or (b :: r) pos) (den cx b')) : PB g W X (.BoolOp .Or (a :: b :: r) pos) (den cx (.or a' b')) := by
  constructor
  · refine PEimp (pe_or ha.1 hb.1) ?_
    rintro τ H Q ⟨σ, S, φ, r, rE, p⟩
    refine use_e r rE Ext.refl p fun t1 S1 H1 φ1 v1 e1 r1 m1 f1 p1 => ?_
    split at p1
    · cases m1
      exact ⟨false, rfl, by rw [if_neg Bool.false_ne_true]; exact ⟨σ, S1, φ1, r1, rE.ext e1, Post.ke e1 p1⟩⟩
    · cases m1
      exact ⟨true, rfl, by rw [if_pos rfl]; exact fin_v e1 p1 r1 (.bl true) trivial⟩
    · exact (show False from p1).elim
  · refine PTimp (pw_or ha.2 (pwOf hb.2)).pt ?_
    rintro τ H Q ⟨σ, S, φ, r, rE, p⟩
    refine use_t r rE Ext.refl p fun c S1 H1 φ1 e1 r1 p1 => ?_
    cases c with
    | true =>
      rw [if_pos rfl] at p1 ⊢
      exact p1 H1 φ1 e1 r1
    | false =>
      rw [if_neg Bool.false_ne_true] at p1 ⊢
      exact ⟨σ, S1, φ1, r1, rE.ext e1, Post.shift e1 p1⟩
theorem s_not {a : Expr} {a' : Ex} {pos : Pos} (ha : PB g W X a (den cx a')) : PB g W X (.UnaryOp .Not a pos) (den cx (.not a')) := by
  constructor
  · refine PEimp (pe_not ha.1) ?_
    rintro τ H Q ⟨σ, S, φ, r, rE, p⟩
    refine use_e r rE Ext.refl p fun t1 S1 H1 φ1 v1 e1 r1 m1 f1 p1 => ?_
    split at p1
    · cases m1
      exact ⟨_, rfl, fin_v e1 p1 r1 (.bl _) trivial⟩
    · exact (show False from p1).elim
  · refine PTimp (pt_not ha.2) ?_
    rintro τ H Q ⟨σ, S, φ, r, rE, p⟩
    refine use_t r rE Ext.refl p fun c S1 H1 φ1 e1 r1 p1 => ?_
    exact p1 H1 φ1 e1 r1
theorem pt_ifExp {c a b : Expr} {pos : Pos} {tc ta tb : TT} (hc : PT X c tc) (ha : PT X a ta) (hb : PT X b tb) : PT X (.IfExp c a b pos) (fun σ H Q => tc σ H fun d H1 => if d = true then ta σ H1 Q else tb σ H1 Q) := by
  refine ⟨fun pins s σ H Q I h => ?_⟩
  show wpAny _ _ (do if ← isTrue c X.env (eval c X.env) then isTrue a X.env (eval a X.env) else isTrue b X.env (eval b X.env)) _ _ s
  refine wpAny_bind (thn (hc.run pins s σ H _ I h) fun d s1 ⟨H1, I1, q1⟩ => ?_)
  cases d with
  | true => exact ha.run pins s1 σ H1 Q I1 q1
  | false => exact hb.run pins s1 σ H1 Q I1 q1
theorem s_ite {c a b : Expr} {c' a' b' : Ex} {pos : Pos} (hc : PB g W X c (den cx c')) (ha : PB g W X a (den cx a')) (hb : PB g W X b (den cx b')) : PB g W X (.IfExp c a b pos) (den cx (.ite c' a' b')) := by
  constructor
  · refine PEimp (pe_ifExp hc.2 ha.1 hb.1) ?_
    rintro τ H Q ⟨σ, S, φ, r, rE, p⟩
    refine use_t r rE Ext.refl p fun d S1 H1 φ1 e1 r1 p1 => ?_
    cases d with
    | true =>
      rw [if_pos rfl] at p1 ⊢
      exact ⟨σ, S1, φ1, r1, rE.ext e1, Post.ke e1 p1⟩
    | false =>
      rw [if_neg Bool.false_ne_true] at p1 ⊢
      exact ⟨σ, S1, φ1, r1, rE.ext e1, Post.ke e1 p1⟩
  · refine PTimp (pt_ifExp hc.2 ha.2 hb.2) ?_
    rintro τ H Q ⟨σ, S, φ, r, rE, p⟩
    refine use_t r rE Ext.refl p fun d S1 H1 φ1 e1 r1 p1 => ?_
    cases d with
    | true =>
      rw [if_pos rfl] at p1 ⊢
      exact ⟨σ, S1, φ1, r1, rE.ext e1, Post.shift e1 p1⟩
    | false =>
      rw [if_neg Bool.false_ne_true] at p1 ⊢
      exact ⟨σ, S1, φ1, r1, rE.ext e1, Post.shift e1 p1⟩
/-- rOp of a comparison, its answer a bool -/
theorem rCmp {H H2 : Hp} {φ φ2 : List Addr} {τ : St} {S2 : Store} {t1 t2 : T} {x y : V} {o : Cm} {α : Type} {K : α → Store → Hp → List Addr → Prop} {f : Bool → Store → R α} {Q : Bool → Hp → Prop} (ex : Ext g H φ H2 φ2) (r2 : Rel g H2 φ2 S2) (m1 : TEm g H2 φ2 t1 x) (m2 : TEm g H2 φ2 t2 y)
    (p : Post g W H φ τ K ((ofO S2 (cmpE S2 o t1 t2)).bind f)) (k : ∀ c H3, cmpE S2 o t1 t2 = some c → Ext g H2 φ2 H3 φ2 → Rel g H3 φ2 S2 → Post g W H φ τ K (f c S2) → Q c H3) :
    rOp g (fun S a b => (cmpE S o a b).map fun c => T.v (.bl c)) x y H2 (fun z H3 => ∃ c, z = .bl c ∧ Q c H3) := by
  cases hc : cmpE S2 o t1 t2 with
  | none => rw [hc] at p; exact (show False from p).elim
  | some c =>
    rw [hc] at p
    refine ⟨S2, φ2, t1, t2, .v (.bl c), r2, m1, m2, (by show (cmpE S2 o t1 t2).map _ = _; rw [hc]; rfl), fun H' v e r' m f' => ?_⟩
    cases m
    exact ⟨c, rfl, k c H' hc e r' p⟩
theorem s_ch {a b c : Expr} {a' b' c' : Ex} {op op' : CmpOp} {o o' : Cm} {pos : Pos} (x : XOk g N k sc W X) (ho : cmpC op = some o) (ho' : cmpC op' = some o') (hs : isSet c = false) (ha : PB g W X a (den cx a')) (hb : PB g W X b (den cx b')) (hc : PB g W X c (den cx c')) :
    PB g W X (.Compare a [op, op'] [b, c] pos) (den cx (.ch o o' a' b' c')) := by
  constructor
  · refine PEimp (pe_chain (cmp_sound x.K x.units ho) (cmp_sound x.K x.units ho') ha.1 hb.1 hc.1 (noMark2 hs)) ?_
    rintro τ H Q ⟨σ, S, φ, r, rE, p⟩
    refine use_e r rE Ext.refl p fun t1 S1 H1 φ1 v1 e1 r1 m1 f1 p1 => ?_
    refine use_e r1 (rE.ext e1) e1 p1 fun t2 S2 H2 φ2 v2 e2 r2 m2 f2 p2 => ?_
    refine rCmp (e1.trans e2) r2 (m1.ext e2) m2 p2 fun q H3 _ e3 r3 p3 => ?_
    cases q with
    | true =>
      rw [if_pos rfl] at p3 ⊢
      refine use_e r3 (rE.ext ((e1.trans e2).trans e3)) ((e1.trans e2).trans e3) p3 fun t4 S4 H4 φ4 v4 e4 r4 m4 f4 p4 => ?_
      obtain ⟨t, ht, k'⟩ := fin_op (((e1.trans e2).trans e3).trans e4) p4
      exact ⟨S4, φ4, t2, t4, t, r4, m2.ext (e3.trans e4), m4, ht, k'⟩
    | false =>
      rw [if_neg Bool.false_ne_true] at p3 ⊢
      exact fin_v ((e1.trans e2).trans e3) p3 r3 (.bl false) trivial
  · refine PTimp (pt_chain (cmp_sound x.K x.units ho) (cmp_sound x.K x.units ho') ha.1 hb.1 hc.1 (noMark2 hs)) ?_
    rintro τ H Q ⟨σ, S, φ, r, rE, p⟩
    replace p : Post g W H φ τ (fun b _ H' _ => Q b H') (((den cx (.ch o o' a' b' c')).e σ S).bind fun t S' => ofO S' (truth S' t)) := p
    have p : Post g W H φ τ (fun b _ H' _ => Q b H') (((den cx a').e σ S).bind fun x S1 => ((den cx b').e σ S1).bind fun y S2 => (ofO S2 (cmpE S2 o x y)).bind fun r S3 =>
      (if r = true then ((den cx c').e σ S3).bind fun z S4 => ofO S4 ((cmpE S4 o' y z).map fun q => T.v (.bl q)) else .ok (.v (.bl false)) S3).bind fun t S' => ofO S' (truth S' t)) := by
      have e := p
      simp only [den, Den.of, R.bind_assoc] at e
      exact e
    refine use_e r rE Ext.refl p fun t1 S1 H1 φ1 v1 e1 r1 m1 f1 p1 => ?_
    refine use_e r1 (rE.ext e1) e1 p1 fun t2 S2 H2 φ2 v2 e2 r2 m2 f2 p2 => ?_
    refine rCmp (e1.trans e2) r2 (m1.ext e2) m2 p2 fun q H3 _ e3 r3 p3 => ?_
    cases q with
    | true =>
      rw [if_pos rfl] at p3 ⊢
      rw [R.bind_assoc] at p3
      refine use_e r3 (rE.ext ((e1.trans e2).trans e3)) ((e1.trans e2).trans e3) p3 fun t4 S4 H4 φ4 v4 e4 r4 m4 f4 p4 => ?_
      have p5 : Post g W H φ τ (fun b _ H' _ => Q b H') ((ofO S4 (cmpE S4 o' t2 t4)).bind fun c S' => .ok c S') := by
        cases hq : cmpE S4 o' t2 t4 with
        | none => rw [hq] at p4; exact p4
        | some c => rw [hq] at p4; exact p4
      exact rCmp (((e1.trans e2).trans e3).trans e4) r4 (m2.ext (e3.trans e4)) m4 p5 fun q H5 _ e5 r5 p6 => p6 H5 φ4 ((((e1.trans e2).trans e3).trans e4).trans e5) r5
    | false =>
      rw [if_neg Bool.false_ne_true] at p3 ⊢
      exact ⟨false, rfl, p3 H3 φ2 ((e1.trans e2).trans e3) r3⟩

/-! ### parts that are laid -/
theorem alloc_ok {H H1 : Hp} {φ φ1 : List Addr} {t : T} {S1 : Store} {v : V} (e : Ext g H φ H1 φ1) (r : Rel g H1 φ1 S1) (m : TEm g H1 φ1 t v) (f : Fr H t v) :
    ∃ φ2, Ext g H φ H1 φ2 ∧ Le g H1 φ1 H1 φ2 ∧ Rel g H1 φ2 (alloc t S1).2 ∧ Em g H1 φ2 (alloc t S1).1 v := by
  cases t with
  | v d => exact ⟨φ1, e, ⟨fun _ _ h => h, fun _ _ h => h, fun _ _ _ h => h⟩, r, m⟩
  | t o =>
    obtain ⟨p, ho, rfl, h1, h2, h3⟩ := m
    refine ⟨φ1 ++ [p], Ext.take_in e (f p rfl), Le.more, Rel.take_in r h1 h2 h3, .ref ?_⟩
    rw [← r.len, List.getElem?_append_right (Nat.le_refl _)]
    simp
theorem alloc_bind {β : Type} (r : R T) (f : D → Store → R β) : r.alloc.bind f = r.bind fun t S => f (alloc t S).1 (alloc t S).2 := by
  cases r <;> rfl
theorem s_args {c : Expr → Option Ex} (hc : ∀ e e', c e = some e' → PB g W X e (den cx e')) : ∀ (es : List Expr) (es' : List Ex), seqM c es = some es' → es.any isStar = false → PA X es (tD g W (ded cx es'))
  | [], es', h, _ => by
    cases h
    refine PAimp pa_nil ?_
    rintro τ H Q ⟨σ, S, φ, r, rE, p⟩
    exact p H φ Ext.refl r [] .nil
  | e :: es, es', h, hs => by
    rw [List.any_cons, Bool.or_eq_false_iff] at hs
    obtain ⟨e', h1, h2⟩ := opt_bind h
    obtain ⟨r', h3, rfl⟩ := opt_map h2
    refine PAimp (pa_cons (hc e e' h1).1 (s_args hc es r' h3 hs.2) (starE hs.1)) ?_
    rintro τ H Q ⟨σ, S, φ, r, rE, p⟩
    replace p : Post g W H φ τ (fun ds _ H' φ' => ∀ vs, Ems g H' φ' ds vs → Q vs H') (((den cx e').e σ S).alloc.bind fun d S1 => (ded cx r' σ S1).bind fun ds S2 => .ok (d :: ds) S2) := p
    rw [alloc_bind] at p
    refine use_e r rE Ext.refl p fun t1 S1 H1 φ1 v1 e1 r1 m1 f1 p1 => ?_
    obtain ⟨φ2, e2, l2, r2, m2⟩ := alloc_ok e1 r1 m1 f1
    refine use_d r2 (rE.ext e2) e2 p1 fun ds S3 H3 φ3 vs e3 r3 m3 p3 => ?_
    exact p3 H3 φ3 (e2.trans e3) r3 (v1 :: vs) (.cons (m2.ext e3.toLe) m3)
theorem s_tup {es : List Expr} {es' : List Ex} {j : Nat} {pos : Pos} (x : XOk g N k sc W X) (h : PA X es (tD g W (ded cx es'))) : PB g W X (.Tuple es j pos) (den cx (.na .tup es')) := by
  refine pb_of x rfl (PEimp (pe_tup h) ?_)
  rintro τ H Q ⟨σ, S, φ, r, rE, p⟩
  refine use_d r rE Ext.refl p fun ds S1 H1 φ1 vs e1 r1 m1 p1 => ?_
  replace p1 : Post g W H φ τ (KE g H Q) (if ds.length ≤ sizeLine then .ok (.v (.tup ds)) S1 else .bad) := p1
  split at p1
  · exact ⟨by rw [← m1.length]; assumption, fun n hn => give_tup r1 hn m1 fun H' v e r' m f => fin_v (e1.trans e) p1 r' m trivial⟩
  · exact (show False from p1).elim
theorem s_lst {es : List Expr} {es' : List Ex} {pos : Pos} (x : XOk g N k sc W X) (h : PA X es (tD g W (ded cx es'))) : PB g W X (.List es pos) (den cx (.na .lst es')) := by
  refine pb_of x rfl (PEimp (pe_lst h) ?_)
  rintro τ H Q ⟨σ, S, φ, r, rE, p⟩
  refine use_d r rE Ext.refl p fun ds S1 H1 φ1 vs e1 r1 m1 p1 => ?_
  replace p1 : Post g W H φ τ (KE g H Q) (if ds.length ≤ sizeLine then .ok (.t (.lst ds)) S1 else .bad) := p1
  split at p1
  · exact ⟨by rw [← m1.length]; assumption, fun n hn => give_new (o := .lst ds) r1 hn ⟨_, rfl, m1⟩ fun H' v e r' m f => fin_v (e1.trans e) p1 r' m (f.ext e1)⟩
  · exact (show False from p1).elim
theorem s_dct {pos : Pos} (x : XOk g N k sc W X) : PB g W X (.Dict [] [] pos) (den cx (.nd .dct [])) := by
  refine pb_of x rfl (PEimp pe_dnewK ?_)
  rintro τ H Q ⟨σ, S, φ, r, rE, p⟩
  intro n hn
  exact give_new (o := .dK []) r hn ⟨[], rfl, rfl, .nil⟩ fun H' v e r' m f => fin_v e p r' m f
theorem s_idx {a i : Expr} {a' i' : Ex} {pos : Pos} (x : XOk g N k sc W X) (hs : isSlice i = false) (ha : PB g W X a (den cx a')) (hi : PB g W X i (den cx i')) : PB g W X (.Subscript a i pos) (den cx (.nd .idx [a', i'])) := by
  refine pb_of x rfl (PEimp (pe_ix (idx_sound x.K x.units) ha.1 hi.1 (plainIx hs)) ?_)
  rintro τ H Q ⟨σ, S, φ, r, rE, p⟩
  replace p : Post g W H φ τ (KE g H Q) ((dens cx [a', i'] σ S).bind fun ts S' => app cx S' .idx ts) := p
  rw [dens2] at p
  refine use_e r rE Ext.refl p fun t1 S1 H1 φ1 v1 e1 r1 m1 f1 p1 => ?_
  refine use_e r1 (rE.ext e1) e1 p1 fun t2 S2 H2 φ2 v2 e2 r2 m2 f2 p2 => ?_
  obtain ⟨t, ht, k⟩ := fin_op (e1.trans e2) p2
  exact ⟨S2, φ2, t1, t2, t, r2, m1.ext e2, m2, ht, k⟩
end
end Ev
set_option Elab.async false
set_option linter.all false
set_option maxRecDepth 100000
set_option autoImplicit false
set_option maxHeartbeats 4000000
/-! Ev, part V: a tuple from behind, t[::-1]. -/
namespace Ev
open PySem PySem.Spec PyProof.Rows HT
section
variable {prog : Program} {w : World} {A : Around} {E : Value → Shared → Prop} {s : Shared}
theorem adjust_back (n : Nat) : Builtin.Slice.sliceAdjust none none (-1) (n : Int) = ((n : Int) - 1, -1) := by
  unfold Builtin.Slice.sliceAdjust
  simp
theorem places_back (n : Nat) : Builtin.Slice.slicePlaces ((n : Int) - 1) (-1) (-1) = n := by
  unfold Builtin.Slice.slicePlaces
  rw [if_neg (by decide)]
  by_cases h : n = 0
  · subst h
    rfl
  · rw [if_pos (by omega)]
    have e : (-(-1) : Int) = 1 := rfl
    rw [e, Int.ediv_one]
    omega
theorem fm_congr {α β : Type} {f g : α → Option β} : ∀ {l : List α}, (∀ m ∈ l, f m = g m) → l.filterMap f = l.filterMap g
  | [], _ => rfl
  | a :: l, h => by
    rw [List.filterMap_cons, List.filterMap_cons, h a List.mem_cons_self, fm_congr (l := l) fun m hm => h m (List.mem_cons_of_mem _ hm)]
theorem pick_back (xs : Array Value) : ((List.range xs.size).filterMap fun (m : Nat) => xs[(((xs.size : Int) - 1) + (m : Int) * (-1)).toNat]?) = xs.toList.reverse := by
  have e : (List.range xs.size).filterMap (fun (m : Nat) => xs[(((xs.size : Int) - 1) + (m : Int) * (-1)).toNat]?) = ((List.range xs.size).map (fun k => xs.size - 1 - k)).filterMap (fun i => xs[i]?) := by
    rw [List.filterMap_map]
    refine fm_congr fun m hm => ?_
    have hm' := List.mem_range.mp hm
    have : (((xs.size : Int) - 1) + (m : Int) * (-1)).toNat = xs.size - 1 - m := by omega
    show xs[(((xs.size : Int) - 1) + (m : Int) * (-1)).toNat]? = xs[xs.size - 1 - m]?
    rw [this]
  rw [e, PySem.W.krv_range, List.filterMap_reverse, PySem.W.krv_all]
theorem applied_back {sl : Addr} {vl vu vs : Value} {n : Nat} {Q : Int × Int × Nat → Shared → Prop} (hs : s.heap.IsSliceOf sl vl vu vs) (pl : IsPart vl none) (pu : IsPart vu none) (ps : IsPart vs (some (-1)))
    (h : Q ((n : Int) - 1, -1, n) s) : wpAny (model prog w) A (Builtin.Slice.sliceApplied (.ref sl) (pure (n : Int))) Q E s := by
  obtain ⟨os, hos, hcs, hds⟩ := id hs
  unfold Builtin.Slice.sliceApplied Builtin.Slice.sliceFields
  refine wpAny_bind (wpAny_bind (wpAny_field hos hds (x := vl) rfl (wpAny_bind (wpAny_field hos hds (x := vu) rfl (wpAny_bind (wpAny_field hos hds (x := vs) rfl (wpAny_pure (wpAny_bind (slicePart_ ps ?_)))))))))
  show wpAny _ _ (if ((-1 : Int) == 0) = true then _ else _) _ _ s
  rw [if_neg (by decide)]
  refine wpAny_bind (slicePart_ pl (wpAny_bind (slicePart_ pu (wpAny_bind (wpAny_pure ?_)))))
  show wpAny _ _ (match Builtin.Slice.sliceAdjust none none (-1) (n : Int) with | (lo, hi) => pure (lo, (-1 : Int), Builtin.Slice.slicePlaces lo hi (-1))) _ _ s
  rw [adjust_back]
  show wpAny _ _ (pure ((n : Int) - 1, (-1 : Int), Builtin.Slice.slicePlaces ((n : Int) - 1) (-1) (-1))) _ _ s
  rw [places_back]
  exact wpAny_pure h
theorem tuple_back {t sl : Addr} {items : Array Value} {vl vu vs : Value} {Q : Value → Shared → Prop} (ht : IsTup s.heap t items) (hs : s.heap.IsSliceOf sl vl vu vs) (pl : IsPart vl none) (pu : IsPart vu none) (ps : IsPart vs (some (-1)))
    (hsz : items.size ≤ sizeLine) (h : Q (.ref s.heap.objs.size) { s with heap := s.heap.push { cls := .type "tuple", data := .seq items.toList.reverse.toArray } }) : wpAny (model prog w) A (getItem (.ref t) (.ref sl)) Q E s := by
  have fit : sizeOk (.seq items.toList.reverse.toArray) := by
    show items.toList.reverse.toArray.size ≤ sizeLine
    rw [List.size_toArray, List.length_reverse, Array.length_toList]
    exact hsz
  obtain ⟨os, hos, hcs, hds⟩ := id hs
  have isSl : s.TypeIs (.ref sl) "slice" := ⟨os, hos, hcs⟩
  unfold getItem
  try with_reducible refine wpAny_holding ?_
  first | refine wpAny_bind (wpAny_pure ?_) | skip
  refine wpAny_bind (wpAny_sequenceKey ht.typeIs (by decide) (wpAny_bind (wpAny_callSpecial?_slot (name := Str.ofString "__getitem__") ht.typeIs PyProof.Rows.slot_tuple_getitem
    (wpAny_call_entry PyProof.Rows.slot_tuple_getitem ht.typeIs entry_tuple_getitem ?_ (args_tuple_getitem _ _)))))
  show wpAny _ _ (Builtin.Tuple.tupleItemsOf (.ref t) >>= _) _ _ s
  refine wpAny_bind (tupleItemsOf_ ht (wpAny_bind (wpAny_typeOf isSl ?_)))
  rw [if_pos (by decide)]
  refine wpAny_bind (applied_back hs pl pu ps ?_)
  have no : ¬ ((((items.size : Int) - 1) == 0 && (-1 : Int) == 1 && items.size == items.size) = true) := by simp
  show wpAny _ _ (if ((((items.size : Int) - 1) == 0 && (-1 : Int) == 1 && items.size == items.size) = true) then _ else _) _ _ s
  rw [if_neg no, pick_back]
  first
    | exact wpAny_bind (m := Builtin.Tuple.tupleExact _) (wpAny_newObj_type (wpAny_pure ⟨_, rfl, wpAny_pure h⟩) fit)
    | exact wpAny_bind (m := Builtin.Tuple.tupleExact _) (wpAny_newObj_type (wpAny_bind (wpAny_pure (wpAny_pure ⟨_, rfl, wpAny_pure h⟩))) fit)
    | exact wpAny_bind (wpAny_bind (m := Builtin.Tuple.tupleExact _) (wpAny_newObj_type (wpAny_pure (wpAny_pure ⟨_, rfl, wpAny_pure h⟩)) fit))
    | exact wpAny_bind (wpAny_bind (m := Builtin.Tuple.tupleExact _) (wpAny_newObj_type (wpAny_pure ⟨_, rfl, wpAny_pure h⟩) fit))
end
end Ev
set_option Elab.async false
set_option linter.all false
set_option maxRecDepth 100000
set_option autoImplicit false
set_option maxHeartbeats 1000000
/-! Ev, part I: slices, fields, isinstance, built-ins, calls, methods. -/
namespace Ev
open PySem L2
section
variable {g : G} {N : List Str} {k : Nat} {sc : Scope} {W : WX} {X : Cx} {cx : Cxt}

theorem s_sl0 {a : Expr} {a' : Ex} {p2 pos : Pos} (x : XOk g N k sc W X) (ha : PB g W X a (den cx a')) : PB g W X (.Subscript a (.Slice none none none p2) pos) (den cx (.nd (.slc 0) [a'])) := by
  refine pb_of x rfl (PEimp (pe_slice (slc_sound x.K) ha.1 po_none po_none) ?_)
  rintro τ H Q ⟨σ, S, φ, r, rE, p⟩
  replace p : Post g W H φ τ (KE g H Q) ((dens cx [a'] σ S).bind fun ts S' => app cx S' (.slc 0) ts) := p
  rw [dens1] at p
  refine use_e r rE Ext.refl p fun t1 S1 H1 φ1 v1 e1 r1 m1 f1 p1 => ?_
  obtain ⟨t, ht, k⟩ := fin_op e1 p1
  exact ⟨S1, φ1, t1, t, r1, m1, ht, k⟩
theorem s_sl1 {a l : Expr} {a' l' : Ex} {p2 pos : Pos} (x : XOk g N k sc W X) (ha : PB g W X a (den cx a')) (hl : PB g W X l (den cx l')) : PB g W X (.Subscript a (.Slice (some l) none none p2) pos) (den cx (.nd (.slc 1) [a', l'])) := by
  refine pb_of x rfl (PEimp (pe_slice (slc_sound x.K) ha.1 (po_some hl.1) po_none) ?_)
  rintro τ H Q ⟨σ, S, φ, r, rE, p⟩
  replace p : Post g W H φ τ (KE g H Q) ((dens cx [a', l'] σ S).bind fun ts S' => app cx S' (.slc 1) ts) := p
  rw [dens2] at p
  refine use_e r rE Ext.refl p fun t1 S1 H1 φ1 v1 e1 r1 m1 f1 p1 => ?_
  refine use_e r1 (rE.ext e1) e1 p1 fun t2 S2 H2 φ2 v2 e2 r2 m2 f2 p2 => ?_
  obtain ⟨t, ht, k⟩ := fin_op (e1.trans e2) p2
  obtain ⟨i, hi, ht⟩ := opt_bind ht
  have e := intO_some hi
  subst e
  cases m2
  exact ⟨i, rfl, S2, φ2, t1, t, r2, m1.ext e2, ht, k⟩
theorem s_sl2 {a l : Expr} {a' l' : Ex} {p2 pos : Pos} (x : XOk g N k sc W X) (ha : PB g W X a (den cx a')) (hl : PB g W X l (den cx l')) : PB g W X (.Subscript a (.Slice none (some l) none p2) pos) (den cx (.nd (.slc 2) [a', l'])) := by
  refine pb_of x rfl (PEimp (pe_slice (slc_sound x.K) ha.1 po_none (po_some hl.1)) ?_)
  rintro τ H Q ⟨σ, S, φ, r, rE, p⟩
  replace p : Post g W H φ τ (KE g H Q) ((dens cx [a', l'] σ S).bind fun ts S' => app cx S' (.slc 2) ts) := p
  rw [dens2] at p
  refine use_e r rE Ext.refl p fun t1 S1 H1 φ1 v1 e1 r1 m1 f1 p1 => ?_
  refine use_e r1 (rE.ext e1) e1 p1 fun t2 S2 H2 φ2 v2 e2 r2 m2 f2 p2 => ?_
  obtain ⟨t, ht, k⟩ := fin_op (e1.trans e2) p2
  obtain ⟨i, hi, ht⟩ := opt_bind ht
  have e := intO_some hi
  subst e
  cases m2
  exact ⟨i, rfl, S2, φ2, t1, t, r2, m1.ext e2, ht, k⟩
theorem s_sl {a l h : Expr} {a' l' h' : Ex} {p2 pos : Pos} (x : XOk g N k sc W X) (ha : PB g W X a (den cx a')) (hl : PB g W X l (den cx l')) (hh : PB g W X h (den cx h')) : PB g W X (.Subscript a (.Slice (some l) (some h) none p2) pos) (den cx (.sl a' l' h')) := by
  refine pb_of x rfl (PEimp (pe_slice (slc_sound x.K) ha.1 (po_some hl.1) (po_some hh.1)) ?_)
  rintro τ H Q ⟨σ, S, φ, r, rE, p⟩
  refine use_e r rE Ext.refl p fun t1 S1 H1 φ1 v1 e1 r1 m1 f1 p1 => ?_
  refine use_e r1 (rE.ext e1) e1 p1 fun t2 S2 H2 φ2 v2 e2 r2 m2 f2 p2 => ?_
  split at p2
  · exact (show False from p2).elim
  · rename_i i hi
    have e := intO_some hi
    subst e
    cases m2
    refine ⟨i, rfl, ?_⟩
    refine use_e r2 (rE.ext (e1.trans e2)) (e1.trans e2) p2 fun t3 S3 H3 φ3 v3 e3 r3 m3 f3 p3 => ?_
    obtain ⟨t, ht, k⟩ := fin_op ((e1.trans e2).trans e3) p3
    obtain ⟨j, hj, ht⟩ := opt_bind ht
    have e := intO_some hj
    subst e
    cases m3
    exact ⟨j, rfl, S3, φ3, t1, t, r3, m1.ext (e2.trans e3), ht, k⟩

/-! ### fields -/
theorem fn_at {f : Nat} (h : f < g.T.flds.length) : g.T.flds[f]? = some (g.fn f) := by
  unfold G.fn
  rw [List.getElem?_eq_getElem h, List.getD_eq_getElem?_getD, List.getElem?_eq_getElem h]
  rfl
theorem fn_inj (nd : g.T.flds.Nodup) {f f' : Nat} (h : f < g.T.flds.length) (h' : f' < g.T.flds.length) (e : g.fn f = g.fn f') : f = f' := nodup_ix nd (fn_at h) (by rw [e]; exact fn_at h')
theorem flds_get (nd : g.T.flds.Nodup) {H : Hp} {φ : List Addr} {f : Nat} (hf : f < g.T.flds.length) : ∀ {fs : List (Nat × D)} {ws : List (Str × V)}, ws.map (·.1) = fs.map (fun p => g.fn p.1) → Ems g H φ (fs.map (·.2)) (ws.map (·.2)) → (∀ p ∈ fs, p.1 < g.T.flds.length) →
    ∀ d, fs.lookup f = some d → ∃ v, ws.lookup (g.fn f) = some v ∧ Em g H φ d v
  | [], _, _, _, _, _, h => by cases h
  | (q, d) :: fs, ws, e, m, hl, d', h => by
    cases ws with
    | nil => cases e
    | cons w ws =>
      obtain ⟨n, v⟩ := w
      simp only [List.map_cons, List.cons.injEq] at e m
      obtain ⟨e1, e2⟩ := e
      have hq := hl (q, d) List.mem_cons_self
      cases m with
      | cons m1 m2 =>
        rw [List.lookup_cons] at h ⊢
        by_cases hqf : f = q
        · subst hqf
          have hb : (f == f) = true := by simp
          rw [hb] at h
          cases h
          have hb2 : (g.fn f == n) = true := by rw [e1]; simp
          rw [hb2]
          exact ⟨v, rfl, m1⟩
        · have hb : (f == q) = false := by simp [hqf]
          rw [hb] at h
          have hb2 : (g.fn f == n) = false := by
            rw [e1]
            refine beq_eq_false_iff_ne.mpr fun z => hqf (fn_inj nd hf hq z)
          rw [hb2]
          exact flds_get nd hf e2 m2 (fun p hp => hl p (List.mem_cons_of_mem _ hp)) d' h
theorem flds_put (nd : g.T.flds.Nodup) {H : Hp} {φ : List Addr} {f : Nat} {d : D} {v : V} (hf : f < g.T.flds.length) (hm : Em g H φ d v) : ∀ {fs : List (Nat × D)} {ws : List (Str × V)}, ws.map (·.1) = fs.map (fun p => g.fn p.1) → Ems g H φ (fs.map (·.2)) (ws.map (·.2)) → (∀ p ∈ fs, p.1 < g.T.flds.length) →
    (putF (g.fn f) v ws).map (·.1) = (putN f d fs).map (fun p => g.fn p.1) ∧ Ems g H φ ((putN f d fs).map (·.2)) ((putF (g.fn f) v ws).map (·.2)) ∧ ∀ p ∈ putN f d fs, p.1 < g.T.flds.length
  | [], ws, e, m, hl => by
    cases ws with
    | nil => exact ⟨rfl, .cons hm .nil, fun p hp => by
        have : p = (f, d) := by simpa [putN] using hp
        rw [this]; exact hf⟩
    | cons _ _ => cases e
  | (q, d') :: fs, ws, e, m, hl => by
    cases ws with
    | nil => cases e
    | cons w ws =>
      obtain ⟨n, v'⟩ := w
      simp only [List.map_cons, List.cons.injEq] at e m
      obtain ⟨e1, e2⟩ := e
      have hq := hl (q, d') List.mem_cons_self
      cases m with
      | cons m1 m2 =>
        unfold putF putN
        by_cases hqf : q = f
        · have h2 : n = g.fn f := by rw [e1, hqf]
          rw [if_pos hqf, if_pos h2]
          refine ⟨by simp only [List.map_cons, List.cons.injEq]; exact ⟨e1, e2⟩, .cons hm m2, fun p hp => ?_⟩
          rcases List.mem_cons.mp hp with hp | hp
          · rw [hp]; exact hq
          · exact hl p (List.mem_cons_of_mem _ hp)
        · have h2 : ¬ n = g.fn f := by rw [e1]; exact fun z => hqf (fn_inj nd hq hf z)
          rw [if_neg hqf, if_neg h2]
          obtain ⟨i1, i2, i3⟩ := flds_put nd hf hm e2 m2 (fun p hp => hl p (List.mem_cons_of_mem _ hp))
          refine ⟨by simp only [List.map_cons, List.cons.injEq]; exact ⟨e1, i1⟩, .cons m1 i2, fun p hp => ?_⟩
          rcases List.mem_cons.mp hp with hp | hp
          · rw [hp]; exact hq
          · exact i3 p hp
theorem PEor {e : Expr} {t1 t2 : TE} (h1 : PE X e t1) (h2 : PE X e t2) : PE X e (fun τ H Q => t1 τ H Q ∨ t2 τ H Q) := ⟨fun pins s τ H Q I q => q.elim (h1.run pins s τ H Q I) (h2.run pins s τ H Q I)⟩
def tFldv (K : PySem.W.Frag) (ta : TE) (f : Str) : TE := fun σ H Q => ta σ H fun x H1 => (∃ a C dx fs v, x = .ref a ∧ H1 a = some (.ins C dx fs) ∧ Cls K C ∧ NoAttr K C f ∧ fs.lookup f = some v ∧ Q v H1) ∨
  ∃ (a C d : Addr) (fs : List (Str × V)) (v : V), x = .ref a ∧ H1 a = some (exo a C (some d)) ∧ H1 d = some (exd d fs) ∧ ExcC K C ∧ PySem.W.findIn K (.ref C) f = some none ∧ fs.lookup f = some v ∧ Q v H1
/-- e.f, an attribute of an instance or of an exception -/
theorem pe_fldv {e : Expr} {f : Str} {pos : Pos} {ta : TE} (he : PE X e ta) (hb : attributeBase e f X.env (eval e X.env) = eval e X.env) : PE X (.Attribute e f pos) (tFldv X.K ta f) := by
  refine ⟨fun pins s σ H Q I h => ?_⟩
  refine attr_of hb (thn (he.run pins s σ H _ I h) fun u s1 ⟨x, H1, I1, rx, h1⟩ => ?_)
  rcases h1 with ⟨a, C, dx, fs, v, ex, ea, c, n, l, q⟩ | ⟨a, C, d, fs, v, ex, ha, hd, E, hno, l, q⟩
  · subst ex
    obtain rfl : u = Value.ref a := rx
    exact getattr_ok I1 ea c n l fun u' s2 I2 ru => ⟨v, H1, I2, ru, q⟩
  · subst ex
    obtain rfl : u = Value.ref a := rx
    obtain ⟨oe, od, J, k⟩ := exo_inst I1 ha fun d' z => by cases z; exact ⟨fs, hd⟩
    obtain ⟨o, mA, rfl, hn, ho, hr⟩ := k d fs rfl hd
    obtain ⟨od', ho', hl⟩ := lookIn_ns hn
    rw [ho] at ho'
    cases ho'
    obtain ⟨u, hu, ru⟩ := RelO.some_of (v := v) (o := mA f) (by rw [← l]; exact hr f)
    exact HandSPX.exc_get I1.kIn J E.hg E.hk E.hs (PySem.W.findObj_own E.hd hno rfl (by rw [hl, hu])) (handed_of ru) ⟨v, H1, I1.tok _, ru, q⟩
theorem xat_of {S : Store} {H : Hp} {φ : List Addr} {t : T} {v : V} {c : Nat} {fs : List (Nat × D)} (r : Rel g H φ S) (h : TEm g H φ t v) (e : objW S t = some (.exn c fs)) : ∃ a, v = .ref a ∧ XAt g H φ a c fs := by
  cases t with
  | v d =>
    cases d with
    | ref n =>
      obtain ⟨a, h1, h2⟩ := r.exn n c fs e
      cases h with
      | ref hn =>
        rw [h1] at hn
        cases hn
        exact ⟨a, rfl, h2⟩
    | _ => cases e
  | t o' =>
    cases e
    obtain ⟨p, ho, h1, h2, _, h4⟩ := h
    exact h4.elim
theorem tyX_sound {S : Store} {H : Hp} {φ : List Addr} {t : T} {v : V} {c : Nat} (r : Rel g H φ S) (h : TEm g H φ t v) (e : tyX S t = some c) : ∃ a dx, v = .ref a ∧ H a = some (exo a (g.ca c) dx) ∧ ∀ d, dx = some d → ∃ fs, H d = some (exd d fs) := by
  unfold tyX at e
  split at e
  · rename_i c' fs hk
    cases e
    obtain ⟨a, rfl, hx⟩ := xat_of r h hk
    rcases hx with ⟨_, h1⟩ | ⟨dx, f, d', v, _, h2, h3, h4⟩
    · exact ⟨a, none, rfl, h1, fun d z => by cases z⟩
    · exact ⟨a, some dx, rfl, h2, fun d z => by cases z; exact ⟨_, h3⟩⟩
  · cases e
theorem CallRor {f : Value} {r1 r2 : List V → Hp → VK → Prop} (h1 : CallR X f r1) (h2 : CallR X f r2) : CallR X f (fun xs H Q => r1 xs H Q ∨ r2 xs H Q) := fun pins s σ H xs us Q I r q => q.elim (h1 pins s σ H xs us Q I r) (h2 pins s σ H xs us Q I r)
theorem s_fld {o : Expr} {o' : Ex} {f : Str} {j : Nat} {pos : Pos} (x : XOk g N k sc W X) (G : GOk g cx) (hs : isCall0 o = false) (hj : g.T.flds[j]? = some f) (ho : PB g W X o (den cx o')) : PB g W X (.Attribute o f pos) (den cx (.nd (.fld j) [o'])) := by
  have hl : j < g.T.flds.length := (List.getElem?_eq_some_iff.mp hj).1
  have hf : f = g.fn j := by
    rw [fn_at hl] at hj
    exact (Option.some.inj hj).symm
  subst hf
  refine pb_of x rfl (PEimp (pe_fldv ho.1 (noSuper hs)) ?_)
  rintro τ H Q ⟨σ, S, φ, r, rE, p⟩
  replace p : Post g W H φ τ (KE g H Q) ((dens cx [o'] σ S).bind fun ts S' => app cx S' (.fld j) ts) := p
  rw [dens1] at p
  refine use_e r rE Ext.refl p fun t1 S1 H1 φ1 v1 e1 r1 m1 f1 p1 => ?_
  replace p1 : Post g W H φ τ (KE g H Q) (match objW S1 t1 with
    | some (.ins c fs) => if cx.at_ c j = true then ofO S1 ((fs.lookup j).map T.v) else .bad
    | some (.exn c fs) => if cx.xa c j = true then ofO S1 ((fs.lookup j).map T.v) else .bad
    | _ => .bad) := p1
  split at p1
  · rename_i c fs hk
    split at p1
    · rename_i hat
      obtain ⟨t, ht, k⟩ := fin_op e1 p1
      obtain ⟨d, hd, rfl⟩ := opt_map ht
      obtain ⟨p, ho, rfl, h1, dx, ws, rfl, e2, m2, hl2⟩ := m1.objW r1 hk rfl
      obtain ⟨v, hv, mv⟩ := flds_get G.nd hl e2 m2 hl2 d hd
      obtain ⟨c1, c2⟩ := G.at_ c j hat
      exact .inl ⟨p, g.ca c, dx, ws, v, rfl, h1, by rw [x.K]; exact c1, by rw [x.K]; exact c2, hv, give r1 mv k⟩
    · exact (show False from p1).elim
  · rename_i c fs hk
    split at p1
    · rename_i hat
      obtain ⟨t, ht, k⟩ := fin_op e1 p1
      obtain ⟨d, hd, rfl⟩ := opt_map ht
      obtain ⟨a, rfl, hx⟩ := xat_of r1 m1 hk
      obtain ⟨c1, c2⟩ := G.xa_ c j hat
      rcases hx with ⟨rfl, _⟩ | ⟨dx, f, d', v, rfl, h2, h3, h4⟩
      · cases hd
      · have hf : j = f := by
          by_cases hjf : j = f
          · exact hjf
          · have hb : (j == f) = false := by simp [hjf]
            simp [List.lookup, hb] at hd
        subst hf
        have hdd : d' = d := by simpa [List.lookup] using hd
        subst hdd
        exact .inr ⟨a, g.ca c, dx, [(g.fn j, v)], v, rfl, h2, h3, by rw [x.K]; exact c1, by rw [x.K]; exact c2, by simp [List.lookup], give r1 h4 k⟩
    · exact (show False from p1).elim
  · exact (show False from p1).elim

/-! ### isinstance -/
theorem tyB_sound {S : Store} {H : Hp} {φ : List Addr} {t : T} {v : V} {n : String} (r : Rel g H φ S) (h : TEm g H φ t v) (e : tyB S t = some n) : TyX g.K H v (.type n) ∧ n ∈ tyNames := by
  have rest : ∀ o, objR S t = some o → (match (some o : Option O) with | some (.lst _) => some "list" | some (.dK _) => some "dict" | _ => none) = some n → TyX g.K H v (.type n) ∧ n ∈ tyNames := by
    intro o ho hc
    have hx : isX o = false := by
      cases o with
      | exn c fs => cases hc
      | _ => rfl
    obtain ⟨p, h', o', rfl, h1, h2, h3⟩ := h.objR r ho hx
    have hu : ∀ u, (u = o) → (∀ z, u ≠ .lk z) → unlk o' = u := fun u e1 e2 => by
      rcases h3 with h3 | h3
      · rw [← h3, ← e1]
        cases u <;> first | rfl | exact absurd rfl (e2 _)
      · rw [← h3, e1]
    split at hc
    · rename_i ds e'
      cases e'
      cases hc
      have hu := hu _ rfl (fun z => nofun)
      refine ⟨?_, by simp [tyNames]⟩
      cases o' with
      | lst ds' =>
        obtain ⟨vs, rfl, _⟩ := h2
        exact .base (.lst h1)
      | lk o2 =>
        have : o2 = .lst ds := hu
        subst this
        obtain ⟨ob, ho', rfl, vs, rfl, _⟩ := h2
        exact .base (.frz h1)
      | _ => cases hu
    · rename_i kvs e'
      cases e'
      cases hc
      have hu := hu _ rfl (fun z => nofun)
      refine ⟨?_, by simp [tyNames]⟩
      cases o' with
      | dK ds' =>
        obtain ⟨vs, rfl, _⟩ := h2
        exact .base (.dK h1)
      | lk o2 =>
        have : o2 = .dK kvs := hu
        subst this
        obtain ⟨ob, ho', rfl, vs, rfl, _⟩ := h2
        exact .fDict h1
      | _ => cases hu
    · cases hc
  unfold tyB at e
  split at e
  · cases h; cases e; exact ⟨.base .non, by simp [tyNames]⟩
  · cases h; cases e; exact ⟨.base (.bl _), by simp [tyNames]⟩
  · cases h; cases e; exact ⟨.base (.int _), by simp [tyNames]⟩
  · cases h; cases e; exact ⟨.base (.str _), by simp [tyNames]⟩
  · cases e
    cases h with
    | tup h1 h2 =>
      refine ⟨?_, by simp [tyNames]⟩
      rcases h1 with (h1 | ⟨o, h1⟩) | ⟨o, its, n, h1, h3, _⟩
      · exact .base (.tup h1)
      · exact .fTuple h1
      · exact .kTuple h1 h3
  · cases e
  · cases e
  · cases ho : objR S t with
    | none => rw [ho] at e; cases e
    | some o =>
      rw [ho] at e
      exact rest o ho e
theorem tyC_sound (G : GOk g cx) {S : Store} {H : Hp} {φ : List Addr} {t : T} {v : V} {c : Nat} (r : Rel g H φ S) (h : TEm g H φ t v) (e : tyC S t = some c) (hc : cx.ic c = true) : TyX g.K H v (.ref (g.ca c)) := by
  unfold tyC at e
  split at e
  · rename_i c' fs hk
    cases e
    obtain ⟨p, ho, rfl, h1, dx, ws, rfl, _⟩ := h.objW r hk rfl
    obtain ⟨i1, i2, i3, i4, i5, _⟩ := G.ic_ c hc
    exact .base (.ins h1 i1 i2 i3 i4 i5)
  · cases e
theorem tyN_facts {n : Str} {s : String} (h : tyN n = some s) : bootBuiltins n = some (.type s) ∧ n ∈ bltns ∧ s ∈ tyNames := by
  unfold tyN at h
  repeat' split at h
  all_goals first | (cases h; rename_i e; subst e; exact ⟨by decide +kernel, by decide +kernel, by decide⟩) | cases h
theorem s_isiB {a : Expr} {a' : Ex} {n : Str} {s : String} {p p2 pos : Pos} (x : XOk g N k sc W X) (G : GOk g cx) (hg : glC sc "isinstance" = true) (ht : glC sc n = true) (ho : okN n = true) (hn : tyN n = some s) (hs : isStar a = false) (ha : PB g W X a (den cx a')) :
    PB g W X (.Call (.Name "isinstance" p) [a, .Name n p2] [] pos) (den cx (.nd (.isi (.b s)) [a'])) := by
  obtain ⟨b1, b2, b3⟩ := tyN_facts hn
  refine pb_of x rfl (PEimp (pe_callB call_isi (x.gl hg) (by rw [x.mg]; exact G.blt_ _ (by decide +kernel)) (by decide +kernel) (pa_cons ha.1 (pa_cons (pe_bltn (v := .ty s) (x.gl ht) (by rw [x.mg]; exact G.blt_ _ b2) b1 rfl (okN_iff ho).2.2 (okN_iff ho).1) pa_nil) (starE hs)) (by decide +kernel) (by decide +kernel) (starE hs)) ?_)
  rintro τ H Q ⟨σ, S, φ, r, rE, p⟩
  replace p : Post g W H φ τ (KE g H Q) ((dens cx [a'] σ S).bind fun ts S' => app cx S' (.isi (.b s)) ts) := p
  rw [dens1] at p
  refine use_e r rE Ext.refl p fun t1 S1 H1 φ1 v1 e1 r1 m1 f1 p1 => ?_
  replace p1 : Post g W H φ τ (KE g H Q) (match tyB S1 t1 with
      | some u => ofO S1 ((kitB u s).map fun c => T.v (.bl c))
      | none => match tyC S1 t1 with
        | some m => if cx.ic m = true then .ok (.v (.bl false)) S1 else .bad
        | none => .bad) := p1
  split at p1
  · rename_i u hu
    obtain ⟨t, hx, k⟩ := fin_op e1 p1
    obtain ⟨c, hc, rfl⟩ := opt_map hx
    obtain ⟨y1, y2⟩ := tyB_sound r1 m1 hu
    rw [← x.K] at y1
    exact ⟨v1, .ty s, .type u, .type s, c, rfl, .ty s, y1, kit_ty hc, give r1 (.bl _) k⟩
  · split at p1
    · rename_i m hm
      split at p1
      · rename_i hi
        have y := tyC_sound G r1 m1 hm hi
        rw [← x.K] at y
        refine ⟨v1, .ty s, .ref (g.ca m), .type s, false, rfl, .ty s, y, ?_, fin_v e1 p1 r1 (.bl _) trivial⟩
        rw [x.K]
        exact (G.ic_ m hi).2.2.2.2.2 s b3
      · exact (show False from p1).elim
    · exact (show False from p1).elim
theorem s_isiC {a : Expr} {a' : Ex} {n : Str} {i : Nat} {p p2 pos : Pos} (x : XOk g N k sc W X) (G : GOk g cx) (hg : glC sc "isinstance" = true) (ht : glC sc n = true) (ho : okN n = true) (hn : g.T.clss.lookup n = some i) (hs : isStar a = false) (ha : PB g W X a (den cx a')) :
    PB g W X (.Call (.Name "isinstance" p) [a, .Name n p2] [] pos) (den cx (.nd (.isi (.c i)) [a'])) := by
  refine pb_of x rfl (PEimp (pe_callB (CallRor call_isi call_isX) (x.gl hg) (by rw [x.mg]; exact G.blt_ _ (by decide +kernel)) (by decide +kernel) (pa_cons ha.1 (pa_cons (pe_glob (v := .ref (g.ca i)) (x.gl ht) (by rw [x.mg]; exact G.cls_ _ _ hn) rfl (okN_iff ho).1) pa_nil) (starE hs)) (by decide +kernel) (by decide +kernel) (starE hs)) ?_)
  rintro τ H Q ⟨σ, S, φ, r, rE, p⟩
  replace p : Post g W H φ τ (KE g H Q) ((dens cx [a'] σ S).bind fun ts S' => app cx S' (.isi (.c i)) ts) := p
  rw [dens1] at p
  refine use_e r rE Ext.refl p fun t1 S1 H1 φ1 v1 e1 r1 m1 f1 p1 => ?_
  replace p1 : Post g W H φ τ (KE g H Q) (match tyC S1 t1 with
      | some m => if cx.ic m = true then .ok (.v (.bl (cx.sb m i))) S1 else .bad
      | none => match tyX S1 t1 with
        | some m => if cx.xi m = true then .ok (.v (.bl (cx.sb m i))) S1 else .bad
        | none => match tyB S1 t1 with
          | some _ => .ok (.v (.bl false)) S1
          | none => .bad) := p1
  split at p1
  · rename_i m hm
    split at p1
    · rename_i hi
      have y := tyC_sound G r1 m1 hm hi
      rw [← x.K] at y
      refine .inl ⟨v1, .ref (g.ca i), .ref (g.ca m), .ref (g.ca i), _, rfl, .own _, y, ?_, fin_v e1 p1 r1 (.bl _) trivial⟩
      rw [x.K]
      exact G.cc_ n m i hi hn
    · exact (show False from p1).elim
  · split at p1
    · rename_i m hm
      split at p1
      · rename_i hi
        obtain ⟨a, dx, rfl, y1, y2⟩ := tyX_sound r1 m1 hm
        refine .inr ⟨a, g.ca m, dx, .ref (g.ca i), .ref (g.ca i), _, rfl, y1, y2, by rw [x.K]; exact (G.xi_ m hi).1, fun u hu => hu, ?_, fin_v e1 p1 r1 (.bl _) trivial⟩
        rw [x.K]
        exact (G.ex_ n m i hi hn).1
      · exact (show False from p1).elim
    · split at p1
      · rename_i u hu
        obtain ⟨y1, y2⟩ := tyB_sound r1 m1 hu
        rw [← x.K] at y1
        refine .inl ⟨v1, .ref (g.ca i), .type u, .ref (g.ca i), false, rfl, .own _, y1, ?_, fin_v e1 p1 r1 (.bl _) trivial⟩
        rw [x.K]
        exact G.tc_ n u i y2 hn
      · exact (show False from p1).elim
/-- isinstance(e, ValueError) -/
theorem s_isiV {a : Expr} {a' : Ex} {p p2 pos : Pos} (x : XOk g N k sc W X) (G : GOk g cx) (hg : glC sc "isinstance" = true) (ht : glC sc "ValueError" = true) (hs : isStar a = false) (ha : PB g W X a (den cx a')) :
    PB g W X (.Call (.Name "isinstance" p) [a, .Name "ValueError" p2] [] pos) (den cx (.nd (.isi .ve) [a'])) := by
  refine pb_of x rfl (PEimp (pe_callB call_isX (x.gl hg) (by rw [x.mg]; exact G.blt_ _ (by decide +kernel)) (by decide +kernel) (pa_cons ha.1 (pa_cons (pe_bltn (v := .ty "ValueError") (x.gl ht) (by rw [x.mg]; exact G.vn_) PyProof.Rows.Boot.«ValueError» rfl (by decide +kernel) (by decide +kernel)) pa_nil) (starE hs)) (by decide +kernel) (by decide +kernel) (starE hs)) ?_)
  rintro τ H Q ⟨σ, S, φ, r, rE, p⟩
  replace p : Post g W H φ τ (KE g H Q) ((dens cx [a'] σ S).bind fun ts S' => app cx S' (.isi .ve) ts) := p
  rw [dens1] at p
  refine use_e r rE Ext.refl p fun t1 S1 H1 φ1 v1 e1 r1 m1 f1 p1 => ?_
  replace p1 : Post g W H φ τ (KE g H Q) (match tyX S1 t1 with
      | some m => if cx.xi m = true then .ok (.v (.bl (cx.sb m 1000))) S1 else .bad
      | none => .bad) := p1
  split at p1
  · rename_i m hm
    split at p1
    · rename_i hi
      obtain ⟨a, dx, rfl, y1, y2⟩ := tyX_sound r1 m1 hm
      refine ⟨a, g.ca m, dx, .ty "ValueError", .type "ValueError", _, rfl, y1, y2, by rw [x.K]; exact (G.xi_ m hi).1, fun u hu => hu, ?_, fin_v e1 p1 r1 (.bl _) trivial⟩
      rw [x.K]
      exact (G.xi_ m hi).2
    · exact (show False from p1).elim
  · exact (show False from p1).elim

/-! ### from behind -/
def tBk (K : PySem.W.Frag) (te : TE) : TE := fun σ H Q => te σ H fun x H1 => ∃ a xs, x = .ref a ∧ ((SqL K H1 a xs ∧ ∀ p, H1 p = none → Q (.ref p) (upd H1 p (.lst xs.reverse))) ∨ (SqT K H1 a xs ∧ ∀ p, H1 p = none → Q (.ref p) (upd H1 p (.tup xs.reverse))))
open PySem.Spec PyProof.Rows in
theorem pe_bk {e : Expr} {te : TE} {c : Nat} {p1 p2 p3 pos : Pos} (he : PE X e te) : PE X (.Subscript e (.Slice none none (some (.UnaryOp .USub (.Constant (.int 1) c p1) p2)) p3) pos) (tBk X.K te) := by
  refine ⟨fun pins s σ H Q I rd => Subscript_ (thn (he.run pins s σ H _ I rd) ?_)⟩
  rintro v s1 ⟨x, H1, I1, r1, a, xs, rfl, both⟩
  cases r1
  have step : PO X (some (.UnaryOp .USub (.Constant (.int 1) c p1) p2)) (tPart (tUn (rU fun i => .int (-i)) (tC (.int 1)))) := po_some (pe_un un_neg pe_int)
  refine wpAny_Slice (thn (po_none.run pins s1 σ H1 (fun o H2 => o = none ∧ H2 = H1) I1 ⟨rfl, rfl⟩) ?_)
  rintro vl s2 ⟨l, H2, I2, pl, rfl, rfl⟩
  refine thn (po_none.run pins s2 σ H2 (fun o H3 => o = none ∧ H3 = H2) I2 ⟨rfl, rfl⟩) ?_
  rintro vu s3 ⟨u, H3, I3, pu, rfl, rfl⟩
  refine thn (step.run pins s3 σ H3 (fun o H4 => o = some (-1) ∧ H4 = H3) I3 ⟨1, rfl, -1, rfl, rfl, rfl⟩) ?_
  rintro vs s4 ⟨o, H4, I4, ps, rfl, rfl⟩
  have J : Inv X pins σ H4 { s4 with heap := s4.heap.push { cls := .type "slice", data := .fields #[vl, vu, vs] } } := I4.kept (t' := s4.toks) fun b ob q => Heap.get?_push_of_some _ q
  show wpAny (model X.prog X.w) X.A (subscriptTail e (.Slice none none (some (.UnaryOp .USub (.Constant (.int 1) c p1) p2)) p3) (.ref a) (.ref s4.heap.objs.size)) (EP X pins σ Q) X.xe _
  rcases both with ⟨hx, q⟩ | ⟨hx, q⟩
  · obtain ⟨its, rv, ht, hz⟩ := J.list hx
    have hlen := rv.length
    refine tail_any (ops := [.ref a, .ref s4.heap.objs.size]) ht.isList.typeIs (PySem.slot_list_getitem.lookup) (wpAny_getItem_list_slice ht.isList (Heap.IsSliceOf.new _ vl vu vs) pl pu ps (by decide) ?_ (by rw [List.size_toArray]; omega)) (by with_unfolding_all rfl)
    rw [PySem.W.krv_pick]
    refine ⟨.ref _, _, J.laid (t' := s4.toks) (o := .lst xs.reverse) (fun b ob q => Heap.get?_push_of_some _ q) (Nat.le_refl _) ⟨by rw [List.length_reverse]; exact hz, _, 0, rv.reverse, Heap.get?_push_size _ rfl⟩, rfl, q _ (J.hok.fresh (Nat.le_refl _))⟩
  · obtain ⟨its, rv, ht, hz⟩ := J.tuple hx
    have hlen := rv.length
    refine tail_any (ops := [.ref a, .ref s4.heap.objs.size]) ht.typeIs (PyProof.Rows.slot_tuple_getitem.lookup) (tuple_back ht (Heap.IsSliceOf.new _ vl vu vs) pl pu ps (by rw [List.size_toArray]; omega) ?_) (by with_unfolding_all rfl)
    refine ⟨.ref _, _, J.laid (t' := s4.toks) (o := .tup xs.reverse) (fun b ob q => Heap.get?_push_of_some _ q) (Nat.le_refl _) ⟨by rw [List.length_reverse]; exact hz, _, rv.reverse, _, Heap.get?_push_size _ rfl, rfl, 0, rfl⟩, rfl, q _ (J.hok.fresh (Nat.le_refl _))⟩
theorem s_bk {a : Expr} {a' : Ex} {c : Nat} {p1 p2 p3 pos : Pos} (x : XOk g N k sc W X) (ha : PB g W X a (den cx a')) : PB g W X (.Subscript a (.Slice none none (some (.UnaryOp .USub (.Constant (.int 1) c p1) p2)) p3) pos) (den cx (.nd .bk [a'])) := by
  refine pb_of x rfl (PEimp (pe_bk ha.1) ?_)
  rintro τ H Q ⟨σ, S, φ, r, rE, p⟩
  replace p : Post g W H φ τ (KE g H Q) ((dens cx [a'] σ S).bind fun ts S' => app cx S' .bk ts) := p
  rw [dens1] at p
  refine use_e r rE Ext.refl p fun t1 S1 H1 φ1 v1 e1 r1 m1 f1 p1 => ?_
  obtain ⟨t, ht, kk⟩ := fin_op (o := bkE S1 t1) e1 p1
  unfold bkE at ht
  split at ht
  · cases ht
    cases m1 with
    | tup h1 h2 => exact ⟨_, _, rfl, .inr ⟨by rw [x.K]; exact h1, fun q hq => give_tup r1 hq h2.reverse kk⟩⟩
  · obtain ⟨ds, hd, rfl⟩ := opt_map ht
    obtain ⟨q, vs, rfl, h1, h2⟩ := m1.lstR r1 hd
    exact ⟨_, _, rfl, .inl ⟨by rw [x.K]; exact h1, fun q' hq => give_new (o := .lst _) r1 hq ⟨_, rfl, h2.reverse⟩ kk⟩⟩
/-! ### comparisons -/
theorem OpRor {f : Value → Value → Sem Value} {r1 r2 : R2} (h1 : OpR X f r1) (h2 : OpR X f r2) : OpR X f (fun x y H Q => r1 x y H Q ∨ r2 x y H Q) := fun pins s σ H x y v u Q I rx ry q => q.elim (h1 pins s σ H x y v u Q I rx ry) (h2 pins s σ H x y v u Q I rx ry)
def rOwn (g : G) (cx : Cxt) (o : Cm) : R2 := fun vx vy H Q => ∃ S φ n y c fs f, (o = .eq ∨ o = .ne) ∧ Rel g H φ S ∧ S[n]? = some (.ins c fs) ∧ cx.eq c = some f ∧ knownT cx S (.v y) = true ∧ Em g H φ (.ref n) vx ∧ Em g H φ y vy ∧
  Post g (fun _ _ _ _ => False) H φ [] (fun d S' H' φ' => ∃ b, d = .bl b ∧ Q (.bl (negB o b)) H') (cx.cj f [.ref n, y] S)
theorem known_ty (G : GOk g cx) {S : Store} {H : Hp} {φ : List Addr} {t : T} {v : V} {c f : Nat} (hq : cx.eq c = some f) (r : Rel g H φ S) (h : TEm g H φ t v) (e : knownT cx S t = true) : ∃ tb, TyX g.K H v tb ∧ PySem.W.notFirst g.K (g.ca c) tb = true := by
  obtain ⟨_, _, _, _, q1, q2⟩ := G.eq_ c f hq
  unfold knownT at e
  rw [Bool.or_eq_true] at e
  rcases e with e | e
  · obtain ⟨u, hu⟩ := Option.isSome_iff_exists.mp e
    obtain ⟨y1, y2⟩ := tyB_sound r h hu
    exact ⟨_, y1, q1 _ y2⟩
  · split at e
    · rename_i m hm
      exact ⟨_, tyC_sound G r h hm e, q2 m e⟩
    · cases e
theorem own_sound (x : XOk g N k sc W X) (G : GOk g cx) (C : COk g cx k) {op : CmpOp} {o : Cm} (ho : cmpC op = some o) : OpR X (compareOp op) (rOwn g cx o) := by
  rintro pins s σ H vx vy v u Q I rx ry ⟨S, φ, n, y, c, fs, f, hop, r, hn, hq, hk, m1, m2, p⟩
  obtain ⟨_, e1, e2, e3, _, _⟩ := G.eq_ c f hq
  rcases C.eq_ c f hq with hb | ⟨j, fd, ps, rfl, hlen, F, B⟩
  · rw [hb] at p
    exact p.elim
  have hl : ([D.ref n, y] : List D).length = ps.length := by
    by_cases h : ([D.ref n, y] : List D).length = ps.length
    · exact h
    · rw [hlen _ _ h] at p
      exact p.elim
  obtain ⟨tb, y1, y2⟩ := known_ty G hq r (t := .v y) m2 hk
  rw [← x.K] at y1 y2 e1 e2 e3 B
  obtain ⟨P, Z, pp, _⟩ := kit_of I ry y1
  have hb := Z.ty (model X.prog X.w) s.heap I.kIn pp
  obtain ⟨a, ho', h1, h2, dx, ws, rfl, _⟩ := r.at_ n _ hn rfl
  cases m1 with
  | ref hn' =>
    rw [h1] at hn'
    cases hn'
    cases rx
    obtain ⟨mA, J, _⟩ := ins_get I.hok h2
    obtain ⟨od, J, _⟩ := J.look
    obtain ⟨mm, hF⟩ := I.fr
    have F' := F
    rw [← x.prog, ← x.hw, ← x.K, ← x.mg, ← x.base] at F'
    have r2 : Vals [V.ref a, vy] [Value.ref a, u] := .cons rfl (.cons ry .nil)
    have word : spOf g ps.length (cx.cj f) [.ref a, vy] H (fun d H' => ∃ b, d = .bl b ∧ Q (.bl (negB o b)) H') (fun _ _ _ => False) :=
      ⟨hl, [.ref n, y], S, φ, r, .cons (.ref h1) (.cons m2 .nil), Post.mono p fun d S' H' φ' _ _ ⟨b, hd, q⟩ w mw => by subst hd; cases mw; exact ⟨b, rfl, q⟩⟩
    have run : ∀ A : Around, Room j A → A.frames = X.A.frames → wpAny (model X.prog X.w) A (call (.ref (g.fa f)) [.ref a, u]) (fun w s' => ∃ b, w = .bool b ∧ ∃ H', Inv X pins σ H' s' ∧ Q (.bl (negB o b)) H') X.xe s := by
      intro A hA hfr
      have e0 : Env0 X.prog X.w X.K X.mg X.base A X.stack s H := by
        have e := I.env0
        exact ⟨by rw [hfr]; exact e.frames, e.mod, e.bs, e.bsz, e.funs, e.frf, e.hok, e.bare⟩
      have bound := B s [.ref a, u] I.kIn (by rw [List.append_nil]; exact hl)
      rw [List.append_nil] at bound
      refine wpAny_call (codeAny_mono (F'.run A X.stack s H ⟨[.ref a, u], []⟩ _ _ _ (fun _ _ _ => False) hA e0 bound r2 word) fun r s' back => ?_)
      rcases r with er | fl
      · exact passL pins σ H s er s' I back
      cases fl with
      | ret w =>
        obtain ⟨z, H', I', rz, b, ez, q⟩ := I.after back
        subst ez
        cases (show w = Value.bool b from rz)
        exact ⟨b, rfl, H', I', q⟩
      | next => exact False.elim back
      | brk => exact False.elim back
      | cont => exact False.elim back
    have hj : Room j X.A := x.room.mono (Nat.le_succ j)
    rcases hop with rfl | rfl
    · have : op = .Eq := by cases op <;> simp_all [cmpC]
      subst this
      show wpAny (model X.prog X.w) X.A (richCompare .Eq (.ref a) u) (EP X pins σ Q) X.xe s
      refine PySem.W.cmp_K (op := .Eq) (tb := tb) (by have := x.units; omega) hF I.ok.mod.kin J hb y2 e1 e2 (thn (run X.A hj rfl) fun w s' hw => ?_)
      obtain ⟨b, rfl, H', I', q⟩ := hw
      exact ⟨.bl b, H', I', rfl, q⟩
    · have : op = .NotEq := by cases op <;> simp_all [cmpC]
      subst this
      show wpAny (model X.prog X.w) X.A (richCompare .NotEq (.ref a) u) (EP X pins σ Q) X.xe s
      refine own_ne (by have := x.units; omega) I.kIn J hb y2 e3 e1 e2 (thn (run X.A.in1 x.room.in1 rfl) fun w s' hw => ?_)
      obtain ⟨b, rfl, H', I', q⟩ := hw
      exact ⟨b, rfl, .bl (!b), H', I', rfl, q⟩
theorem ownQ_some {S : Store} {o : Cm} {a b : T} {q : Nat × D × D} (h : ownQ cx S o a b = some q) : (o = .eq ∨ o = .ne) ∧ ∃ n y c fs f, a = .v (.ref n) ∧ b = .v y ∧ S[n]? = some (.ins c fs) ∧ knownT cx S (.v y) = true ∧ cx.eq c = some f ∧ q = (f, .ref n, y) := by
  unfold ownQ at h
  split at h
  · rename_i ho
    refine ⟨ho, ?_⟩
    split at h
    · rename_i n y
      split at h
      · rename_i c fs hs
        split at h
        · rename_i hk
          obtain ⟨f, hf, rfl⟩ := opt_map h
          exact ⟨n, y, c, fs, f, rfl, rfl, hs, hk, hf, rfl⟩
        · cases h
      · cases h
    · cases h
  · cases h
/-- a comparison within what is still to come -/
theorem rCmpO {H H2 : Hp} {φ φ2 : List Addr} {τ : St} {S2 : Store} {t1 t2 : T} {v1 v2 : V} {o : Cm} {α : Type} {K : α → Store → Hp → List Addr → Prop} {f : T → Store → R α} {Q : VK} (ex : Ext g H φ H2 φ2) (r2 : Rel g H2 φ2 S2) (m1 : TEm g H2 φ2 t1 v1) (m2 : TEm g H2 φ2 t2 v2)
    (p : Post g W H φ τ K ((app cx S2 (.cmp o) [t1, t2]).bind f)) (k : ∀ b S3 H3 φ3, Ext g H φ H3 φ3 → Rel g H3 φ3 S3 → Post g W H φ τ K (f (.v (.bl b)) S3) → Q (.bl b) H3) :
    (rOp g fun S a b => (cmpE S o a b).map fun c => .v (.bl c)) v1 v2 H2 Q ∨ rOwn g cx o v1 v2 H2 Q := by
  cases hq : ownQ cx S2 o t1 t2 with
  | none =>
    have e : app cx S2 (.cmp o) [t1, t2] = ofO S2 ((cmpE S2 o t1 t2).map fun c => .v (.bl c)) := by
      show (match ownQ cx S2 o t1 t2 with | some q => _ | none => _) = _
      rw [hq]
    rw [e] at p
    cases hc : cmpE S2 o t1 t2 with
    | none =>
      rw [hc] at p
      exact (show False from p).elim
    | some c =>
      rw [hc] at p
      refine .inl ⟨S2, φ2, t1, t2, .v (.bl c), r2, m1, m2, by (show (cmpE S2 o t1 t2).map _ = _; rw [hc]; rfl), fun H' v e' r' m f' => ?_⟩
      cases m
      exact k c S2 H' φ2 (ex.trans e') r' p
  | some q =>
    have e : app cx S2 (.cmp o) [t1, t2] = (cx.cj q.1 [q.2.1, q.2.2] S2).nox.bind (ownK o) := by
      show (match ownQ cx S2 o t1 t2 with | some q => _ | none => _) = _
      rw [hq]
    rw [e] at p
    obtain ⟨ho, n, y, c, fs, f', rfl, rfl, hs, hk, hf, rfl⟩ := ownQ_some hq
    refine .inr ⟨S2, φ2, n, y, c, fs, f', ho, r2, hs, hf, hk, m1, m2, ?_⟩
    dsimp only at p ⊢
    generalize cx.cj f' [.ref n, y] S2 = rr at p ⊢
    cases rr with
    | bad => exact p
    | ex cc dd S3 => exact (show False from p).elim
    | ok d S3 =>
      intro H3 φ3 e3 r3
      replace p : Post g W H φ τ K ((ownK o d S3).bind f) := p
      cases d with
      | bl b => exact ⟨b, rfl, k (negB o b) S3 H3 φ3 (ex.trans e3) r3 p⟩
      | _ => exact (show False from p).elim
theorem s_cmp {a b : Expr} {a' b' : Ex} {op : CmpOp} {o : Cm} {pos : Pos} (x : XOk g N k sc W X) (G : GOk g cx) (C : COk g cx k) (ho : cmpC op = some o) (hs : isSet b = false) (ha : PB g W X a (den cx a')) (hb : PB g W X b (den cx b')) : PB g W X (.Compare a [op] [b] pos) (den cx (.nd (.cmp o) [a', b'])) := by
  have both := OpRor (cmp_sound x.K x.units ho) (own_sound x G C ho)
  refine ⟨PEimp (pe_cmpR both ha.1 hb.1 (noMark hs)) ?_, PTimp (pt_cmpR both ha.1 hb.1 (noMark hs)) ?_⟩
  · rintro τ H Q ⟨σ, S, φ, r, rE, p⟩
    have p : Post g W H φ τ (KE g H Q) ((dens cx [a', b'] σ S).bind fun ts S' => app cx S' (.cmp o) ts) := p
    rw [dens2] at p
    refine use_e r rE Ext.refl p fun t1 S1 H1 φ1 v1 e1 r1 m1 f1 p1 => ?_
    refine use_e r1 (rE.ext e1) e1 p1 fun t2 S2 H2 φ2 v2 e2 r2 m2 f2 p2 => ?_
    have p2' : Post g W H φ τ (KE g H Q) ((app cx S2 (.cmp o) [t1, t2]).bind fun t S => .ok t S) := by
      have e : (app cx S2 (.cmp o) [t1, t2]).bind (fun t S => .ok t S) = app cx S2 (.cmp o) [t1, t2] := by cases app cx S2 (.cmp o) [t1, t2] <;> rfl
      rw [e]
      exact p2
    exact rCmpO (e1.trans e2) r2 (m1.ext e2) m2 p2' fun b S3 H3 φ3 e3 r3 p3 => fin_v e3 p3 r3 (.bl b) trivial
  · rintro τ H Q ⟨σ, S, φ, r, rE, p⟩
    replace p : Post g W H φ τ (fun b _ H' _ => Q b H') (((dens cx [a', b'] σ S).bind fun ts S' => app cx S' (.cmp o) ts).bind fun t S' => ofO S' (truth S' t)) := p
    rw [R.bind_assoc, dens2] at p
    refine use_e r rE Ext.refl p fun t1 S1 H1 φ1 v1 e1 r1 m1 f1 p1 => ?_
    refine use_e r1 (rE.ext e1) e1 p1 fun t2 S2 H2 φ2 v2 e2 r2 m2 f2 p2 => ?_
    exact rCmpO (Q := fun v H' => ∃ b, v = .bl b ∧ Q b H') (e1.trans e2) r2 (m1.ext e2) m2 p2 fun b S3 H3 φ3 e3 r3 p3 => ⟨b, rfl, p3 H3 φ3 e3 r3⟩

/-! ### built-ins by name -/
theorem s_max {a b : Expr} {a' b' : Ex} {p pos : Pos} (x : XOk g N k sc W X) (G : GOk g cx) (hg : glC sc "max" = true) (hs : isStar a = false) (hs2 : isStar b = false) (ha : PB g W X a (den cx a')) (hb : PB g W X b (den cx b')) :
    PB g W X (.Call (.Name "max" p) [a, b] [] pos) (den cx (.nd .max2 [a', b'])) := by
  refine pb_of x rfl (PEimp (pe_callB (call_max2 x.calm) (x.gl hg) (by rw [x.mg]; exact G.blt_ _ (by decide +kernel)) (by decide +kernel) (pa_cons ha.1 (pa_cons hb.1 pa_nil (starE hs2)) (starE hs)) (by decide +kernel) (by decide +kernel) (starE hs) (starP (by simp [hs2]))) ?_)
  rintro τ H Q ⟨σ, S, φ, r, rE, p⟩
  replace p : Post g W H φ τ (KE g H Q) ((dens cx [a', b'] σ S).bind fun ts S' => app cx S' .max2 ts) := p
  rw [dens2] at p
  refine use_e r rE Ext.refl p fun t1 S1 H1 φ1 v1 e1 r1 m1 f1 p1 => ?_
  refine use_e r1 (rE.ext e1) e1 p1 fun t2 S2 H2 φ2 v2 e2 r2 m2 f2 p2 => ?_
  have main : ∀ i j : Int, t1 = .v (.int i) → t2 = .v (.int j) → ∃ i j, [v1, v2] = [V.int i, V.int j] ∧ Q (.int (if j > i then j else i)) H2 := by
    rintro i j rfl rfl
    cases m1
    cases m2
    exact ⟨i, j, rfl, fin_v (e1.trans e2) p2 r2 (.int _) trivial⟩
  cases t1 with
  | t _ => exact (show False from p2).elim
  | v d =>
    cases d with
    | int i =>
      cases t2 with
      | t _ => exact (show False from p2).elim
      | v d2 =>
        cases d2 with
        | int j => exact main i j rfl rfl
        | _ => exact (show False from p2).elim
    | _ => exact (show False from p2).elim
theorem s_min {a b : Expr} {a' b' : Ex} {p pos : Pos} (x : XOk g N k sc W X) (G : GOk g cx) (hg : glC sc "min" = true) (hs : isStar a = false) (hs2 : isStar b = false) (ha : PB g W X a (den cx a')) (hb : PB g W X b (den cx b')) :
    PB g W X (.Call (.Name "min" p) [a, b] [] pos) (den cx (.nd .min2 [a', b'])) := by
  refine pb_of x rfl (PEimp (pe_callB (call_min2 x.calm) (x.gl hg) (by rw [x.mg]; exact G.blt_ _ (by decide +kernel)) (by decide +kernel) (pa_cons ha.1 (pa_cons hb.1 pa_nil (starE hs2)) (starE hs)) (by decide +kernel) (by decide +kernel) (starE hs) (starP (by simp [hs2]))) ?_)
  rintro τ H Q ⟨σ, S, φ, r, rE, p⟩
  replace p : Post g W H φ τ (KE g H Q) ((dens cx [a', b'] σ S).bind fun ts S' => app cx S' .min2 ts) := p
  rw [dens2] at p
  refine use_e r rE Ext.refl p fun t1 S1 H1 φ1 v1 e1 r1 m1 f1 p1 => ?_
  refine use_e r1 (rE.ext e1) e1 p1 fun t2 S2 H2 φ2 v2 e2 r2 m2 f2 p2 => ?_
  have main : ∀ i j : Int, t1 = .v (.int i) → t2 = .v (.int j) → ∃ i j, [v1, v2] = [V.int i, V.int j] ∧ Q (.int (if j < i then j else i)) H2 := by
    rintro i j rfl rfl
    cases m1
    cases m2
    exact ⟨i, j, rfl, fin_v (e1.trans e2) p2 r2 (.int _) trivial⟩
  cases t1 with
  | t _ => exact (show False from p2).elim
  | v d =>
    cases d with
    | int i =>
      cases t2 with
      | t _ => exact (show False from p2).elim
      | v d2 =>
        cases d2 with
        | int j => exact main i j rfl rfl
        | _ => exact (show False from p2).elim
    | _ => exact (show False from p2).elim
theorem bi1_facts {n : Str} {b : Bi} (h : bi1.lookup n = some b) : bootBuiltins n = some (biV b) ∧ n ∈ bltns := by
  have hm := PySem.mem_of_lookup h
  simp only [bi1, List.mem_cons, List.not_mem_nil, or_false, Prod.mk.injEq] at hm
  rcases hm with ⟨rfl, rfl⟩ | ⟨rfl, rfl⟩ | ⟨rfl, rfl⟩ | ⟨rfl, rfl⟩ | ⟨rfl, rfl⟩ | ⟨rfl, rfl⟩ | ⟨rfl, rfl⟩ | ⟨rfl, rfl⟩ | ⟨rfl, rfl⟩ | ⟨rfl, rfl⟩ | ⟨rfl, rfl⟩ <;> exact ⟨by decide +kernel, by decide +kernel⟩
theorem s_bi {a : Expr} {a' : Ex} {n : Str} {b : Bi} {p pos : Pos} (x : XOk g N k sc W X) (G : GOk g cx) (hg : glC sc n = true) (ho : okN n = true) (hb : bi1.lookup n = some b) (hs : isStar a = false) (ha : PB g W X a (den cx a')) :
    PB g W X (.Call (.Name n p) [a] [] pos) (den cx (.nd (.bi b) [a'])) := by
  obtain ⟨b1, b2⟩ := bi1_facts hb
  have hc := bi_sound b x.K x.units x.calm
  have hm : X.mg n = none := by rw [x.mg]; exact G.blt_ _ b2
  have main : PE X (.Call (.Name n p) [a] [] pos) (tCB (rBi g b) (tCons (tE g W (den cx a').e) tNil)) := by
    cases hv : biV b with
    | builtin id =>
      rw [hv] at hc b1
      exact pe_callB hc (x.gl hg) hm b1 (pa_cons ha.1 pa_nil (starE hs)) (okN_iff ho).2.2 (okN_iff ho).1 (starE hs)
    | type T =>
      rw [hv] at hc b1
      exact pe_callTy hc (x.gl hg) hm b1 (pa_cons ha.1 pa_nil (starE hs)) (okN_iff ho).2.2 (okN_iff ho).1 (starE hs)
    | _ => cases b <;> cases hv
  refine pb_of x rfl (PEimp main ?_)
  rintro τ H Q ⟨σ, S, φ, r, rE, p⟩
  replace p : Post g W H φ τ (KE g H Q) ((dens cx [a'] σ S).bind fun ts S' => app cx S' (.bi b) ts) := p
  rw [dens1] at p
  refine use_e r rE Ext.refl p fun t1 S1 H1 φ1 v1 e1 r1 m1 f1 p1 => ?_
  obtain ⟨t, ht, k⟩ := fin_op e1 p1
  exact ⟨S1, φ1, v1, t1, t, rfl, r1, m1, ht, k⟩

/-! ### calls -/
theorem Post.conv {H : Hp} {φ : List Addr} {τ : St} {α : Type} {K : α → Store → Hp → List Addr → Prop} {r : R α} (h : Post g W H φ τ K r) : Post g (fun cls dx _ H' => W cls dx τ H') H φ [] K r := by
  cases r with
  | ok a S => exact h
  | ex c dd S => exact h
  | bad => exact h
theorem s_call {es : List Expr} {es' : List Ex} {n : Str} {i : Nat} {p pos : Pos} (x : XOk g N k sc W X) (G : GOk g cx) (C : COk g cx k) (hg : glC sc n = true) (ho : okN n = true) (hn : g.T.funs.lookup n = some i) (hne : es.isEmpty = false) (hs : es.any isStar = false) (ha : PA X es (tD g W (ded cx es'))) :
    PB g W X (.Call (.Name n p) es [] pos) (den cx (.na (.call i) es')) := by
  refine pb_of x rfl ?_
  obtain ⟨fd, ps, hb, F, B⟩ := C.call_ n i hn
  cases es with
  | nil => cases hne
  | cons e es =>
    rw [List.any_cons, Bool.or_eq_false_iff] at hs
    have F' := F
    rw [← x.prog, ← x.hw, ← x.K, ← x.mg, ← x.base] at F'
    rw [← x.K] at B
    refine PEimp (pe_callS F' x.room (x.gl hg) (by rw [x.mg]; exact (G.fun_ n i hn).1) (by rw [x.K]; exact (G.fun_ n i hn).2) B (fun σ => passAt x.tk σ) ha (okN_iff ho).1 (starE hs.1) (starP hs.2)) ?_
    rintro τ H Q ⟨σ, S, φ, r, rE, p⟩
    refine use_d r rE Ext.refl p fun ds S1 H1 φ1 vs e1 r1 m1 p1 => ?_
    replace p1 : Post g W H φ τ (KE g H Q) ((cx.call i ds S1).bind fun d S' => .ok (.v d) S') := p1
    refine ⟨?_, ds, S1, φ1, r1, m1, Post.conv (Post.mono (Post.shift e1 (Post.bnd p1)) fun d S2 H2 φ2 e2 r2 q v m => fin_v (e1.trans e2) q r2 m trivial)⟩
    by_cases hl : ds.length = ps.length
    · rw [← m1.length]; exact hl
    · rw [hb ds S1 hl] at p1
      exact (show False from p1).elim
/-- the instance is made -/
theorem run_makeS {X : Cx} {CX : CXT} {k : Nat} {f C : Addr} {fd : FuncData} {ps : List Str} {sp : Sp} {E : XK} {pins : List (Addr × Obj)} {σ : St} {H : Hp} {s : Shared} {Q : VK} {us : List Value} {vs : List V} (M : Mk X.K C f) (F : FnOk X.prog X.w X.K X.mg X.base CX k f fd ps sp) (hr : Room (k + 1) X.A) (hb : Binds X.K fd ps [])
    (hx : PassesAt CX X σ E) (I : Inv X pins σ H s) (r : Vals vs us)
    (h : ∀ x dx, H x = none → H dx = none → dx ≠ x → sp (.ref x :: vs) (upd (upd H dx (.own x)) x (.ins C dx [])) (fun v H2 => v = .non ∧ Q (.ref x) H2) E) :
    wpAny (model X.prog X.w) X.A (call (.ref C) us) (EP X pins σ Q) X.xe s := by
  have hq := h (s.heap.objs.size + 1) s.heap.objs.size (I.hok.fresh (Nat.le_succ _)) (I.hok.fresh (Nat.le_refl _)) (Nat.ne_of_lt (Nat.lt_succ_self _))
  have I2 := Inv.made (C := C) I
  have r2 : Vals (V.ref (s.heap.objs.size + 1) :: vs) (Value.ref (s.heap.objs.size + 1) :: us) := .cons rfl r
  have hl : (Value.ref (s.heap.objs.size + 1) :: us).length = ps.length := by
    have e := r2.length
    rw [F.len _ _ _ _ hq] at e
    exact e.symm
  have b := hb _ (Value.ref (s.heap.objs.size + 1) :: us) I2.kIn (by rw [List.append_nil]; exact hl)
  rw [List.append_nil] at b
  refine wpAny_call (make_map (f := f) I.kIn M.makes M.init (beq_iff_eq.mp M.fn) (codeAny_mono (F.run _ X.stack _ _ ⟨Value.ref (s.heap.objs.size + 1) :: us, []⟩ (Value.ref (s.heap.objs.size + 1) :: us) _ _ E (hr.make C us [])
    (I2.env0.make C us []) b r2 hq) fun r s' hq' => ?_))
  cases r with
  | error e => exact hx pins _ _ e s' I2 hq'
  | ok fl =>
    cases fl with
    | ret u =>
      obtain ⟨v, H', I3, rv, ev, q3⟩ := I2.after hq'
      subst ev
      exact ⟨rv, ⟨V.ref (s.heap.objs.size + 1), H', I3, rfl, q3⟩⟩
    | next => exact False.elim hq'
    | brk => exact False.elim hq'
    | cont => exact False.elim hq'
def tMakeS (C : Addr) (sp : Sp) (E : St → XK) (t : TA) : TE := fun σ H Q => t σ H fun vs H1 => ∀ x dx, H1 x = none → H1 dx = none → dx ≠ x → sp (.ref x :: vs) (upd (upd H1 dx (.own x)) x (.ins C dx [])) (fun v H2 => v = .non ∧ Q (.ref x) H2) (E σ)
theorem pe_makeS {X : Cx} {CX : CXT} {k : Nat} {f C : Addr} {fd : FuncData} {ps : List Str} {sp : Sp} {E : St → XK} {x : Str} {p pos : Pos} {e : Expr} {es : List Expr} {t : TA} (M : Mk X.K C f) (F : FnOk X.prog X.w X.K X.mg X.base CX k f fd ps sp) (hr : Room (k + 1) X.A) (hg : Gl X x) (hm : X.mg x = some (.ref C)) (hb : Binds X.K fd ps []) (hx : ∀ σ, PassesAt CX X σ (E σ))
    (ha : PA X (e :: es) t) (hdb : (x == ("__debug__" : Str)) = false) (he : starEach (e :: es) X.env = (false, eval e X.env) :: starEach es X.env) (hpl : (backTo pos (starEach es X.env)).any (·.1) = false) :
    PE X (.Call (.Name x p) (e :: es) [] pos) (tMakeS C sp E t) := by
  refine ⟨fun pins s σ H Q I h => ?_⟩
  refine wpAny_Call_Name_kw (ld_glob I hg hm ?_ hdb)
  refine PySem.W.callWith_K (h₀ := X.base) I.ok.mod.kin M.kp (thn (ha.run pos pins s σ H _ I h) fun us s1 ⟨vs, H1, I1, r, q⟩ => ⟨I1.kIn, ?_⟩) he hpl
  exact run_makeS M F hr hb (hx σ) I1 r q
theorem pe_makeF {X : Cx} {C : Addr} {x : Str} {p pos : Pos} {e : Expr} {es : List Expr} {t : TA} (kp : PySem.W.keepIn X.K (.ref C) = true) (hg : Gl X x) (hm : X.mg x = some (.ref C))
    (ha : PA X (e :: es) t) (hdb : (x == ("__debug__" : Str)) = false) (he : starEach (e :: es) X.env = (false, eval e X.env) :: starEach es X.env) (hpl : (backTo pos (starEach es X.env)).any (·.1) = false) :
    PE X (.Call (.Name x p) (e :: es) [] pos) (fun σ H Q => t σ H fun _ _ => False) := by
  refine ⟨fun pins s σ H Q I h => ?_⟩
  refine wpAny_Call_Name_kw (ld_glob I hg hm ?_ hdb)
  refine PySem.W.callWith_K (h₀ := X.base) I.ok.mod.kin kp (thn (ha.run pos pins s σ H _ I h) fun us s1 ⟨vs, H1, I1, r, q⟩ => q.elim) he hpl
theorem s_mk {es : List Expr} {es' : List Ex} {n : Str} {c : Nat} {p pos : Pos} (x : XOk g N k sc W X) (G : GOk g cx) (C : COk g cx k) (hg : glC sc n = true) (ho : okN n = true) (hn : g.T.clss.lookup n = some c) (hne : es.isEmpty = false) (hs : es.any isStar = false) (ha : PA X es (tD g W (ded cx es'))) :
    PB g W X (.Call (.Name n p) es [] pos) (den cx (.na (.mk c) es')) := by
  refine pb_of x rfl ?_
  cases es with
  | nil => cases hne
  | cons e es =>
    rw [List.any_cons, Bool.or_eq_false_iff] at hs
    obtain ⟨kp, C'⟩ := C.mak_ n c hn
    rcases C' with hb | ⟨j, f, fd, ps, ini, rfl, hb, M, F, B, hm⟩
    · rw [← x.K] at kp
      refine PEimp (pe_makeF kp (x.gl hg) (by rw [x.mg]; exact G.cls_ n c hn) ha (okN_iff ho).1 (starE hs.1) (starP hs.2)) ?_
      rintro τ H Q ⟨σ, S, φ, r, rE, p⟩
      refine use_d r rE Ext.refl p fun ds S1 H1 φ1 vs e1 r1 m1 p1 => ?_
      replace p1 : Post g W H φ τ (KE g H Q) ((cx.mak c ds S1).bind fun d S' => .ok (.v d) S') := p1
      rw [hb] at p1
      exact p1
    · have F' := F
      rw [← x.prog, ← x.hw, ← x.K, ← x.mg, ← x.base] at F'
      rw [← x.K] at B M
      refine PEimp (pe_makeS M F' x.room (x.gl hg) (by rw [x.mg]; exact G.cls_ n c hn) B (fun σ => passAt x.tk σ) ha (okN_iff ho).1 (starE hs.1) (starP hs.2)) ?_
      rintro τ H Q ⟨σ, S, φ, r, rE, p⟩
      refine use_d r rE Ext.refl p fun ds S1 H1 φ1 vs e1 r1 m1 p1 => ?_
      replace p1 : Post g W H φ τ (KE g H Q) ((cx.mak c ds S1).bind fun d S' => .ok (.v d) S') := p1
      rw [hm, R.bind_assoc] at p1
      intro a dx ha hdx hne'
      have hna : upd H1 dx (.own a) a = none := by rw [upd_ne (Ne.symm hne')]; exact ha
      have e2 : Ext g H1 φ1 (upd H1 dx (.own a)) φ1 := Ext.new hdx
      have e3 : Ext g (upd H1 dx (.own a)) φ1 (upd (upd H1 dx (.own a)) a (.ins (g.ca c) dx [])) φ1 := Ext.new hna
      have r3 : Rel g (upd (upd H1 dx (.own a)) a (.ins (g.ca c) dx [])) φ1 S1 := (r1.new hdx).new hna
      have r4 : Rel g (upd (upd H1 dx (.own a)) a (.ins (g.ca c) dx [])) (φ1 ++ [a]) (S1 ++ [.ins c []]) := Rel.take_in r3 upd_same (r1.notin ha) ⟨dx, [], rfl, rfl, .nil, fun _ h => nomatch h⟩
      have e4 : Ext g H1 φ1 (upd (upd H1 dx (.own a)) a (.ins (g.ca c) dx [])) (φ1 ++ [a]) := Ext.take_in (e2.trans e3) ha
      have hra : (φ1 ++ [a])[S1.length]? = some a := by
        rw [← r1.len, List.getElem?_append_right (Nat.le_refl _)]
        simp
      have m4 : Ems g (upd (upd H1 dx (.own a)) a (.ins (g.ca c) dx [])) (φ1 ++ [a]) (.ref S1.length :: ds) (.ref a :: vs) := .cons (.ref hra) (m1.ext e4.toLe)
      refine ⟨?_, _, _, _, r4, m4, Post.conv (Post.mono (Post.shift (e1.trans e4) (Post.bnd p1)) fun d S2 H2 φ2 e5 r5 q v m => ?_)⟩
      · by_cases hl : (D.ref S1.length :: ds).length = ps.length
        · rw [← m4.length]; exact hl
        · rw [hb _ _ hl] at p1
          exact (show False from p1).elim
      · split at q
        · rename_i hd
          subst hd
          cases m
          exact ⟨rfl, fin_v ((e1.trans e4).trans e5) q r5 (Em.ref (e5.pre _ _ hra)) trivial⟩
        · exact (show False from q).elim
end
end Ev
set_option Elab.async false
set_option linter.all false
set_option maxRecDepth 100000
set_option autoImplicit false
set_option maxHeartbeats 1000000
/-! Ev, part J: methods of built-in types; targets; what is gone through; comprehensions. -/
namespace Ev
open PySem L2
section
variable {g : G} {N : List Str} {k : Nat} {sc : Scope} {W : WX} {X : Cx} {cx : Cxt}

/-- an exception as a value -/
theorem s_mkx0 {n : Str} {c : Nat} {p pos : Pos} (x : XOk g N k sc W X) (G : GOk g cx) (hg : glC sc n = true) (ho : okN n = true) (hn : g.T.exs.lookup n = some (c, none)) : PB g W X (.Call (.Name n p) [] [] pos) (den cx (.na (.mkx c none) [])) := by
  obtain ⟨h1, h2, h3⟩ := G.x0_ n c hn
  refine pb_of x rfl (PEimp (pe_ex0 PySem.F.excBase_ValueError (by rw [x.K]; exact h3) (by rw [x.mg]; exact h1) (by rw [x.K]; exact h2) (x.gl hg) (okN_iff ho).1) ?_)
  rintro τ H Q ⟨σ, S, φ, r, rE, p⟩
  replace p : Post g W H φ τ (KE g H Q) (if cx.lv = true then .ok (.v (.ref S.length)) (S ++ [.exn c []]) else .bad) := p
  split at p
  · intro a ha
    have r2 : Rel g (upd H a (exo a (g.ca c) none)) (φ ++ [a]) (S ++ [.exn c []]) := Rel.take_x (r.new ha) (r.notin ha) (.inl ⟨rfl, upd_same⟩)
    refine p _ _ (Ext.take_in (Ext.new ha) ha) r2 _ (Em.ref ?_) trivial
    rw [← r.len, List.getElem?_append_right (Nat.le_refl _)]
    simp
  · exact (show False from p).elim
theorem s_mkx1 {e : Expr} {e' : Ex} {n : Str} {c f : Nat} {p pos : Pos} (x : XOk g N k sc W X) (G : GOk g cx) (hlv : cx.lv = true → 2 ≤ k) (hg : glC sc n = true) (ho : okN n = true) (hn : g.T.exs.lookup n = some (c, some f)) (hs : isStar e = false) (ha : PA X [e] (tD g W (ded cx [e']))) : PB g W X (.Call (.Name n p) [e] [] pos) (den cx (.na (.mkx c (some f)) [e'])) := by
  obtain ⟨h1, h2, fI, fd, ps, h3, h4, h5, h6⟩ := G.x1_ n c f hn
  rw [← x.prog, ← x.hw, ← x.K, ← x.mg, ← x.base] at h6
  rw [← x.K] at h2 h3 h4 h5
  by_cases hlv' : cx.lv = true
  · refine pb_of x rfl (PEimp (pe_exv h2 h3 h4 h6 (x.room.mono (hlv hlv')) h5 passL (x.gl hg) (by rw [x.mg]; exact h1) ha (okN_iff ho).1 (starE hs)) ?_)
    rintro τ H Q ⟨σ, S, φ, r, rE, p⟩
    refine use_d r rE Ext.refl p fun ds S1 H1 φ1 vs e1 r1 m1 p1 => ?_
    cases m1 with
    | nil => exact (show False from p1).elim
    | @cons d ds v1 vs md m1 =>
      cases m1 with
      | cons _ _ => exact (show False from p1).elim
      | nil =>
        replace p1 : Post g W H φ τ (KE g H Q) (if cx.lv = true then .ok (.v (.ref S1.length)) (S1 ++ [.exn c [(f, d)]]) else .bad) := p1
        rw [if_pos hlv'] at p1
        refine ⟨v1, rfl, fun a dx ha hdx hne => ?_⟩
        have hna : upd H1 dx (exd dx [(g.fn f, v1)]) a = none := by rw [upd_ne (Ne.symm hne)]; exact ha
        have x2 : Ext g H1 φ1 (upd H1 dx (exd dx [(g.fn f, v1)])) φ1 := Ext.new hdx
        have x3 : Ext g (upd H1 dx (exd dx [(g.fn f, v1)])) φ1 (upd (upd H1 dx (exd dx [(g.fn f, v1)])) a (exo a (g.ca c) (some dx))) φ1 := Ext.new hna
        have r3 := (r1.new (u := exd dx [(g.fn f, v1)]) hdx).new (u := exo a (g.ca c) (some dx)) hna
        have r4 : Rel g (upd (upd H1 dx (exd dx [(g.fn f, v1)])) a (exo a (g.ca c) (some dx))) (φ1 ++ [a]) (S1 ++ [.exn c [(f, d)]]) :=
          Rel.take_x r3 (r1.notin ha) (.inr ⟨dx, f, d, v1, rfl, upd_same, by rw [upd_ne hne]; exact upd_same, md.ext (x2.trans x3).toLe⟩)
        refine p1 _ _ (e1.trans (Ext.take_in (x2.trans x3) ha)) r4 _ (Em.ref ?_) trivial
        rw [← r1.len, List.getElem?_append_right (Nat.le_refl _)]
        simp
  · refine pb_of x rfl (PEimp (pe_makeF h2.kC (x.gl hg) (by rw [x.mg]; exact h1) ha (okN_iff ho).1 (starE hs) rfl) ?_)
    rintro τ H Q ⟨σ, S, φ, r, rE, p⟩
    refine use_d r rE Ext.refl p fun ds S1 H1 φ1 vs e1 r1 m1 p1 => ?_
    cases ds with
    | nil => exact p1
    | cons d ds =>
      cases ds with
      | cons _ _ => exact p1
      | nil =>
        replace p1 : Post g W H φ τ (KE g H Q) (if cx.lv = true then .ok (.v (.ref S1.length)) (S1 ++ [.exn c [(f, d)]]) else .bad) := p1
        rw [if_neg hlv'] at p1
        exact p1
/-! ### methods -/
theorem ded_nil {σ : Ev.Env} {S : Store} {β : Type} (f : List D → Store → R β) : (ded cx [] σ S).bind f = f [] S := rfl
theorem ded_one {a : Ex} {σ : Ev.Env} {S : Store} {β : Type} (f : List D → Store → R β) : (ded cx [a] σ S).bind f = ((den cx a).e σ S).bind fun t S1 => f [(alloc t S1).1] (alloc t S1).2 := by
  simp only [ded, R.bind_assoc, alloc_bind]
  rfl
theorem meth_rec {o : Expr} {o' : Ex} {m : Me} {es' : List Ex} {H : Hp} {φ : List Addr} {σ : Ev.Env} {τ : St} {S : Store} {Q : VK} {Q' : V → Hp → Prop} (r : Rel g H φ S) (rE : RelE g H φ σ τ)
    (p : Post g W H φ τ (KE g H Q) ((den cx (.meth m o' es')).e σ S))
    (k : ∀ t S1 H1 φ1 v, Ext g H φ H1 φ1 → Rel g H1 φ1 S1 → TEm g H1 φ1 t v → meOk S1 m t = true → Post g W H φ τ (KE g H Q) ((ded cx es' σ S1).bind fun ds S2 => meE S2 m t ds) → Q' v H1) : tE g W (den cx o').e τ H Q' := by
  refine use_e r rE Ext.refl (f := fun t S1 => if meOk S1 m t = true then (ded cx es' σ S1).bind fun ds S2 => meE S2 m t ds else .bad) p fun t1 S1 H1 φ1 v1 e1 r1 m1 f1 p1 => ?_
  by_cases h : meOk S1 m t1 = true
  · rw [if_pos h] at p1
    exact k t1 S1 H1 φ1 v1 e1 r1 m1 h p1
  · rw [if_neg h] at p1
    exact (show False from p1).elim
theorem lst_ty {S : Store} {H : Hp} {φ : List Addr} {t : T} {v : V} (r : Rel g H φ S) (m : TEm g H φ t v) (h : (lstW S t).isSome = true) : tyV g.K "list" v H := by
  obtain ⟨ds, hd⟩ := Option.isSome_iff_exists.mp h
  obtain ⟨p, vs, rfl, h1, h2⟩ := m.lstW r hd
  exact .inl ⟨rfl, vs, SqL.of h1⟩
/-- a list of the store is changed -/
theorem put_lst {S : Store} {H : Hp} {φ : List Addr} {n : Nat} {p : Addr} {ds ds' : List D} {vs' : List V} (r : Rel g H φ S) (hn : φ[n]? = some p) (hs : S[n]? = some (.lst ds)) (hm : Ems g H φ ds' vs') :
    Ext g H φ (upd H p (.lst vs')) φ ∧ Rel g (upd H p (.lst vs')) φ (S.set n (.lst ds')) := by
  obtain ⟨a, ho, h1, h2, h3⟩ := r.at_ n _ hs rfl
  rw [h1] at hn; cases hn
  exact ⟨Ext.put r h1 h2 h3, Rel.put r hs h1 h2 h3 ⟨_, rfl, hm⟩⟩
theorem s_append {o a : Expr} {o' a' : Ex} {apos cpos : Pos} (x : XOk g N k sc W X) (hs : isCall0 o = false) (hl : (apos.endLine == cpos.line) = true) (hst : isStar a = false) (ho : PB g W X o (den cx o')) (ha : PB g W X a (den cx a')) :
    PB g W X (.Call (.Attribute o "append" apos) [a] [] cpos) (den cx (.meth .append o' [a'])) := by
  have hfew : ((backTo cpos (starEach [a] X.env)).all (fun x => !x.1) && (backToKw cpos (keywordEach [] X.env)).all (fun x => x.1.isSome)
      && decide ([a].length + ([] : List Keyword).length + (if ([] : List Keyword).isEmpty then 0 else 1) < 30)) = true := by
    rw [starE hst]
    rfl
  refine pb_of x rfl (PEimp (pe_bm PySem.F.plainAttrs_list PySem.F.slot_list_append PySem.F.type_list_append mt_append ho.1 (pa_cons ha.1 pa_nil (starE hst)) (noSuper hs) hfew hl (starE hst) rfl) ?_)
  rintro τ H Q ⟨σ, S, φ, r, rE, p⟩
  refine meth_rec (o := o) r rE p fun t1 S1 H1 φ1 v1 e1 r1 m1 ok p1 => ⟨by rw [x.K]; exact lst_ty r1 m1 ok, ?_⟩
  rw [ded_one] at p1
  refine use_e r1 (rE.ext e1) e1 p1 fun t2 S2 H2 φ2 v2 e2 r2 m2 f2 p2 => ?_
  obtain ⟨φ3, e3, l3, r3, m3⟩ := alloc_ok (e1.trans e2) r2 m2 (f2.ext e1)
  cases t1 with
  | t _ => exact (show False from p2).elim
  | v d1 =>
    cases d1 with
    | ref n =>
      replace p2 : Post g W H φ τ (KE g H Q) (match (alloc t2 S2).2[n]? with
        | some (.lst ds) => if ds.length < sizeLine then .ok (.v .non) ((alloc t2 S2).2.set n (.lst (ds ++ [(alloc t2 S2).1]))) else .bad
        | _ => .bad) := p2
      split at p2
      · rename_i ds hds
        split at p2
        · cases m1 with
          | ref hn =>
            have hn3 := l3.pre _ _ (e2.pre _ _ hn)
            obtain ⟨b, ho', h1, h2, vs, rfl, h3⟩ := r3.at_ n _ hds rfl
            rw [h1] at hn3; cases hn3
            obtain ⟨e4, r4⟩ := put_lst (vs' := vs ++ [v2]) r3 h1 hds (h3.append (.cons m3 .nil))
            exact ⟨_, vs, v2, rfl, rfl, h2, by rw [← h3.length]; assumption, fin_v (e3.trans e4) p2 r4 .non trivial⟩
        · exact (show False from p2).elim
      · exact (show False from p2).elim
    | _ => exact (show False from p2).elim
theorem s_pop {o : Expr} {o' : Ex} {apos cpos : Pos} (x : XOk g N k sc W X) (hs : isCall0 o = false) (hl : (apos.endLine == cpos.line) = true) (ho : PB g W X o (den cx o')) :
    PB g W X (.Call (.Attribute o "pop" apos) [] [] cpos) (den cx (.meth .pop o' [])) := by
  refine pb_of x rfl (PEimp (pe_bm0 PySem.F.plainAttrs_list PySem.F.slot_list_pop PySem.F.type_list_pop mt_pop ho.1 (noSuper hs) hl) ?_)
  rintro τ H Q ⟨σ, S, φ, r, rE, p⟩
  refine meth_rec (o := o) r rE p fun t1 S1 H1 φ1 v1 e1 r1 m1 ok p1 => ⟨by rw [x.K]; exact lst_ty r1 m1 ok, ?_⟩
  rw [ded_nil] at p1
  cases t1 with
  | t _ => exact (show False from p1).elim
  | v d1 =>
    cases d1 with
    | ref n =>
      replace p1 : Post g W H φ τ (KE g H Q) (match S1[n]? with
        | some (.lst ds) => match ds[ds.length - 1]? with
          | some d => .ok (.v d) (S1.set n (.lst ds.dropLast))
          | none => .bad
        | _ => .bad) := p1
      split at p1
      · rename_i ds hds
        split at p1
        · rename_i d hd
          cases m1 with
          | ref hn =>
            obtain ⟨b, ho', h1, h2, vs, rfl, h3⟩ := r1.at_ n _ hds rfl
            rw [h1] at hn; cases hn
            obtain ⟨w, hw, mw⟩ := h3.get hd
            obtain ⟨e4, r4⟩ := put_lst (vs' := vs.dropLast) r1 h1 hds h3.dropLast
            exact ⟨_, vs, w, rfl, rfl, h2, by rw [← h3.length]; exact hw, fin_v (e1.trans e4) p1 r4 (mw.ext e4.toLe) trivial⟩
        · exact (show False from p1).elim
      · exact (show False from p1).elim
    | _ => exact (show False from p1).elim
theorem s_reverse {o : Expr} {o' : Ex} {apos cpos : Pos} (x : XOk g N k sc W X) (hs : isCall0 o = false) (hl : (apos.endLine == cpos.line) = true) (ho : PB g W X o (den cx o')) :
    PB g W X (.Call (.Attribute o "reverse" apos) [] [] cpos) (den cx (.meth .reverse o' [])) := by
  refine pb_of x rfl (PEimp (pe_bm0 PySem.F.plainAttrs_list PySem.F.slot_list_reverse PySem.F.type_list_reverse mt_reverse ho.1 (noSuper hs) hl) ?_)
  rintro τ H Q ⟨σ, S, φ, r, rE, p⟩
  refine meth_rec (o := o) r rE p fun t1 S1 H1 φ1 v1 e1 r1 m1 ok p1 => ⟨by rw [x.K]; exact lst_ty r1 m1 ok, ?_⟩
  rw [ded_nil] at p1
  cases t1 with
  | t _ => exact (show False from p1).elim
  | v d1 =>
    cases d1 with
    | ref n =>
      replace p1 : Post g W H φ τ (KE g H Q) (match S1[n]? with
        | some (.lst ds) => .ok (.v .non) (S1.set n (.lst ds.reverse))
        | _ => .bad) := p1
      split at p1
      · rename_i ds hds
        cases m1 with
        | ref hn =>
          obtain ⟨b, ho', h1, h2, vs, rfl, h3⟩ := r1.at_ n _ hds rfl
          rw [h1] at hn; cases hn
          obtain ⟨e4, r4⟩ := put_lst (vs' := vs.reverse) r1 h1 hds h3.reverse
          exact ⟨_, vs, rfl, rfl, h2, fin_v (e1.trans e4) p1 r4 .non trivial⟩
      · exact (show False from p1).elim
    | _ => exact (show False from p1).elim

/-! ### targets -/
theorem RelE.set {H : Hp} {φ : List Addr} {σ : Ev.Env} {τ : St} {i : Nat} {d : D} {v : V} (h : RelE g H φ σ τ) (m : Em g H φ d v) : RelE g H φ (σ.set i (some d)) (τ.set i (some v)) := by
  refine ⟨by simp [h.len], fun j e hj => ?_⟩
  by_cases hij : i = j
  · subst hij
    by_cases hl : i < σ.length
    · rw [List.getElem?_set_self hl] at hj
      cases hj
      exact ⟨v, List.getElem?_set_self (by rw [← h.len]; exact hl), m⟩
    · rw [List.getElem?_eq_none (by simpa using hl)] at hj
      cases hj
  · rw [List.getElem?_set_ne hij] at hj
    rw [List.getElem?_set_ne hij]
    exact h.at_ j e hj
theorem RelE.none {H : Hp} {φ : List Addr} {σ : Ev.Env} {τ : St} {i : Nat} (h : RelE g H φ σ τ) : RelE g H φ (σ.set i none) (τ.set i none) := by
  refine ⟨by simp [h.len], fun j e hj => ?_⟩
  by_cases hij : i = j
  · subst hij
    by_cases hl : i < σ.length
    · rw [List.getElem?_set_self hl] at hj
      cases hj
    · rw [List.getElem?_eq_none (by simpa using hl)] at hj
      cases hj
  · rw [List.getElem?_set_ne hij] at hj
    rw [List.getElem?_set_ne hij]
    exact h.at_ j e hj
theorem RelE.wipe {H : Hp} {φ : List Addr} {σ : Ev.Env} {τ : St} (h : RelE g H φ σ τ) : ∀ vs : List Nat, RelE g H φ (wipeE σ vs) (L2.wipe τ vs)
  | [] => h
  | v :: vs => (RelE.wipe h vs).none
theorem wipe_agree : ∀ (vs : List Nat) {τ τ' : St}, τ'.length = τ.length → (∀ i, i ∉ vs → τ'[i]? = τ[i]?) → L2.wipe τ' vs = L2.wipe τ vs := by
  have key : ∀ (vs : List Nat) (τ : St) (i : Nat), (L2.wipe τ vs)[i]? = if i ∈ vs then (if i < τ.length then some none else none) else τ[i]? := by
    intro vs
    induction vs with
    | nil => intro τ i; simp [L2.wipe]
    | cons v vs ih =>
      intro τ i
      unfold L2.wipe
      by_cases hv : v = i
      · subst hv
        by_cases hl : v < τ.length
        · rw [List.getElem?_set_self (by rw [wipe_length]; exact hl)]
          simp [hl]
        · rw [List.getElem?_eq_none (by simpa [wipe_length] using hl)]
          simp [hl]
      · rw [List.getElem?_set_ne hv, ih]
        simp [Ne.symm hv]
  intro vs τ τ' hl h
  apply List.ext_getElem?
  intro i
  rw [key, key, hl]
  by_cases hi : i ∈ vs
  · rw [if_pos hi, if_pos hi]
  · rw [if_neg hi, if_neg hi]
    exact h i hi
def rTg (g : G) (t : Tg) : TG := fun v τ H Q => ∃ σ φ d σ', RelE g H φ σ τ ∧ Em g H φ d v ∧ bindT t d σ = some σ' ∧ ∀ τ', RelE g H φ σ' τ' → τ'.length = τ.length → (∀ i, i ∉ tgS t → τ'[i]? = τ[i]?) → Q τ' H
def rTgs (g : G) (ts : List Tg) : TGs := fun vs τ H Q => ∃ σ φ ds σ', RelE g H φ σ τ ∧ Ems g H φ ds vs ∧ bindTs ts ds σ = some σ' ∧ ∀ τ', RelE g H φ σ' τ' → τ'.length = τ.length → (∀ i, i ∉ tgSs ts → τ'[i]? = τ[i]?) → Q τ' H
theorem PGimp {X : Cx} {e : Expr} {t t' : TG} (h : PG X e t) (k : ∀ v τ H Q, t' v τ H Q → t v τ H Q) : PG X e t' := ⟨fun pins s τ H v u Q I r q => h.run pins s τ H v u Q I r (k v τ H Q q)⟩
theorem PGsimp {X : Cx} {es : List Expr} {t t' : TGs} (h : PGs X es t) (k : ∀ v τ H Q, t' v τ H Q → t v τ H Q) : PGs X es t' := ⟨fun pins s τ H v u Q I r q => h.run pins s τ H v u Q I r (k v τ H Q q)⟩
theorem asgE {env : PySem.Env} {e : Expr} {es : List Expr} (h : isStar e = false) : assignEach (e :: es) env = (false, assign e env) :: assignEach es env := by
  cases e <;> first | rfl | cases h
/-- where names may be stored -/
def Sto (X : Cx) (scT : Scope) : Prop := ∀ x, locC scT x = true → Loc X.env.scope x ∧ (X.fn x = true ∨ X.env.scope.names.lookup x = some .local)
theorem cTgs_len {scT : Scope} : ∀ (n : Nat) (es : List Expr) (ts : List Tg), cTgs N scT n es = some ts → ts.length = es.length ∧ ∀ env : PySem.Env, (assignEach es env).length = es.length ∧ (assignEach es env).findIdx? (·.1) = none
  | 0, es, ts, h => by simp [cTgs] at h
  | n + 1, [], ts, h => by
    simp only [cTgs, Option.some.injEq] at h
    subst h
    exact ⟨rfl, fun env => ⟨rfl, rfl⟩⟩
  | n + 1, e :: es, ts, h => by
    simp only [cTgs] at h
    split at h
    · cases h
    · rename_i hs
      obtain ⟨t, h1, h2⟩ := opt_bind h
      obtain ⟨ts', h3, rfl⟩ := opt_map h2
      obtain ⟨i1, i2⟩ := cTgs_len n es ts' h3
      refine ⟨by simp [i1], fun env => ?_⟩
      rw [asgE (by simpa using hs)]
      obtain ⟨j1, j2⟩ := i2 env
      refine ⟨by simp [j1], ?_⟩
      rw [List.findIdx?_cons]
      simp [j2]
mutual
theorem s_tg {scT : Scope} (hN : X.N = N) (hd : N.Nodup) (hc : X.calm = true) (hK : X.K = g.K) (st : Sto X scT) : ∀ (n : Nat) (e : Expr) (t : Tg), cTg N scT n e = some t → PG X e (rTg g t)
  | 0, e, t, h => by simp [cTg] at h
  | n + 1, e, t, h => by
    simp only [cTg] at h
    split at h
    · rename_i nm pos
      split at h
      · rename_i hl
        obtain ⟨i, h1, rfl⟩ := opt_map h
        obtain ⟨s1, s2⟩ := st nm hl
        refine PGimp (pg_name (i := i) (by rw [hN]; exact hd) (by rw [hN]; exact slot_at h1) s1 s2) ?_
        rintro v τ H Q ⟨σ, φ, d, σ', rE, m, hb, k'⟩
        simp only [bindT] at hb
        split at hb
        · cases hb
          refine k' _ (rE.set m) (by simp) fun j hj => ?_
          rw [List.getElem?_set_ne]
          intro z
          exact hj (by simp [tgS, z])
        · cases hb
      · cases h
    · rename_i es j pos
      obtain ⟨ts, h1, rfl⟩ := opt_map h
      obtain ⟨l1, l2⟩ := cTgs_len n es ts h1
      refine PGimp (pg_tup hc (s_tgs hN hd hc hK st n es ts h1) (l2 X.env).1 (l2 X.env).2) ?_
      rintro v τ H Q ⟨σ, φ, d, σ', rE, m, hb, k'⟩
      simp only [bindT] at hb
      split at hb
      · rename_i ds
        cases m with
        | tup t1 t2 =>
          refine ⟨_, _, rfl, by rw [hK]; exact t1, ?_, σ, φ, ds, σ', rE, t2, hb, fun τ' a b c => k' τ' a b c⟩
          have := t2.length
          have hbl : ∀ (ts : List Tg) (ds : List D) (σ σ' : Ev.Env), bindTs ts ds σ = some σ' → ts.length = ds.length := by
            intro ts
            induction ts with
            | nil => intro ds σ σ' h; cases ds <;> simp_all [bindTs]
            | cons t ts ih =>
              intro ds σ σ' h
              cases ds with
              | nil => simp [bindTs] at h
              | cons d ds =>
                simp only [bindTs] at h
                obtain ⟨σ2, _, h⟩ := opt_bind h
                simp [ih ds _ _ h]
          rw [← this, ← hbl ts ds σ σ' hb, l1]
      · cases hb
    · cases h
theorem s_tgs {scT : Scope} (hN : X.N = N) (hd : N.Nodup) (hc : X.calm = true) (hK : X.K = g.K) (st : Sto X scT) : ∀ (n : Nat) (es : List Expr) (ts : List Tg), cTgs N scT n es = some ts → PGs X es (rTgs g ts)
  | 0, es, ts, h => by simp [cTgs] at h
  | n + 1, [], ts, h => by
    simp only [cTgs, Option.some.injEq] at h
    subst h
    refine PGsimp pgs_nil ?_
    rintro vs τ H Q ⟨σ, φ, ds, σ', rE, m, hb, k'⟩
    cases ds with
    | nil =>
      cases m
      simp only [bindTs, Option.some.injEq] at hb
      subst hb
      exact ⟨rfl, k' τ rE rfl fun _ _ => rfl⟩
    | cons _ _ => simp [bindTs] at hb
  | n + 1, e :: es, ts, h => by
    simp only [cTgs] at h
    split at h
    · cases h
    · rename_i hs
      obtain ⟨t, h1, h2⟩ := opt_bind h
      obtain ⟨ts', h3, rfl⟩ := opt_map h2
      refine PGsimp (pgs_cons (s_tg hN hd hc hK st n e t h1) (s_tgs hN hd hc hK st n es ts' h3) (by rw [asgE (by simpa using hs)]; rfl)) ?_
      rintro vs τ H Q ⟨σ, φ, ds, σ', rE, m, hb, k'⟩
      cases ds with
      | nil => simp [bindTs] at hb
      | cons d ds =>
        cases m with
        | cons m1 m2 =>
          simp only [bindTs] at hb
          obtain ⟨σ2, hb1, hb2⟩ := opt_bind hb
          refine ⟨_, _, rfl, σ, φ, d, σ2, rE, m1, hb1, fun τ' rE' l' a' => ⟨σ2, φ, ds, σ', rE', m2, hb2, fun τ2 rE2 l2 a2 => k' τ2 rE2 (l2.trans l') fun i hi => ?_⟩⟩
          rw [tgSs, List.mem_append, not_or] at hi
          rw [a2 i hi.2, a' i hi.1]
end
end
end Ev
set_option Elab.async false
set_option linter.all false
set_option maxRecDepth 100000
set_option autoImplicit false
set_option maxHeartbeats 1000000
/-! Ev, part K: what is gone through. -/
namespace Ev
open PySem L2
section
variable {g : G} {N : List Str} {k : Nat} {sc : Scope} {W : WX} {X : Cx} {cx : Cxt} {tg : Expr}
def WalkOk (g : G) (H0 : Hp) (φ0 : List Addr) (items : List D) (gd : Store → Bool) (J : L2.It) : Prop :=
  Walk J items.length (fun H1 => ∃ S φ1, Rel g H1 φ1 S ∧ gd S = true ∧ Ext g H0 φ0 H1 φ1)
    (fun i H1 x H2 => ∀ S φ1, Rel g H1 φ1 S → gd S = true → Ext g H0 φ0 H1 φ1 → Ext g H1 φ1 H2 φ1 ∧ Rel g H2 φ1 S ∧ ∃ d, items[i]? = some d ∧ Em g H2 φ1 d x)
def rIt (g : G) (W : WX) (ik : Ik) (m : Ev.Env → Store → R (List T)) : TI := fun τ H R => ∃ σ S φ, Rel g H φ S ∧ RelE g H φ σ τ ∧
  Post g W H φ τ (fun ts S' H' φ' => ∃ p, iterOf S' ik ts = some p ∧ ∀ J, WalkOk g H' φ' p.1 p.2 J → p.1.length ≤ sizeLine → R J H') (m σ S)
theorem PIimp {e : Expr} {t t' : TI} (h : PI X tg e t) (k : ∀ τ H R, t' τ H R → t τ H R) : PI X tg e t' := ⟨fun pins s τ H R I q => h.run pins s τ H R I (k τ H R q)⟩
theorem walk_lst {H0 : Hp} {φ0 : List Addr} {items : List D} {gd : Store → Bool} {a : Addr} (h : ∀ H1 S φ1, Rel g H1 φ1 S → gd S = true → Ext g H0 φ0 H1 φ1 → ∃ vs, SqL g.K H1 a vs ∧ Ems g H1 φ1 items vs) : WalkOk g H0 φ0 items gd (Itl g.K a) := by
  refine ⟨fun i H1 hi ⟨S, φ1, r, hg, e⟩ => ?_, fun H1 ⟨S, φ1, r, hg, e⟩ => ?_, fun i H1 x H2 hi _ y S φ1 r hg e => ?_⟩
  · obtain ⟨vs, h1, h2⟩ := h H1 S φ1 r hg e
    have hl : i < vs.length := by rw [← h2.length]; exact hi
    exact ⟨vs, vs[i], h1, by simp [hl]⟩
  · obtain ⟨vs, h1, h2⟩ := h H1 S φ1 r hg e
    exact ⟨vs, h1, by rw [h2.length]; exact Nat.le_refl _⟩
  · obtain ⟨y1, y2⟩ := y
    subst y1
    obtain ⟨vs, h1, h2⟩ := h _ S φ1 r hg e
    obtain ⟨v, h3, h4⟩ := h2.get (List.getElem?_eq_getElem hi)
    have h5 := y2 vs h1
    rw [h3] at h5
    cases h5
    exact ⟨Ext.refl, r, _, List.getElem?_eq_getElem hi, h4⟩
theorem walk_tpl {H0 : Hp} {φ0 : List Addr} {items : List D} {vs : List V} {gd : Store → Bool} {a : Addr} (h1 : SqT g.K H0 a vs) (h2 : Ems g H0 φ0 items vs) : WalkOk g H0 φ0 items gd (Itt g.K a) := by
  have w := walk_tup (K := g.K) (a := a) (xs := vs)
  rw [← h2.length] at w
  refine Walk.mono w (fun H1 ⟨S, φ1, r, hg, e⟩ => e.tup a vs h1) fun i H1 x H2 hi _ y S φ1 r hg e => ?_
  obtain ⟨y1, y2⟩ := y
  subst y1
  obtain ⟨v, h3, h4⟩ := h2.get (List.getElem?_eq_getElem hi)
  rw [h3] at y2
  cases y2
  exact ⟨Ext.refl, r, _, List.getElem?_eq_getElem hi, h4.ext e.toLe⟩
theorem walk_rng {H0 : Hp} {φ0 : List Addr} {gd : Store → Bool} {lo : Int} {n : Nat} : WalkOk g H0 φ0 ((List.range n).map fun (i : Nat) => .int (lo + (i : Int))) gd (Itr lo n) := by
  unfold WalkOk
  rw [List.length_map, List.length_range]
  refine Walk.mono walk_range (fun _ _ => trivial) fun i H1 x H2 hi _ y S φ1 r hg e => ?_
  obtain ⟨y1, y2⟩ := y
  subst y1 y2
  exact ⟨Ext.refl, r, _, by simp [hi], .int _⟩
theorem walk_rng3 {H0 : Hp} {φ0 : List Addr} {gd : Store → Bool} {lo c : Int} {n : Nat} : WalkOk g H0 φ0 ((List.range n).map fun (i : Nat) => .int (lo + (i : Int) * c)) gd (Itc lo c n) := by
  unfold WalkOk
  rw [List.length_map, List.length_range]
  refine Walk.mono walk_rangeC (fun _ _ => trivial) fun i H1 x H2 hi _ y S φ1 r hg e => ?_
  obtain ⟨y1, y2⟩ := y
  subst y1 y2
  exact ⟨Ext.refl, r, _, by simp [hi], .int _⟩
/-- a list or a tuple is gone through -/
def iSeq (K : PySem.W.Frag) (tl : TE) : TI := fun σ H R => tl σ H fun x H1 => ∃ a, x = .ref a ∧ ((∃ xs, SqL K H1 a xs ∧ (xs.length ≤ sizeLine → R (Itl K a) H1)) ∨ ∃ xs, SqT K H1 a xs ∧ (xs.length ≤ sizeLine → R (Itt K a) H1))
theorem pi_seq {l : Expr} {tl : TE} (hl : PE X l tl) : PI X tg l (iSeq X.K tl) := by
  refine ⟨fun pins s σ H R I h => ?_⟩
  refine thn (hl.run pins s σ H _ I h) fun v s1 ⟨x, H1, I1, r1, q1⟩ => ?_
  obtain ⟨a, e, q⟩ := q1
  subst e
  cases r1
  rcases q with ⟨xs, hq, q⟩ | ⟨xs, hq, q⟩
  · obtain ⟨its, rv, p, hz⟩ := I1.list hq
    refine wpAny_pyIter_list p.isList ?_
    refine ⟨s1.heap.objs.size, [s1.heap.objs.size], _, _, H1, rfl, I1.kept (t' := s1.toks) fun b o e => Heap.get?_push_of_some _ e, turn_list a _, ⟨_, Heap.get?_push_size _ rfl, rfl, rfl⟩, fun b hb => ?_, q hz⟩
    have e : b = s1.heap.objs.size := by simpa using hb
    subst e
    exact I1.fpOk (Nat.le_refl _) (I1.hok.fresh (Nat.le_refl _))
  · obtain ⟨its, rv, p, hz⟩ := I1.tuple hq
    refine wpAny_pyIter_tuple (show s1.heap.IsTuple a its.toArray from p) ?_
    refine ⟨s1.heap.objs.size, [s1.heap.objs.size], _, _, H1, rfl, I1.kept (t' := s1.toks) fun b o e => Heap.get?_push_of_some _ e, turn_tuple a _, ⟨_, Heap.get?_push_size _ rfl, rfl, rfl⟩, fun b hb => ?_, q hz⟩
    have e : b = s1.heap.objs.size := by simpa using hb
    subst e
    exact I1.fpOk (Nat.le_refl _) (I1.hok.fresh (Nat.le_refl _))
theorem bind_ok {α : Type} (r : R α) : r.bind (fun a S => .ok a S) = r := by cases r <;> rfl
theorem it_seq {e : Expr} {e' : Ex} (x : XOk g N k sc W X) (h : PE X e (tE g W (den cx e').e)) : PI X tg e (rIt g W .seq (dens cx [e'])) := by
  refine PIimp (pi_seq h) ?_
  rintro τ H R ⟨σ, S, φ, r, rE, p⟩
  rw [← bind_ok (dens cx [e'] σ S), dens1] at p
  refine use_e r rE Ext.refl p fun t1 S1 H1 φ1 v1 e1 r1 m1 f1 p1 => ?_
  obtain ⟨⟨items, gd⟩, hi, k⟩ := p1 H1 φ1 e1 r1
  simp only at k
  cases t1 with
  | v d =>
    cases d with
    | tup ds =>
      cases hi
      cases m1 with
      | tup h1 h2 => exact ⟨_, rfl, .inr ⟨_, by rw [x.K]; exact h1, fun hz => by rw [x.K]; exact k _ (walk_tpl h1 h2) (by rw [h2.length]; exact hz)⟩⟩
    | ref n =>
      obtain ⟨ds, hd, hq⟩ := opt_map (show (lstR S1 (.v (.ref n))).map (fun ds => (ds, fun S' : Store => decide (S'[n]? = S1[n]?))) = some (items, gd) from hi)
      cases hq
      obtain ⟨p, vs, rfl, h1, h2⟩ := TEm.lstR (t := .v (.ref n)) r1 m1 hd
      have w : WalkOk g H1 φ1 items (fun S' : Store => decide (S'[n]? = S1[n]?)) (Itl g.K p) := walk_lst fun H2 S2 φ2 r2 g2 e2 => by
        have g2' : S2[n]? = S1[n]? := of_decide_eq_true g2
        have hd2 : lstR S2 (.v (.ref n)) = some items := by
          show (match (S2[n]?).map unlk with | some (.lst ds) => some ds | _ => none) = some items
          rw [g2']
          exact hd
        cases m1 with
        | ref hn =>
          obtain ⟨p', vs', hp', h3, h4⟩ := TEm.lstR (t := .v (.ref n)) (v := .ref p) r2 (.ref (e2.pre _ _ hn)) hd2
          cases hp'
          exact ⟨vs', h3, h4⟩
      exact ⟨p, rfl, .inl ⟨vs, by rw [x.K]; exact h1, fun hz => by rw [x.K]; exact k _ w (by rw [h2.length]; exact hz)⟩⟩
    | _ => cases hi
  | t o =>
    cases o with
    | lst ds =>
      cases hi
      obtain ⟨p, ho, rfl, h1, h2, vs, rfl, h3⟩ := m1
      have w : WalkOk g H1 φ1 items (fun _ : Store => true) (Itl g.K p) := walk_lst fun H2 S2 φ2 r2 g2 e2 => ⟨vs, SqL.of (e2.out p _ h1 h2).1, h3.ext e2.toLe⟩
      exact ⟨p, rfl, .inl ⟨vs, SqL.of h1, fun hz => by rw [x.K]; exact k _ w (by rw [h3.length]; exact hz)⟩⟩
    | _ => cases hi
theorem sizeLine_num : (sizeLine : Nat) = 16777216 := sizeLine_eq
theorem it_rng1 {a : Expr} {a' : Ex} {p pos : Pos} (x : XOk g N k sc W X) (G : GOk g cx) (hg : glC sc "range" = true) (hs : isStar a = false) (h : PE X a (tE g W (den cx a').e)) : PI X tg (.Call (.Name "range" p) [a] [] pos) (rIt g W .rng (dens cx [a'])) := by
  refine PIimp (pi_range1 (x.gl hg) (by rw [x.mg]; exact G.blt_ _ (by decide +kernel)) (pa_cons h pa_nil (starE hs)) (starE hs)) ?_
  rintro τ H R ⟨σ, S, φ, r, rE, p⟩
  rw [← bind_ok (dens cx [a'] σ S), dens1] at p
  refine use_e r rE Ext.refl p fun t1 S1 H1 φ1 v1 e1 r1 m1 f1 p1 => ?_
  obtain ⟨q, hi, k⟩ := p1 H1 φ1 e1 r1
  cases t1 with
  | t _ => cases hi
  | v d =>
    cases d with
    | int j =>
      replace hi : (if -(2 ^ 62) ≤ j ∧ j ≤ 16777216 then some ((List.range j.toNat).map fun (i : Nat) => D.int (0 + (i : Int)), fun _ : Store => true) else none) = some q := hi
      split at hi
      · rename_i hj
        cases hi
        cases m1
        exact ⟨j, rfl, hj.1, by omega, k _ walk_rng (by rw [List.length_map, List.length_range, sizeLine_num]; omega)⟩
      · cases hi
    | _ => cases hi
theorem it_rng2 {a b : Expr} {a' b' : Ex} {p pos : Pos} (x : XOk g N k sc W X) (G : GOk g cx) (hg : glC sc "range" = true) (hs : isStar a = false) (hs2 : isStar b = false) (h : PE X a (tE g W (den cx a').e)) (h2 : PE X b (tE g W (den cx b').e)) :
    PI X tg (.Call (.Name "range" p) [a, b] [] pos) (rIt g W .rng (dens cx [a', b'])) := by
  refine PIimp (pi_range2 (x.gl hg) (by rw [x.mg]; exact G.blt_ _ (by decide +kernel)) (pa_cons h (pa_cons h2 pa_nil (starE hs2)) (starE hs)) (by rw [starE hs, starE hs2]; rfl) (starE hs2)) ?_
  rintro τ H R ⟨σ, S, φ, r, rE, p⟩
  rw [← bind_ok (dens cx [a', b'] σ S), dens2] at p
  refine use_e r rE Ext.refl p fun t1 S1 H1 φ1 v1 e1 r1 m1 f1 p1 => ?_
  refine use_e r1 (rE.ext e1) e1 p1 fun t2 S2 H2 φ2 v2 e2 r2 m2 f2 p2 => ?_
  obtain ⟨q, hi, k⟩ := p2 H2 φ2 (e1.trans e2) r2
  cases t1 with
  | t _ => cases t2 <;> cases hi
  | v d =>
    cases t2 with
    | t _ => cases d <;> cases hi
    | v d2 =>
      cases d with
      | int i =>
        cases d2 with
        | int j =>
          replace hi : (if -(2 ^ 62) ≤ i ∧ i < 2 ^ 62 ∧ -(2 ^ 62) ≤ j ∧ j < 2 ^ 62 ∧ j - i ≤ 16777216 then some ((List.range (j - i).toNat).map fun (m : Nat) => D.int (i + (m : Int)), fun _ : Store => true) else none) = some q := hi
          split at hi
          · rename_i hj
            cases hi
            cases m1
            cases m2
            exact ⟨i, j, rfl, ⟨hj.1, hj.2.1, hj.2.2.1, hj.2.2.2.1⟩, k _ walk_rng (by rw [List.length_map, List.length_range, sizeLine_num]; omega)⟩
          · cases hi
        | _ => cases hi
      | _ => cases d2 <;> cases hi
theorem it_rng3 {a b c : Expr} {a' b' c' : Ex} {p pos : Pos} (x : XOk g N k sc W X) (G : GOk g cx) (hg : glC sc "range" = true) (hs : isStar a = false) (hs2 : isStar b = false) (hs3 : isStar c = false) (h : PE X a (tE g W (den cx a').e)) (h2 : PE X b (tE g W (den cx b').e)) (h3 : PE X c (tE g W (den cx c').e)) :
    PI X tg (.Call (.Name "range" p) [a, b, c] [] pos) (rIt g W .rng (dens cx [a', b', c'])) := by
  refine PIimp (pi_range3 (x.gl hg) (by rw [x.mg]; exact G.blt_ _ (by decide +kernel)) (pa_cons h (pa_cons h2 (pa_cons h3 pa_nil (starE hs3)) (starE hs2)) (starE hs)) (starE hs) (starP (by simp [hs2, hs3]))) ?_
  rintro τ H R ⟨σ, S, φ, r, rE, p⟩
  rw [← bind_ok (dens cx [a', b', c'] σ S), dens3] at p
  refine use_e r rE Ext.refl p fun t1 S1 H1 φ1 v1 e1 r1 m1 f1 p1 => ?_
  refine use_e r1 (rE.ext e1) e1 p1 fun t2 S2 H2 φ2 v2 e2 r2 m2 f2 p2 => ?_
  refine use_e r2 (rE.ext (e1.trans e2)) (e1.trans e2) p2 fun t3 S3 H3 φ3 v3 e3 r3 m3 f3 p3 => ?_
  obtain ⟨q, hi, k⟩ := p3 H3 φ3 ((e1.trans e2).trans e3) r3
  have main : ∀ i j c : Int, t1 = .v (.int i) → t2 = .v (.int j) → t3 = .v (.int c) → tNil τ H3 fun xs H4 => ∃ (i j c : Int) (n : Nat), (v1 :: v2 :: v3 :: xs) = [.int i, .int j, .int c] ∧ RgC i j c n ∧ R (Itc i c n) H4 := by
    rintro i j c rfl rfl rfl
    replace hi : (if -(2 ^ 62) ≤ i ∧ i < 2 ^ 62 ∧ -(2 ^ 62) ≤ j ∧ j < 2 ^ 62 ∧ c = -1 ∧ i - j ≤ 16777216 then some ((List.range (i - j).toNat).map fun (m : Nat) => D.int (i + (m : Int) * c), fun _ : Store => true) else none) = some q := hi
    split at hi
    · rename_i hj
      cases hi
      cases m1
      cases m2
      cases m3
      obtain ⟨h1, h2, h3, h4, h5, h6⟩ := hj
      subst h5
      exact ⟨i, j, -1, _, rfl, RgC.neg h1 h2 h3 h4, k _ walk_rng3 (by rw [List.length_map, List.length_range, sizeLine_num]; omega)⟩
    · cases hi
  cases t1 with
  | t _ => cases t2 <;> cases t3 <;> cases hi
  | v d =>
    cases t2 with
    | t _ => cases d <;> cases t3 <;> cases hi
    | v d2 =>
      cases t3 with
      | t _ => cases d <;> cases d2 <;> cases hi
      | v d3 =>
        cases d with
        | int i =>
          cases d2 with
          | int j =>
            cases d3 with
            | int c => exact main i j c rfl rfl rfl
            | _ => cases hi
          | _ => cases d3 <;> cases hi
        | _ => cases d2 <;> cases d3 <;> cases hi
/-- whatever a for or a comprehension goes through -/
theorem s_it {c : Expr → Option Ex} (x : XOk g N k sc W X) (G : GOk g cx) (hc : ∀ e e', c e = some e' → PB g W X e (den cx e')) {e : Expr} {p : Ik × List Ex} (h : cIt g.T c sc e = some p) : PI X tg e (rIt g W p.1 (dens cx p.2)) := by
  have plain : ∀ e p, (c e).map (fun x => (Ik.seq, [x])) = some p → PI X tg e (rIt g W p.1 (dens cx p.2)) := by
    intro e p h
    obtain ⟨e', h1, rfl⟩ := opt_map h
    exact it_seq x (hc e e' h1).1
  unfold cIt at h
  split at h
  · rename_i f p0 args pos
    split at h
    · rename_i hcond
      simp only [Bool.and_eq_true, Bool.not_eq_true'] at hcond
      obtain ⟨⟨⟨⟨hg, _⟩, _⟩, _⟩, hs⟩ := hcond
      split at h
      · rename_i hf
        subst hf
        split at h
        · obtain ⟨a', h1, rfl⟩ := opt_map h
          simp at hs
          exact it_rng1 x G hg hs (hc _ _ h1).1
        · obtain ⟨a', h1, h⟩ := opt_bind h
          obtain ⟨b', h2, rfl⟩ := opt_map h
          simp at hs
          exact it_rng2 x G hg hs.1 hs.2 (hc _ _ h1).1 (hc _ _ h2).1
        · obtain ⟨a', h1, h⟩ := opt_bind h
          obtain ⟨b', h2, h⟩ := opt_bind h
          obtain ⟨c', h3, rfl⟩ := opt_map h
          simp at hs
          exact it_rng3 x G hg hs.1 hs.2.1 hs.2.2 (hc _ _ h1).1 (hc _ _ h2).1 (hc _ _ h3).1
        · cases h
      · exact plain _ _ h
    · exact plain _ _ h
  · exact plain _ _ h
end
end Ev
set_option Elab.async false
set_option linter.all false
set_option maxRecDepth 100000
set_option autoImplicit false
set_option maxHeartbeats 1000000
/-! Ev, part L: comprehensions; the theorem for expressions. -/
namespace Ev
open PySem L2
abbrev WF : WX := fun _ _ _ _ => False
theorem R.map_map {α β γ : Type} (r : R α) (f : α → β) (h : β → γ) : (r.map f).map h = r.map fun a => h (f a) := by cases r <;> rfl
theorem R.map_id' {α : Type} (r : R α) : (r.map fun a => a) = r := by cases r <;> rfl
section
variable {g : G} {N : List Str} {k : Nat} {sc : Scope} {W : WX} {X : Cx} {cx : Cxt}
/-- what is still to come of a comprehension -/
def Pc (g : G) (W : WX) (H : Hp) (φ : List Addr) (τ : St) (Q : VK) (r : R (List D)) : Prop := Post g W H φ τ (KE g H Q) (r.nox.bind fun ds S2 => .ok (.t (.lst ds)) S2)
theorem piece {H H' : Hp} {φ φ' : List Addr} {τ τ' : St} {Q : VK} {α : Type} {r : R α} {f : α → Store → R (List D)} {acc : List D} (p : Pc g W H φ τ Q ((r.bind f).map (acc ++ ·))) : Post g WF H' φ' τ' (fun a S1 _ _ => Pc g W H φ τ Q ((f a S1).map (acc ++ ·))) r := by
  cases r with
  | ok a S => exact fun _ _ _ _ => p
  | ex c dd S => exact (show False from p).elim
  | bad => exact p
theorem Pc.gd {H : Hp} {φ : List Addr} {τ : St} {Q : VK} {bnd : D → Ev.Env → Option Ev.Env} {tst : Ev.Env → Store → R Bool} {el : Ev.Env → Store → R D} {gd : Store → Bool} {σ : Ev.Env} {items : List D} {S : Store} {f : List D → List D} (p : Pc g W H φ τ Q ((lcL bnd tst el gd σ items S).map f)) : gd S = true := by
  by_cases h : gd S = true
  · exact h
  · cases items with
    | nil =>
      unfold lcL at p
      rw [if_neg h] at p
      exact (show False from p).elim
    | cons d ds =>
      unfold lcL at p
      rw [if_neg h] at p
      exact (show False from p).elim
theorem lc_read {t : Tg} {ik : Ik} {ia cs : List Ex} {el : Ex} {vs : List Nat} (hsub : ∀ i ∈ tgS t, i ∈ vs) (τ : St) (H : Hp) (Q : VK) (h : tE g W (den cx (.lc t ik ia cs el vs)).e τ H Q) :
    tLc (rIt g W ik (dens cx ia)) (rTg g t) (tT g WF (dent cx cs)) (tE g WF (den cx el).e) vs τ H Q := by
  obtain ⟨σ, S, φ, r, rE, p⟩ := h
  replace p : Post g W H φ τ (KE g H Q) ((dens cx ia σ S).bind fun ts S' => match iterOf S' ik ts with
      | none => .bad
      | some p => (lcL (bindT t) (dent cx cs) (fun σ S => ((den cx el).e σ S).alloc) p.2 (wipeE σ vs) p.1 S').nox.bind fun ds S2 => .ok (.t (.lst ds)) S2) := p
  refine ⟨σ, S, φ, r, rE, Post.mono (Post.bnd p) fun ts S1 H1 φ1 e1 r1 p1 => ?_⟩
  split at p1
  · exact (show False from p1).elim
  rename_i pr hpr
  refine ⟨pr, hpr, fun J w hz D hD => ?_⟩
  replace p1 : Pc g W H φ τ Q (lcL (bindT t) (dent cx cs) (fun σ S => ((den cx el).e σ S).alloc) pr.2 (wipeE σ vs) pr.1 S1) := p1
  refine lc_it w (fun i Hc => ∃ Sc φc acc ws, Rel g Hc φc Sc ∧ Ext g H1 φ1 Hc φc ∧ Hc D = some (.lst ws) ∧ D ∉ φc ∧ Ems g Hc φc acc ws ∧ ws.length ≤ i ∧
    Pc g W H φ τ Q ((lcL (bindT t) (dent cx cs) (fun σ S => ((den cx el).e σ S).alloc) pr.2 (wipeE σ vs) (pr.1.drop i) Sc).map (acc ++ ·))) ?_ ?_ ?_ ?_
  · refine ⟨S1, φ1, [], [], r1.new hD, Ext.new hD, upd_same, r1.notin hD, .nil, Nat.le_refl _, ?_⟩
    rw [List.drop_zero]
    have : (fun x : List Ev.D => [] ++ x) = fun x => x := by funext x; rfl
    rw [this, R.map_id']
    exact p1
  · rintro i Hc hi ⟨Sc, φc, acc, ws, rc, ec, hd, hn, hm, hl, pc⟩
    exact ⟨Sc, φc, rc, Pc.gd pc, ec⟩
  · rintro i x Hc H' hi ⟨Sc, φc, acc, ws, rc, ec, hd, hn, hm, hl, pc⟩ y
    obtain ⟨eY, rY, d, hdi, mY⟩ := y Sc φc rc (Pc.gd pc) ec
    have hgd := Pc.gd pc
    have hdrop : pr.1.drop i = d :: pr.1.drop (i + 1) := by
      rw [List.drop_eq_getElem_cons hi]
      rw [List.getElem?_eq_getElem hi] at hdi
      rw [Option.some.inj hdi]
    rw [hdrop] at pc
    unfold lcL at pc
    rw [if_pos hgd] at pc
    split at pc
    · exact (show False from pc).elim
    rename_i σ' hb
    have rEw : RelE g H' φc (wipeE σ vs) (L2.wipe τ vs) := (rE.ext ((e1.trans ec).trans eY)).wipe vs
    refine ⟨wipeE σ vs, φc, d, σ', rEw, mY, hb, fun τ' rE' hl' ha' => ⟨?_, ?_⟩⟩
    · refine (wipe_agree vs hl' fun j hj => ha' j fun z => hj (hsub j z)).trans ?_
      exact wipe_agree vs (wipe_length τ vs) fun j hj => by
        have : ∀ (vs : List Nat), j ∉ vs → (L2.wipe τ vs)[j]? = τ[j]? := by
          intro vs
          induction vs with
          | nil => intro _; rfl
          | cons v vs ih =>
            intro hj
            rw [List.mem_cons, not_or] at hj
            unfold L2.wipe
            rw [List.getElem?_set_ne (Ne.symm hj.1)]
            exact ih hj.2
        exact this vs hj
    · refine ⟨σ', Sc, φc, rY, rE', Post.mono (piece pc) fun b S3 H3 φ3 e3 r3 p3 => ?_⟩
      obtain ⟨hdY, hnY⟩ := eY.out D _ hd hn
      obtain ⟨hd3, hn3⟩ := e3.out D _ hdY hnY
      have hm3 : Ems g H3 φ3 acc ws := (hm.ext eY.toLe).ext e3.toLe
      have ec3 : Ext g H1 φ1 H3 φ3 := (ec.trans eY).trans e3
      cases b with
      | false =>
        rw [if_neg Bool.false_ne_true] at p3 ⊢
        exact ⟨S3, φ3, acc, ws, r3, ec3, hd3, hn3, hm3, Nat.le_succ_of_le hl, p3⟩
      | true =>
        rw [if_pos rfl] at p3 ⊢
        rw [alloc_bind] at p3
        refine ⟨σ', S3, φ3, r3, rE'.ext e3, Post.mono (piece p3) fun tv S4 H4 φ4 e4 r4 p4 v m f => ?_⟩
        obtain ⟨φ5, e5, l5, r5, m5⟩ := alloc_ok e4 r4 m f
        obtain ⟨hd5, hn5⟩ := e5.out D _ hd3 hn3
        have lt : ws.length < sizeLine := by omega
        refine ⟨ws, hd5, lt, ?_⟩
        have le : Le g H4 φ5 (upd H4 D (.lst (ws ++ [v]))) φ5 := ⟨fun a xs h => SqT.updT h hd5 (fun _ z => nomatch z) (fun _ _ z => nomatch z), fun _ _ h => h, fun q d fs h => by
          rw [upd_ne (fun z => ?_)]
          · exact h
          · rw [z, hd5] at h
            exact nomatch (show HO.lst ws = HO.ext _ from Option.some.inj h)⟩
        have ne : ∀ a ∈ φ5, a ≠ D := fun a ha z => hn5 (z ▸ ha)
        have e15 : Ext g H1 φ1 H4 φ5 := ec3.trans e5
        refine ⟨_, φ5, acc ++ [(alloc tv S4).1], ws ++ [v], r5.step (fun a ha => upd_ne (ne a ha)) le, ⟨⟨fun a xs h => le.tup a xs (e15.tup a xs h), e15.pre, fun p d fs h => le.xd p d fs (e15.xd p d fs h)⟩, fun q o h hq => ?_, fun q h => ?_⟩, upd_same, hn5, ?_, ?_, ?_⟩
        · obtain ⟨k1, k2⟩ := e15.out q o h hq
          refine ⟨?_, k2⟩
          rw [upd_ne (ne_of_none h hD)]
          exact k1
        · by_cases hqD : q = D
          · subst hqD; exact hD
          · rw [upd_ne hqD] at h
            exact e15.dom q h
        · exact ((hm3.ext e5.toLe).append (.cons m5 .nil)).ext le
        · rw [List.length_append]
          show ws.length + 1 ≤ i + 1
          omega
        · rw [R.map_map] at p4
          have e : (fun xs : List Ev.D => (acc ++ [(alloc tv S4).1]) ++ xs) = fun a => acc ++ ((alloc tv S4).1 :: a) := by
            funext xs
            rw [List.append_assoc]
            rfl
          rw [e]
          exact p4
  · rintro Hc ⟨Sc, φc, acc, ws, rc, ec, hd, hn, hm, hl, pc⟩
    have hgd := Pc.gd pc
    rw [List.drop_length] at pc
    unfold lcL at pc
    rw [if_pos hgd] at pc
    replace pc : Post g W H φ τ (KE g H Q) (.ok (.t (.lst (acc ++ []))) Sc) := pc
    rw [List.append_nil] at pc
    exact pc Hc φc (e1.trans ec) rc (.ref D) ⟨D, .lst ws, rfl, hd, hn, ws, rfl, hm⟩ fun q hq => by
      cases hq
      exact e1.dom D hD
/-- within a comprehension's block -/
theorem XOk.blk (x : XOk g N k sc W X) (s : Shared) (H : Hp) (scope : Scope) (C : Addr) (cl : List (Str × Addr)) (fp : List Addr) : XOk g N k (relS scope sc) WF (X.blk s H scope (compEnvC scope cl C X.env) fp) := by
  refine ⟨x.prog, x.hw, x.K, x.mg, x.base, x.hN, x.nd, ?_, x.room, x.calm, takes0⟩
  rw [← x.hsc]
  rfl
theorem sto_blk (s : Shared) (H : Hp) (scope : Scope) (C : Addr) (cl : List (Str × Addr)) (fp : List Addr) : Sto (X.blk s H scope (compEnvC scope cl C X.env) fp) scope := by
  intro n hn
  have key : ∀ kd, kd ≠ .free → scope.names.lookup n = some kd → (X.blk s H scope (compEnvC scope cl C X.env) fp).env.scope.names.lookup n = some kd := fun kd hk h => lookup_relS_keep (sc := X.env.scope) hk h
  rcases locC_iff hn with h | h
  · exact ⟨.inl (key .local (by decide) h), .inr (key .local (by decide) h)⟩
  · refine ⟨.inr (key .cell (by decide) h), .inl ?_⟩
    show (scope.names.lookup n == some .cell) = true
    rw [h]
    rfl
theorem PTsimp {X : Cx} {es : List Expr} {t t' : TT} (h : PTs X es t) (k : ∀ τ H Q, t' τ H Q → t τ H Q) : PTs X es t' := ⟨fun pins s τ H Q I q => h.run pins s τ H Q I (k τ H Q q)⟩
theorem s_ts {c : Expr → Option Ex} (hc : ∀ e e', c e = some e' → PB g W X e (den cx e')) {ifs : List Expr} {cs : List Ex} (h : seqM c ifs = some cs) (hl : ifs.length ≤ 1) : PTs X ifs (tT g W (dent cx cs)) := by
  cases ifs with
  | nil =>
    cases h
    refine PTsimp pts_nil ?_
    rintro τ H Q ⟨σ, S, φ, r, rE, p⟩
    exact p H φ Ext.refl r
  | cons e es =>
    cases es with
    | nil =>
      obtain ⟨e', h1, h2⟩ := opt_bind h
      obtain ⟨r', h3, rfl⟩ := opt_map h2
      cases h3
      exact pts_one (hc e e' h1).2
    | cons _ _ => simp at hl
/-- the parts of a comprehension -/
structure LcOk (g : G) (N : List Str) (k : Nat) (sc : Scope) (W : WX) (X : Cx) (cx : Cxt) (el tg iter : Expr) (ifs : List Expr) (scope : Scope) (t : Tg) (p : Ik × List Ex) (cs : List Ex) (e' : Ex) : Prop where
  set : isSet iter = false
  ok : BlkOk X.N X.env.scope scope (ownOf N scope)
  sub : ∀ i ∈ tgS t, i ∈ (ownOf N scope).map (·.2)
  it : PI X tg iter (rIt g W p.1 (dens cx p.2))
  tg : ∀ (s : Shared) (H : Hp) (C : Addr) (cl : List (Str × Addr)) (fp : List Addr), PG (X.blk s H scope (compEnvC scope cl C X.env) fp) tg (rTg g t)
  ts : ∀ (s : Shared) (H : Hp) (C : Addr) (cl : List (Str × Addr)) (fp : List Addr), PTs (X.blk s H scope (compEnvC scope cl C X.env) fp) ifs (tT g WF (dent cx cs))
  el : ∀ (s : Shared) (H : Hp) (C : Addr) (cl : List (Str × Addr)) (fp : List Addr), PE (X.blk s H scope (compEnvC scope cl C X.env) fp) el (tE g WF (den cx e').e)
theorem s_lc {el tg iter : Expr} {ifs : List Expr} {scope : Scope} {t : Tg} {p : Ik × List Ex} {cs : List Ex} {e' : Ex} {pos : Pos} (x : XOk g N k sc W X) (L : LcOk g N k sc W X cx el tg iter ifs scope t p cs e') :
    PB g W X (.ListComp el [⟨tg, iter, ifs, 0⟩] scope pos) (den cx (.lc t p.1 p.2 cs e' ((ownOf N scope).map (·.2)))) :=
  pb_of x rfl (PEimp (pe_lc x.calm (by rw [x.hN]; exact x.nd) L.it L.ok L.tg L.ts L.el (noFold L.set)) (lc_read L.sub))

/-! ### all expressions -/
/-- the theorem for expressions, at depth n -/
def ExOk (g : G) (N : List Str) (k : Nat) (cx : Cxt) (n : Nat) : Prop := ∀ (sc : Scope) (W : WX) (X : Cx), XOk g N k sc W X → ∀ e e', cE g.T N n sc e = some e' → PB g W X e (den cx e')
theorem lc_parts {n : Nat} (G : GOk g cx) (ih : ExOk g N k cx n) (x : XOk g N k sc W X) {el tg iter : Expr} {ifs : List Expr} {scope : Scope} {pos : Pos} {r : Ex} (h : cE g.T N (n + 1) sc (.ListComp el [⟨tg, iter, ifs, 0⟩] scope pos) = some r) :
    ∃ t p cs e', r = .lc t p.1 p.2 cs e' ((ownOf N scope).map (·.2)) ∧ LcOk g N k sc W X cx el tg iter ifs scope t p cs e' := by
  simp only [cE] at h
  split at h
  · rename_i hc
    simp only [Bool.and_eq_true, Bool.not_eq_true', decide_eq_true_eq] at hc
    obtain ⟨⟨h1, h2⟩, h3⟩ := hc
    obtain ⟨t, ht, h⟩ := opt_bind h
    split at h
    · cases h
    · rename_i hall
      obtain ⟨p, hp, h⟩ := opt_bind h
      obtain ⟨cs, hcs, h⟩ := opt_bind h
      obtain ⟨e', he, rfl⟩ := opt_map h
      refine ⟨t, p, cs, e', rfl, h2, ?_, ?_, s_it x G (fun e e' => ih sc W X x e e') hp, fun s H C cl fp => ?_, fun s H C cl fp => ?_, fun s H C cl fp => ?_⟩
      · rw [x.hN, x.hsc]
        exact blkOk_by h1
      · intro i hi
        have hall' : ((tgS t).all fun i => ((ownOf N scope).map (·.2)).contains i) = true := by simpa using hall
        have := List.all_eq_true.mp hall' i hi
        simpa using this
      · exact s_tg (X := X.blk s H scope (compEnvC scope cl C X.env) fp) x.hN x.nd x.calm x.K (sto_blk s H scope C cl fp) 9 tg t ht
      · exact s_ts (fun e e' => ih _ _ _ (x.blk s H scope C cl fp) e e') hcs h3
      · exact (ih _ _ _ (x.blk s H scope C cl fp) el e' he).1
  · cases h
end
end Ev
set_option Elab.async false
set_option linter.all false
set_option maxRecDepth 100000
set_option autoImplicit false
set_option maxHeartbeats 4000000
/-! Ev, part M: the theorem for all expressions. -/
namespace Ev
open PySem L2
section
variable {g : G} {N : List Str} {k : Nat} {cx : Cxt}
theorem any_cons_false {e : Expr} {es : List Expr} (h : (e :: es).any isStar = false) : isStar e = false ∧ es.any isStar = false := by
  rw [List.any_cons, Bool.or_eq_false_iff] at h
  exact h
theorem exOk_succ (G : GOk g cx) (C : COk g cx k) {n : Nat} (ih : ExOk g N k cx n) : ExOk g N k cx (n + 1) := by
  intro sc W X x e e' h
  have ihx : ∀ e e', cE g.T N n sc e = some e' → PB g W X e (den cx e') := fun e e' => ih sc W X x e e'
  cases e with
  | Constant c j pos =>
    simp only [cE] at h
    cases c with
    | none => cases h; exact s_cst x rfl pe_non fun _ _ => .non
    | bool b => cases h; exact s_cst x rfl pe_bl fun _ _ => .bl _
    | int i => cases h; exact s_cst x rfl pe_int fun _ _ => .int _
    | str z => cases h; exact s_cst x rfl pe_str fun _ _ => .str _
    | _ => cases h
  | Name nm pos =>
    simp only [cE] at h
    split at h
    · rename_i ho
      split at h
      · rename_i hv
        obtain ⟨i, h1, rfl⟩ := opt_map h
        exact s_var x h1 hv ho
      · split at h
        · rename_i hg
          obtain ⟨d, h1, rfl⟩ := opt_map h
          obtain ⟨u, v, m1, m2, m3⟩ := G.cst_ nm d h1
          exact s_cst x rfl (pe_glob (x.gl hg) (by rw [x.mg]; exact m1) m2 (okN_iff ho).1) m3
        · cases h
    · cases h
  | BinOp a o b pos =>
    simp only [cE] at h
    obtain ⟨o', h1, h⟩ := opt_bind h
    obtain ⟨a', h2, h⟩ := opt_bind h
    obtain ⟨b', h3, rfl⟩ := opt_map h
    exact s_op x h1 (ihx _ _ h2) (ihx _ _ h3)
  | UnaryOp o a pos =>
    simp only [cE] at h
    cases o with
    | Not =>
      obtain ⟨a', h1, rfl⟩ := opt_map h
      exact s_not (ihx _ _ h1)
    | USub =>
      obtain ⟨a', h1, rfl⟩ := opt_map h
      exact s_neg x (ihx _ _ h1)
    | _ => cases h
  | BoolOp o es pos =>
    cases es with
    | nil => simp only [cE] at h; cases o <;> cases h
    | cons a r =>
      cases r with
      | nil =>
        simp only [cE] at h
        exact s_one (ihx _ _ h)
      | cons b r =>
        simp only [cE] at h
        cases o with
        | And =>
          obtain ⟨a', h1, h⟩ := opt_bind h
          obtain ⟨b', h2, rfl⟩ := opt_map h
          exact s_and (ihx _ _ h1) (ihx _ _ h2)
        | Or =>
          obtain ⟨a', h1, h⟩ := opt_bind h
          obtain ⟨b', h2, rfl⟩ := opt_map h
          exact s_or (ihx _ _ h1) (ihx _ _ h2)
  | IfExp c a b pos =>
    simp only [cE] at h
    obtain ⟨c', h1, h⟩ := opt_bind h
    obtain ⟨a', h2, h⟩ := opt_bind h
    obtain ⟨b', h3, rfl⟩ := opt_map h
    exact s_ite (ihx _ _ h1) (ihx _ _ h2) (ihx _ _ h3)
  | Compare a os es pos =>
    simp only [cE] at h
    split at h
    · rename_i o b
      split at h
      · cases h
      · rename_i hs
        obtain ⟨o', h1, h⟩ := opt_bind h
        obtain ⟨a', h2, h⟩ := opt_bind h
        obtain ⟨b', h3, rfl⟩ := opt_map h
        exact s_cmp x G C h1 (by simpa using hs) (ihx _ _ h2) (ihx _ _ h3)
    · rename_i o q b c
      split at h
      · cases h
      · rename_i hs
        obtain ⟨o', h1, h⟩ := opt_bind h
        obtain ⟨q', h2, h⟩ := opt_bind h
        obtain ⟨a', h3, h⟩ := opt_bind h
        obtain ⟨b', h4, h⟩ := opt_bind h
        obtain ⟨c', h5, rfl⟩ := opt_map h
        exact s_ch x h1 h2 (by simpa using hs) (ihx _ _ h3) (ihx _ _ h4) (ihx _ _ h5)
    · cases h
  | Tuple es j pos =>
    simp only [cE] at h
    split at h
    · cases h
    · rename_i hs
      obtain ⟨es', h1, rfl⟩ := opt_map h
      exact s_tup x (s_args ihx es es' h1 (by simpa using hs))
  | List es pos =>
    simp only [cE] at h
    split at h
    · cases h
    · rename_i hs
      obtain ⟨es', h1, rfl⟩ := opt_map h
      exact s_lst x (s_args ihx es es' h1 (by simpa using hs))
  | Dict ks vs pos =>
    simp only [cE] at h
    split at h
    · cases h; exact s_dct x
    · cases h
  | Subscript a i pos =>
    simp only [cE] at h
    split at h
    · rename_i lo hi st p2
      split at h
      · obtain ⟨a', h1, h⟩ := opt_bind h
        obtain ⟨l', h2, h⟩ := opt_bind h
        obtain ⟨h', h3, rfl⟩ := opt_map h
        exact s_sl x (ihx _ _ h1) (ihx _ _ h2) (ihx _ _ h3)
      · obtain ⟨a', h1, h⟩ := opt_bind h
        obtain ⟨l', h2, rfl⟩ := opt_map h
        exact s_sl1 x (ihx _ _ h1) (ihx _ _ h2)
      · obtain ⟨a', h1, h⟩ := opt_bind h
        obtain ⟨l', h2, rfl⟩ := opt_map h
        exact s_sl2 x (ihx _ _ h1) (ihx _ _ h2)
      · obtain ⟨a', h1, rfl⟩ := opt_map h
        exact s_sl0 x (ihx _ _ h1)
      · obtain ⟨a', h1, rfl⟩ := opt_map h
        exact s_bk x (ihx _ _ h1)
      · cases h
    · rename_i hns
      obtain ⟨a', h1, h⟩ := opt_bind h
      obtain ⟨i', h2, rfl⟩ := opt_map h
      have hs : isSlice i = false := by
        cases i <;> first | rfl | exact absurd rfl (hns _ _ _ _)
      exact s_idx x hs (ihx _ _ h1) (ihx _ _ h2)
  | Attribute o f pos =>
    simp only [cE] at h
    split at h
    · cases h
    · rename_i hs
      split at h
      · rename_i j _
        split at h
        · rename_i hj
          obtain ⟨o', h1, rfl⟩ := opt_map h
          exact s_fld x G (by simpa using hs) hj (ihx _ _ h1)
        · cases h
      · cases h
  | ListComp el gs scope pos =>
    have hgs : ∃ tg iter ifs, gs = [⟨tg, iter, ifs, 0⟩] := by
      simp only [cE] at h
      split at h
      · exact ⟨_, _, _, rfl⟩
      · cases h
    obtain ⟨tg, iter, ifs, rfl⟩ := hgs
    obtain ⟨t, p, cs, el', rfl, L⟩ := lc_parts G ih x h
    exact s_lc x L
  | Call f args kws cpos =>
    simp only [cE] at h
    split at h
    · cases h
    · rename_i hk
      have hk1 : kws = [] := by
        cases kws with
        | nil => rfl
        | cons _ _ => simp at hk
      subst hk1
      have hs : args.any isStar = false := by
        simpa using hk
      split at h
      · rename_i nm p2
        split at h
        · rename_i hgo
          rw [Bool.and_eq_true] at hgo
          obtain ⟨hg, ho⟩ := hgo
          split at h
          · rename_i i hx
            split at h
            · rename_i he
              cases h
              have : args = [] := by simpa using he
              subst this
              exact s_mkx0 x G hg ho hx
            · cases h
          · rename_i i f hx
            split at h
            · rename_i a
              obtain ⟨a', h1, rfl⟩ := opt_map h
              exact s_mkx1 x G C.lv_ hg ho hx (any_cons_false hs).1 (s_args ihx [a] [a'] (by simp [seqM, h1]) hs)
            · cases h
          rename_i hnx
          split at h
          · rename_i i hi
            split at h
            · cases h
            · rename_i hne
              obtain ⟨es', h1, rfl⟩ := opt_map h
              exact s_call x G C hg ho hi (by simpa using hne) hs (s_args ihx args es' h1 hs)
          · split at h
            · rename_i i hi
              split at h
              · cases h
              · rename_i hne
                obtain ⟨es', h1, rfl⟩ := opt_map h
                exact s_mk x G C hg ho hi (by simpa using hne) hs (s_args ihx args es' h1 hs)
            · split at h
              · rename_i a
                split at h
                · rename_i b hb
                  obtain ⟨a', h1, rfl⟩ := opt_map h
                  exact s_bi x G hg ho hb (any_cons_false hs).1 (ihx _ _ h1)
                · cases h
              · rename_i a b
                split at h
                · rename_i hnm
                  subst hnm
                  split at h
                  · rename_i t p3
                    split at h
                    · rename_i hto
                      rw [Bool.and_eq_true] at hto
                      split at h
                      · rename_i i hi
                        obtain ⟨a', h1, rfl⟩ := opt_map h
                        exact s_isiC x G hg hto.1 hto.2 hi (any_cons_false hs).1 (ihx _ _ h1)
                      · split at h
                        · rename_i htv
                          subst htv
                          obtain ⟨a', h1, rfl⟩ := opt_map h
                          exact s_isiV x G hg hto.1 (any_cons_false hs).1 (ihx _ _ h1)
                        split at h
                        · obtain ⟨s, h1, h⟩ := opt_bind h
                          obtain ⟨a', h2, rfl⟩ := opt_map h
                          exact s_isiB x G hg hto.1 hto.2 h1 (any_cons_false hs).1 (ihx _ _ h2)
                        · cases h
                    · cases h
                  · cases h
                · split at h
                  · rename_i hnm
                    subst hnm
                    obtain ⟨a', h1, h⟩ := opt_bind h
                    obtain ⟨b', h2, rfl⟩ := opt_map h
                    exact s_max x G hg (any_cons_false hs).1 (any_cons_false (any_cons_false hs).2).1 (ihx _ _ h1) (ihx _ _ h2)
                  · split at h
                    · rename_i hnm
                      subst hnm
                      obtain ⟨a', h1, h⟩ := opt_bind h
                      obtain ⟨b', h2, rfl⟩ := opt_map h
                      exact s_min x G hg (any_cons_false hs).1 (any_cons_false (any_cons_false hs).2).1 (ihx _ _ h1) (ihx _ _ h2)
                    · cases h
              · cases h
        · cases h
      · rename_i o m apos
        split at h
        · cases h
        · rename_i hc
          simp only [Bool.or_eq_true, not_or, Bool.not_eq_true, Bool.not_eq_false', decide_eq_true_eq] at hc
          obtain ⟨⟨hc1, hc2⟩, hc3⟩ := hc
          split at h
          · cases h
          · split at h
            · obtain ⟨mk', h1, h⟩ := opt_bind h
              obtain ⟨o', h2, rfl⟩ := opt_map h
              unfold me0 at h1
              split at h1
              · rename_i hm
                cases h1
                subst hm
                exact s_pop x hc1 hc2 (ihx _ _ h2)
              · split at h1
                · rename_i hm
                  cases h1
                  subst hm
                  exact s_reverse x hc1 hc2 (ihx _ _ h2)
                · cases h1
            · rename_i a
              obtain ⟨mk', h1, h⟩ := opt_bind h
              obtain ⟨o', h2, h⟩ := opt_bind h
              obtain ⟨a', h3, rfl⟩ := opt_map h
              unfold me1 at h1
              split at h1
              · rename_i hm
                cases h1
                subst hm
                exact s_append x hc1 hc2 (any_cons_false hs).1 (ihx _ _ h2) (ihx _ _ h3)
              · cases h1
            · cases h
      · cases h
  | _ => simp only [cE] at h; cases h
theorem exOk (G : GOk g cx) (C : COk g cx k) : ∀ n, ExOk g N k cx n
  | 0 => fun sc W X x e e' h => by simp only [cE] at h; cases h
  | n + 1 => exOk_succ G C (exOk G C n)
end
end Ev
set_option Elab.async false
set_option linter.all false
set_option maxRecDepth 100000
set_option autoImplicit false
set_option maxHeartbeats 4000000
/-! Ev, part N: statements. -/
namespace Ev
open PySem L2

/-- what comes of a statement -/
def PostS (g : G) (W : WX) (H : Hp) (φ : List Addr) (Dn : Ends) : R Fl → Prop
  | .ok f S' => ∀ H' φ', Ext g H φ H' φ' → Rel g H' φ' S' → match f with
    | .nx σ => ∀ τ', RelE g H' φ' σ τ' → Dn.nx τ' H'
    | .rt d => ∀ v, Em g H' φ' d v → Dn.rt v H'
    | .bk σ => ∀ τ', RelE g H' φ' σ τ' → Dn.bk τ' H'
    | .ct σ => ∀ τ', RelE g H' φ' σ τ' → Dn.ct τ' H'
    | .xc σ c dd => ∀ τ' dx, RelE g H' φ' σ τ' → XEm g H' φ' c dd dx → W (.ref (g.ca c)) dx τ' H'
  | _ => False
def tS (g : G) (W : WX) (m : Env → Store → R Fl) : TS := fun D τ H => ∃ σ S φ, Rel g H φ S ∧ RelE g H φ σ τ ∧ PostS g W H φ D (m σ S)
theorem PSimp {X : Cx} {st : Stmt} {t t' : TS} (h : PS X st t) (k : ∀ D τ H, t' D τ H → t D τ H) : PS X st t' := ⟨fun pins s τ H D I q => h.run pins s τ H D I (k D τ H q)⟩
theorem PSsimp {X : Cx} {st : List Stmt} {t t' : TS} (h : PSs X st t) (k : ∀ D τ H, t' D τ H → t D τ H) : PSs X st t' := ⟨fun pins s τ H D I q => h.run pins s τ H D I (k D τ H q)⟩
section
variable {g : G} {W : WX} {H H1 : Hp} {φ φ1 : List Addr} {τ : St} {σ : Env} {S1 : Store} {Dn : Ends}
theorem PostS.shift {r : R Fl} (e : Ext g H φ H1 φ1) (h : PostS g W H φ Dn r) : PostS g W H1 φ1 Dn r := by
  cases r with
  | ok f S => exact fun H' φ' e' r' => h H' φ' (e.trans e') r'
  | ex c dd S => exact h
  | bad => exact h
theorem PostS.cat {α : Type} {r : R α} {f : α → Store → R Fl} (ex : Ext g H φ H1 φ1) (rE : RelE g H1 φ1 σ τ) (h : PostS g W H φ Dn (r.cat σ f)) : Post g W H1 φ1 τ (fun a S1 _ _ => PostS g W H φ Dn (f a S1)) r := by
  cases r with
  | ok a S => exact fun H' φ' e' r' => h
  | ex c dd S => exact fun H' φ' dx e' r' x => h H' φ' (ex.trans e') r' τ dx (rE.ext e') x
  | bad => exact h
theorem use_eS {m : Env → Store → R T} {f : T → Store → R Fl} {Q : VK} (rel : Rel g H1 φ1 S1) (rE : RelE g H1 φ1 σ τ) (ex : Ext g H φ H1 φ1) (h : PostS g W H φ Dn ((m σ S1).cat σ f))
    (cont : ∀ t S2 H2 φ2 v, Ext g H1 φ1 H2 φ2 → Rel g H2 φ2 S2 → TEm g H2 φ2 t v → Fr H1 t v → PostS g W H φ Dn (f t S2) → Q v H2) : tE g W m τ H1 Q :=
  ⟨σ, S1, φ1, rel, rE, Post.mono (PostS.cat ex rE h) fun t S2 H2 φ2 e2 r2 p v em fr => cont t S2 H2 φ2 v e2 r2 em fr p⟩
theorem use_tS {m : Env → Store → R Bool} {f : Bool → Store → R Fl} {Q : Bool → Hp → Prop} (rel : Rel g H1 φ1 S1) (rE : RelE g H1 φ1 σ τ) (ex : Ext g H φ H1 φ1) (h : PostS g W H φ Dn ((m σ S1).cat σ f))
    (cont : ∀ t S2 H2 φ2, Ext g H1 φ1 H2 φ2 → Rel g H2 φ2 S2 → PostS g W H φ Dn (f t S2) → Q t H2) : tT g W m τ H1 Q :=
  ⟨σ, S1, φ1, rel, rE, Post.mono (PostS.cat ex rE h) fun t S2 H2 φ2 e2 r2 p => cont t S2 H2 φ2 e2 r2 p⟩
theorem use_dS {m : Env → Store → R (List D)} {f : List D → Store → R Fl} {Q : List V → Hp → Prop} (rel : Rel g H1 φ1 S1) (rE : RelE g H1 φ1 σ τ) (ex : Ext g H φ H1 φ1) (h : PostS g W H φ Dn ((m σ S1).cat σ f))
    (cont : ∀ t S2 H2 φ2 v, Ext g H1 φ1 H2 φ2 → Rel g H2 φ2 S2 → Ems g H2 φ2 t v → PostS g W H φ Dn (f t S2) → Q v H2) : tD g W m τ H1 Q :=
  ⟨σ, S1, φ1, rel, rE, Post.mono (PostS.cat ex rE h) fun t S2 H2 φ2 e2 r2 p v em => cont t S2 H2 φ2 v e2 r2 em p⟩
theorem alloc_cat (r : R T) (σ : Env) (f : D → Store → R Fl) : r.alloc.cat σ f = r.cat σ fun t S => f (alloc t S).1 (alloc t S).2 := by cases r <;> rfl
theorem nox_map {α : Type} (o : Option α) (S : Store) (f : α → Fl) : (ofO S o).map f = ofO S (o.map f) := by cases o <;> rfl
theorem PostS.ofO {S : Store} {α : Type} {o : Option α} {f : α → Fl} (h : PostS g W H φ Dn ((Ev.ofO S o).map f)) : ∃ a, o = some a ∧ PostS g W H φ Dn (.ok (f a) S) := by
  cases o with
  | none => exact (show False from h).elim
  | some a => exact ⟨a, rfl, h⟩
end

/-- where a statement stands -/
structure SOk (g : G) (N : List Str) (k : Nat) (sc : Scope) (W : WX) (X : Cx) : Prop extends XOk g N k sc W X where
  pass : PassesOwn (model X.prog X.w) X.A X.env X.xe
  fn : ∀ x, X.fn x = true
  stk : X.stack = X.env :: X.outer
  frm : X.env.frame = some X.env.locals
section
variable {g : G} {N : List Str} {k : Nat} {sc : Scope} {W : WX} {X : Cx} {cx : Cxt}
theorem SOk.loc (x : SOk g N k sc W X) {n : Str} (h : locC sc n = true) : Loc X.env.scope n := by rw [x.hsc]; exact locC_iff h
theorem SOk.sto (x : SOk g N k sc W X) : Sto X sc := fun n h => ⟨x.loc h, .inl (x.fn n)⟩
theorem noSole {tg e : Expr} {l : Nat} {env : PySem.Env} (h : isComp e = false) : swapsWithSole [tg] e l env = pure false := noSwap h

/-! ### assignments -/
theorem t_set {e : Expr} {e' : Ex} {i : Nat} {D : Ends} {τ : St} {H : Hp} (h : tS g W (exS cx (.set (.var i) e')) D τ H) : tAsg (tE g W (den cx e').e) (gName i) D τ H := by
  obtain ⟨σ, S, φ, r, rE, p⟩ := h
  refine use_eS r rE Ext.refl (f := fun v S1 => if i < σ.length then .ok (.nx (σ.set i (some (alloc v S1).1))) (alloc v S1).2 else .bad) p fun t1 S1 H1 φ1 v1 e1 r1 m1 f1 p1 => ?_
  by_cases hi : i < σ.length
  · rw [if_pos hi] at p1
    obtain ⟨φ3, e3, l3, r3, m3⟩ := alloc_ok e1 r1 m1 f1
    exact p1 H1 φ3 e3 r3 _ ((rE.ext e3).set m3)
  · rw [if_neg hi] at p1
    exact (show False from p1).elim
theorem st_set {e : Expr} {e' : Ex} {i : Nat} {n : Str} {py pos : Pos} (x : SOk g N k sc W X) (hl : locC sc n = true) (hi : slot N n = some i) (hc : isComp e = false) (he : PB g W X e (den cx e')) : PS X (.Assign [.Name n py] e pos) (tS g W (exS cx (.set (.var i) e'))) :=
  PSimp (ps_set (by rw [x.hN]; exact x.nd) (by rw [x.hN]; exact slot_at hi) (x.loc hl) he.1 (noSwap hc) (.inl (x.fn n))) fun D τ H h => t_set (e := e) h
theorem st_setLc {el tg iter : Expr} {ifs : List Expr} {scope : Scope} {t : Tg} {p : Ik × List Ex} {cs : List Ex} {e' : Ex} {i : Nat} {n : Str} {py pos spos : Pos} (x : SOk g N k sc W X) (hi : slot N n = some i)
    (hloc : sc.names.lookup n = some .local) (hk : sc.kind = .function) (hln : (py.line == pos.line) = true) (hany : (scope.names.any fun (m, k) => m == n && (k == .local || k == .cell)) = false) (L : LcOk g N k sc W X cx el tg iter ifs scope t p cs e') :
    PS X (.Assign [.Name n py] (.ListComp el [⟨tg, iter, ifs, 0⟩] scope pos) spos) (tS g W (exS cx (.set (.var i) (.lc t p.1 p.2 cs e' ((ownOf N scope).map (·.2)))))) := by
  refine PSimp (ps_setLc x.calm (by rw [x.hN]; exact x.nd) (by rw [x.hN]; exact slot_at hi) (by rw [x.hsc]; exact hloc) (sw_true (by rw [x.hsc]; exact hk) (by rw [x.hsc]; exact hloc) hln hany) L.it L.ok L.tg L.ts L.el (noFold L.set)) fun D τ H h => ?_
  exact lc_read L.sub τ H _ (t_set (e := el) h)
theorem pg_seq {es : List Expr} {j : Nat} {t : TGs} {n : Nat} {pos : Pos} (hc : X.calm = true) (h : PGs X es t) (hn : (assignEach es X.env).length = n) (hst : (assignEach es X.env).findIdx? (·.1) = none) :
    PG X (.Tuple es j pos) (fun v σ H Q => gTup X.K n t v σ H Q ∨ gLst X.K n t v σ H Q) :=
  ⟨fun pins s σ H v u Q I r q => q.elim ((pg_tup hc h hn hst).run pins s σ H v u Q I r) ((pg_lst hc h hn hst).run pins s σ H v u Q I r)⟩
theorem bindTs_len : ∀ {ts : List Tg} {ds : List D} {σ σ' : Ev.Env}, bindTs ts ds σ = some σ' → ts.length = ds.length := by
  intro ts
  induction ts with
  | nil => intro ds σ σ' h; cases ds <;> simp_all [bindTs]
  | cons t ts ih =>
    intro ds σ σ' h
    cases ds with
    | nil => simp [bindTs] at h
    | cons d ds =>
      simp only [bindTs] at h
      obtain ⟨σ2, _, h⟩ := opt_bind h
      simp [ih h]
theorem st_tup {es : List Expr} {ts : List Tg} {e : Expr} {e' : Ex} {j m : Nat} {py pos : Pos} (x : SOk g N k sc W X) (ht : cTgs N sc m es = some ts) (hc : isComp e = false) (hu : isTup e = false) (he : PB g W X e (den cx e')) :
    PS X (.Assign [.Tuple es j py] e pos) (tS g W (exS cx (.set (.tup ts) e'))) := by
  obtain ⟨l1, l2⟩ := cTgs_len m es ts ht
  refine PSimp (ps_asg he.1 (pg_seq x.calm (s_tgs x.hN x.nd x.calm x.K x.sto m es ts ht) (l2 X.env).1 (l2 X.env).2) (noSole hc) (noStores hu) rfl) fun D τ H h => ?_
  obtain ⟨σ, S, φ, r, rE, p⟩ := h
  refine use_eS r rE Ext.refl (f := fun v S1 => match v with
        | .v (.tup ds) => (ofO S1 (bindTs ts ds σ)).map Fl.nx
        | v => (ofO S1 ((lstR S1 v).bind fun ds => bindTs ts ds σ)).map Fl.nx) p fun t1 S1 H1 φ1 v1 e1 r1 m1 f1 p1 => ?_
  split at p1
  · obtain ⟨σ', hb, p2⟩ := PostS.ofO p1
    cases m1 with
    | tup h1 h2 =>
      refine .inl ⟨_, _, rfl, by rw [x.K]; exact h1, ?_, σ, φ1, _, σ', rE.ext e1, h2, hb, fun τ' rE' _ _ => p2 H1 φ1 e1 r1 τ' rE'⟩
      rw [← h2.length, ← bindTs_len hb, l1]
  · obtain ⟨σ', hb, p2⟩ := PostS.ofO p1
    obtain ⟨ds, hd, hb⟩ := opt_bind hb
    obtain ⟨q, vs, rfl, h1, h2⟩ := m1.lstR r1 hd
    refine .inr ⟨_, _, rfl, by rw [x.K]; exact h1, ?_, σ, φ1, ds, σ', rE.ext e1, h2, hb, fun τ' rE' _ _ => p2 H1 φ1 e1 r1 τ' rE'⟩
    rw [← h2.length, ← bindTs_len hb, l1]
theorem asgSub {o i : Expr} {pos : Pos} {env : PySem.Env} (h : isSlice i = false) : ∀ v, assign (.Subscript o i pos) env v = (do
      let ov ← holding [v] (eval o env)
      let iv ← holding [v, ov] (eval i env)
      standAt pos
      holding [v, ov, iv] (setItem ov iv v)
      release [v, ov, iv] []) := by
  intro v
  cases i <;> first | rfl | cases h
theorem st_sub {o i e : Expr} {o' i' e' : Ex} {py pos : Pos} (x : SOk g N k sc W X) (hs : isSlice i = false) (hc : isComp e = false) (he : PB g W X e (den cx e')) (ho : PB g W X o (den cx o')) (hi : PB g W X i (den cx i')) :
    PS X (.Assign [.Subscript o i py] e pos) (tS g W (exS cx (.sub o' i' e'))) := by
  refine PSimp (ps_asg he.1 (pg_sub ho.1 hi.1 set_list (asgSub hs)) (noSole hc) rfl rfl) fun D τ H h => ?_
  obtain ⟨σ, S, φ, r, rE, p⟩ := h
  replace p : PostS g W H φ D (((den cx e').e σ S).alloc.cat σ fun v S1 => ((den cx o').e σ S1).cat σ fun ov S2 => ((den cx i').e σ S2).cat σ fun iv S3 => match ov, iv with
      | .v (.ref n), .v (.int k) => match S3[n]? with
        | some (.lst ds) => match ixN ds.length k with
          | some j => .ok (.nx σ) (S3.set n (.lst (ds.set j v)))
          | none => .bad
        | _ => .bad
      | _, _ => .bad) := p
  rw [alloc_cat] at p
  refine use_eS r rE Ext.refl p fun t1 S1 H1 φ1 v1 e1 r1 m1 f1 p1 => ?_
  obtain ⟨φ2, e2, l2, r2, m2⟩ := alloc_ok e1 r1 m1 f1
  refine use_eS r2 (rE.ext e2) e2 p1 fun t3 S3 H3 φ3 v3 e3 r3 m3 f3 p3 => ?_
  refine use_eS r3 (rE.ext (e2.trans e3)) (e2.trans e3) p3 fun t4 S4 H4 φ4 v4 e4 r4 m4 f4 p4 => ?_
  split at p4
  · rename_i n kk
    split at p4
    · rename_i ds hds
      split at p4
      · rename_i j hj
        cases m4
        cases m3 with
        | ref hn =>
          obtain ⟨a, ho', k1, k2, vs, rfl, k3⟩ := r4.at_ n _ hds rfl
          rw [e4.pre _ _ hn] at k1; cases k1
          obtain ⟨e5, r5⟩ := put_lst (vs' := vs.set j v1) r4 (e4.pre _ _ hn) hds (k3.set j (m2.ext (e3.trans e4).toLe))
          exact ⟨_, vs, kk, j, rfl, rfl, k2, by rw [← k3.length]; exact hj, p4 _ φ4 (((e2.trans e3).trans e4).trans e5) r5 τ (rE.ext (((e2.trans e3).trans e4).trans e5))⟩
      · exact (show False from p4).elim
    · exact (show False from p4).elim
  · exact (show False from p4).elim
theorem st_fld {o e : Expr} {o' e' : Ex} {f : Str} {j : Nat} {py pos : Pos} (x : SOk g N k sc W X) (G : GOk g cx) (hj : g.T.flds[j]? = some f) (hc : isComp e = false) (he : PB g W X e (den cx e')) (ho : PB g W X o (den cx o')) :
    PS X (.Assign [.Attribute o f py] e pos) (tS g W (exS cx (.fldS o' j e'))) := by
  refine PSimp (ps_fld ho.1 he.1 (noSwap hc)) fun D τ H h => ?_
  obtain ⟨σ, S, φ, r, rE, p⟩ := h
  replace p : PostS g W H φ D (((den cx e').e σ S).alloc.cat σ fun v S1 => ((den cx o').e σ S1).cat σ fun ov S2 => match ov with
      | .v (.ref n) => match S2[n]? with
        | some (.ins c fs) => if cx.at_ c j = true ∧ fs.length < 1000 then .ok (.nx σ) (S2.set n (.ins c (putN j v fs))) else .bad
        | _ => .bad
      | _ => .bad) := p
  rw [alloc_cat] at p
  refine use_eS r rE Ext.refl p fun t1 S1 H1 φ1 v1 e1 r1 m1 f1 p1 => ?_
  obtain ⟨φ2, e2, l2, r2, m2⟩ := alloc_ok e1 r1 m1 f1
  refine use_eS r2 (rE.ext e2) e2 p1 fun t3 S3 H3 φ3 v3 e3 r3 m3 f3 p3 => ?_
  split at p3
  · rename_i n
    split at p3
    · rename_i c fs hfs
      split at p3
      · rename_i hcond
        cases m3 with
        | ref hn =>
          obtain ⟨a, ho', k1, k2, k3⟩ := r3.at_ n _ hfs rfl
          rw [hn] at k1; cases k1
          obtain ⟨dx, ws, rfl, q1, q2, q3⟩ := id k3
          have hlt : j < g.T.flds.length := (List.getElem?_eq_some_iff.mp hj).1
          have hfn : g.fn j = f := by
            have := fn_at hlt
            rw [hj] at this
            exact (Option.some.inj this).symm
          obtain ⟨c1, c2⟩ := G.at_ c j hcond.1
          have hput := flds_put (f := j) G.nd hlt (m2.ext e3.toLe) q1 q2 q3
          have e5 := Ext.put (u := .ins (g.ca c) dx (putF f v1 ws)) r3 hn k2 k3
          rw [hfn] at hput
          refine ⟨_, _, dx, ws, rfl, k2, by rw [x.K]; exact c1, by rw [x.K, ← hfn]; exact c2, ?_, ?_⟩
          · have hl1 : ws.length = fs.length := by
              have := congrArg List.length q1
              simpa using this
            rw [hl1]; exact hcond.2
          · have r5 := Rel.put (o' := .ins c (putN j (alloc t1 S1).1 fs)) (u := .ins (g.ca c) dx (putF f v1 ws)) r3 hfs hn k2 k3 ⟨dx, _, rfl, hput⟩
            exact p3 _ φ3 ((e2.trans e3).trans e5) r5 τ (rE.ext ((e2.trans e3).trans e5))
      · exact (show False from p3).elim
    · exact (show False from p3).elim
  · exact (show False from p3).elim
end
end Ev
set_option Elab.async false
set_option linter.all false
set_option maxRecDepth 100000
set_option autoImplicit false
set_option maxHeartbeats 4000000
/-! Ev, part O: the other statements. -/
namespace Ev
open PySem L2
section
variable {g : G} {N : List Str} {k : Nat} {sc : Scope} {W : WX} {X : Cx} {cx : Cxt}
theorem ipBy {op : Operator} {o : Op2} (ho : binC op = some o) (h : o = .add ∨ o = .sub) : PIp X op (ipI fun i j => (opI o i j).getD 0) := by
  rcases h with rfl | rfl
  · rw [binC_add ho]; exact ip_add
  · have : op = .Sub := by cases op <;> simp_all [binC]
    rw [this]; exact ip_sub
theorem st_aug {e : Expr} {e' : Ex} {i : Nat} {n : Str} {op : Operator} {o : Op2} {py pos : Pos} (x : SOk g N k sc W X) (hl : locC sc n = true) (hi : slot N n = some i) (ho : binC op = some o) (hp : o = .add ∨ o = .sub) (he : PB g W X e (den cx e')) :
    PS X (.AugAssign (.Name n py) op e pos) (tS g W (exS cx (.aug i o e'))) := by
  refine PSimp (ps_aug (by rw [x.hN]; exact x.nd) (by rw [x.hN]; exact slot_at hi) (x.loc hl) he.1 (ipBy ho hp) (.inl (x.fn n))) fun D τ H h => ?_
  obtain ⟨σ, S, φ, r, rE, p⟩ := h
  replace p : PostS g W H φ D (match σ[i]?.join with
      | some (.int x) => ((den cx e').e σ S).cat σ fun v S1 => match v with
        | .v (.int y) => match opI o x y with
          | some z => if o = .add ∨ o = .sub then .ok (.nx (σ.set i (some (.int z)))) S1 else .bad
          | none => .bad
        | _ => .bad
      | _ => .bad) := p
  split at p
  · rename_i z hz
    have hσ : σ[i]? = some (some (.int z)) := by
      cases hq : σ[i]? with
      | none => rw [hq] at hz; cases hz
      | some u => rw [hq] at hz; cases u with
        | none => cases hz
        | some d' => cases hz; rfl
    obtain ⟨v, h1, h2⟩ := rE.at_ i _ hσ
    cases h2
    refine ⟨_, h1, use_eS r rE Ext.refl p fun t1 S1 H1 φ1 v1 e1 r1 m1 f1 p1 => ?_⟩
    split at p1
    · rename_i y
      split at p1
      · rename_i w hw
        rw [if_pos hp] at p1
        cases m1
        refine ⟨z, y, rfl, rfl, ?_⟩
        show D.nx (τ.set i (some (.int ((opI o z y).getD 0)))) H1
        rw [hw]
        exact p1 H1 φ1 e1 r1 _ ((rE.ext e1).set (.int w))
      · exact (show False from p1).elim
    · exact (show False from p1).elim
  · exact (show False from p).elim
theorem st_par {a b : Expr} {a' b' : Ex} {i j : Nat} {n m : Str} {px py pt p2 pos : Pos} {kt k2 : Nat} (x : SOk g N k sc W X) (hi : slot N n = some i) (hj : slot N m = some j) (h1 : sc.names.lookup n = some .local) (h2 : sc.names.lookup m = some .local)
    (hw : swappedStores [.Tuple [.Name n px, .Name m py] kt pt] (.Tuple [a, b] k2 p2) X.env = pure (some [n, m])) (hne : n ≠ m) (ha : PA X [a, b] (tD g W (ded cx [a', b']))) :
    PS X (.Assign [.Tuple [.Name n px, .Name m py] kt pt] (.Tuple [a, b] k2 p2) pos) (tS g W (exS cx (.par [i, j] [a', b']))) := by
  have hij : i ≠ j := fun z => hne (by
    have q1 := slot_at hi
    have q2 := slot_at hj
    rw [z, q2] at q1
    exact (Option.some.inj q1).symm)
  refine PSimp (ps_par x.calm (by rw [x.hN]; exact x.nd) (by rw [x.hN]; exact slot_at hi) (by rw [x.hN]; exact slot_at hj) hij (by rw [x.hsc]; exact h1) (by rw [x.hsc]; exact h2) ha hw rfl) fun D τ H h => ?_
  obtain ⟨σ, S, φ, r, rE, p⟩ := h
  replace p : PostS g W H φ D ((ded cx [a', b'] σ S).cat σ fun ds S1 => (ofO S1 (bindTs ([i, j].map Tg.var) ds σ)).map Fl.nx) := p
  refine use_dS r rE Ext.refl p fun ds S1 H1 φ1 vs e1 r1 m1 p1 => ?_
  obtain ⟨σ', hb, p2⟩ := PostS.ofO p1
  cases m1 with
  | nil => simp [bindTs] at hb
  | cons q1 m1 =>
    cases m1 with
    | nil => simp [bindTs, bindT] at hb
    | cons q2 m1 =>
      cases m1 with
      | cons _ _ => simp [bindTs, bindT] at hb
      | nil =>
        refine ⟨_, _, rfl, p2 H1 φ1 e1 r1 _ ?_⟩
        simp only [List.map_cons, List.map_nil, bindTs, bindT] at hb
        split at hb
        · simp only [Option.bind_some] at hb
          split at hb
          · simp only [Option.bind_some, Option.some.injEq] at hb
            subst hb
            exact ((rE.ext e1).set q1).set q2
          · cases hb
        · cases hb

/-! ### plain statements -/
theorem st_ex {e : Expr} {e' : Ex} {pos : Pos} (hc : isComp e = false) (he : PB g W X e (den cx e')) : PS X (.Expr e pos) (tS g W (exS cx (.ex e'))) := by
  refine PSimp (ps_expr he.1 (noSwap hc)) fun D τ H h => ?_
  obtain ⟨σ, S, φ, r, rE, p⟩ := h
  exact use_eS (f := fun _ S1 => .ok (.nx σ) S1) r rE Ext.refl p fun t1 S1 H1 φ1 v1 e1 r1 m1 f1 p1 => p1 H1 φ1 e1 r1 τ (rE.ext e1)
theorem st_ret {e : Expr} {e' : Ex} {pos : Pos} (he : PB g W X e (den cx e')) : PS X (.Return (some e) pos) (tS g W (exS cx (.ret e'))) := by
  refine PSimp (ps_ret he.1) fun D τ H h => ?_
  obtain ⟨σ, S, φ, r, rE, p⟩ := h
  replace p : PostS g W H φ D (((den cx e').e σ S).alloc.cat σ fun d S1 => .ok (.rt d) S1) := p
  rw [alloc_cat] at p
  refine use_eS r rE Ext.refl p fun t1 S1 H1 φ1 v1 e1 r1 m1 f1 p1 => ?_
  obtain ⟨φ2, e2, l2, r2, m2⟩ := alloc_ok e1 r1 m1 f1
  exact p1 H1 φ2 e2 r2 v1 m2
theorem st_retN {pos : Pos} : PS X (.Return none pos) (tS g W (exS cx .retN)) := PSimp ps_retN fun D τ H ⟨σ, S, φ, r, rE, p⟩ => p H φ Ext.refl r .non .non
theorem st_doc {z j} {p pos : Pos} : PS X (.Expr (.Constant (.str z) j p) pos) (tS g W (exS cx .nop)) := PSimp ps_doc fun D τ H ⟨σ, S, φ, r, rE, p⟩ => p H φ Ext.refl r τ rE
theorem st_pass {pos : Pos} : PS X (.Pass pos) (tS g W (exS cx .nop)) := PSimp ps_pass fun D τ H ⟨σ, S, φ, r, rE, p⟩ => p H φ Ext.refl r τ rE
theorem st_brk {pos : Pos} : PS X (.Break pos) (tS g W (exS cx .brk)) := PSimp ps_break fun D τ H ⟨σ, S, φ, r, rE, p⟩ => p H φ Ext.refl r τ rE
theorem st_cnt {pos : Pos} : PS X (.Continue pos) (tS g W (exS cx .cnt)) := PSimp ps_continue fun D τ H ⟨σ, S, φ, r, rE, p⟩ => p H φ Ext.refl r τ rE
theorem st_die {st : Stmt} : PS X st (tS g W (exS cx .die)) := PSimp ps_never fun D τ H ⟨σ, S, φ, r, rE, p⟩ => p

/-! ### blocks, choices, loops -/
theorem st_nil : PSs X [] (tS g W (exSs cx [])) := PSsimp pss_nil fun D τ H ⟨σ, S, φ, r, rE, p⟩ => p H φ Ext.refl r τ rE
theorem st_cons {st : Stmt} {rest : List Stmt} {s' : Sx} {r' : List Sx} (h1 : PS X st (tS g W (exS cx s'))) (h2 : PSs X rest (tS g W (exSs cx r'))) : PSs X (st :: rest) (tS g W (exSs cx (s' :: r'))) := by
  refine PSsimp (pss_cons h1 h2) fun D τ H h => ?_
  obtain ⟨σ, S, φ, r, rE, p⟩ := h
  refine ⟨σ, S, φ, r, rE, ?_⟩
  replace p : PostS g W H φ D ((exS cx s' σ S).bind fun f S1 => match f with
      | .nx σ1 => exSs cx r' σ1 S1
      | f => .ok f S1) := p
  generalize exS cx s' σ S = r0 at p ⊢
  cases r0 with
  | bad => exact p
  | ex c dd S1 => exact p
  | ok f S1 =>
    cases f with
    | nx σ1 => exact fun H' φ' e' r1 τ1 rE1 => ⟨σ1, S1, φ', r1, rE1, PostS.shift e' p⟩
    | rt d => exact p
    | bk σ1 => exact p
    | ct σ1 => exact p
    | xc σ1 c dd => exact p
theorem st_ite {c : Expr} {a b : List Stmt} {c' : Ex} {a' b' : List Sx} {pos : Pos} (hc : PB g W X c (den cx c')) (ha : PSs X a (tS g W (exSs cx a'))) (hb : PSs X b (tS g W (exSs cx b'))) : PS X (.If c a b pos) (tS g W (exS cx (.ite c' a' b'))) := by
  refine PSimp (ps_if hc.2 ha hb) fun D τ H h => ?_
  obtain ⟨σ, S, φ, r, rE, p⟩ := h
  refine use_tS (f := fun y S1 => if y = true then exSs cx a' σ S1 else exSs cx b' σ S1) r rE Ext.refl p fun y S1 H1 φ1 e1 r1 p1 => ?_
  cases y with
  | true => rw [if_pos rfl] at p1 ⊢; exact ⟨σ, S1, φ1, r1, rE.ext e1, PostS.shift e1 p1⟩
  | false => rw [if_neg Bool.false_ne_true] at p1 ⊢; exact ⟨σ, S1, φ1, r1, rE.ext e1, PostS.shift e1 p1⟩
theorem frL_gd {H : Hp} {φ : List Addr} {Dn : Ends} {bnd : D → Ev.Env → Option Ev.Env} {body : Ev.Env → Store → R Fl} {gd : Store → Bool} {items : List Ev.D} {σ : Ev.Env} {S : Store} (p : PostS g W H φ Dn (frL bnd body gd items σ S)) : gd S = true := by
  by_cases h : gd S = true
  · exact h
  · cases items with
    | nil =>
      unfold frL at p
      rw [if_neg h] at p
      exact (show False from p).elim
    | cons d ds =>
      unfold frL at p
      rw [if_neg h] at p
      exact (show False from p).elim
theorem st_for {tg iter : Expr} {b : List Stmt} {t : Tg} {pr : Ik × List Ex} {b' : List Sx} {m : Nat} {pos : Pos} (x : SOk g N k sc W X) (hs : isSet iter = false) (ht : cTg N sc m tg = some t) (hi : PI X tg iter (rIt g W pr.1 (dens cx pr.2))) (hb : PSs X b (tS g W (exSs cx b'))) :
    PS X (.For tg iter b [] pos) (tS g W (exS cx (.fr t pr.1 pr.2 b'))) := by
  refine PSimp (ps_for x.pass x.calm hi (s_tg x.hN x.nd x.calm x.K x.sto m tg t ht) hb (noFold hs)) fun D τ H h => ?_
  obtain ⟨σ, S, φ, r, rE, p⟩ := h
  replace p : PostS g W H φ D ((dens cx pr.2 σ S).cat σ fun ts S1 => match iterOf S1 pr.1 ts with
      | none => .bad
      | some p => frL (bindT t) (exSs cx b') p.2 p.1 σ S1) := p
  refine ⟨σ, S, φ, r, rE, Post.mono (PostS.cat Ext.refl rE p) fun ts S1 H1 φ1 e1 r1 p1 => ?_⟩
  split at p1
  · exact (show False from p1).elim
  rename_i q hq
  refine ⟨q, hq, fun J w hz => ?_⟩
  refine for_it w (fun i τ' Hc => ∃ σ' Sc φc, Rel g Hc φc Sc ∧ RelE g Hc φc σ' τ' ∧ Ext g H1 φ1 Hc φc ∧ PostS g W H φ D (frL (bindT t) (exSs cx b') q.2 (q.1.drop i) σ' Sc)) ?_ ?_ ?_ ?_
  · exact ⟨σ, S1, φ1, r1, rE.ext e1, Ext.refl, p1⟩
  · rintro i τ' Hc hi ⟨σ', Sc, φc, rc, rEc, ec, pc⟩
    exact ⟨Sc, φc, rc, frL_gd pc, ec⟩
  · rintro i v τ' Hc H' hi ⟨σ', Sc, φc, rc, rEc, ec, pc⟩ y
    have hgd := frL_gd pc
    obtain ⟨eY, rY, d, hdi, mY⟩ := y Sc φc rc hgd ec
    have hdrop : q.1.drop i = d :: q.1.drop (i + 1) := by
      rw [List.drop_eq_getElem_cons hi]
      rw [List.getElem?_eq_getElem hi] at hdi
      rw [Option.some.inj hdi]
    rw [hdrop] at pc
    unfold frL at pc
    rw [if_pos hgd] at pc
    split at pc
    · exact (show False from pc).elim
    rename_i σ2 hb2
    refine ⟨σ', φc, d, σ2, rEc.ext eY, mY, hb2, fun τ2 rE2 _ _ => ⟨σ2, Sc, φc, rY, rE2, ?_⟩⟩
    generalize exSs cx b' σ2 Sc = r0 at pc ⊢
    cases r0 with
    | bad => exact pc
    | ex c dd S3 => exact pc
    | ok f S3 =>
      cases f with
      | nx σ3 => exact fun H3 φ3 e3 r3 τ3 rE3 => ⟨σ3, S3, φ3, r3, rE3, (ec.trans eY).trans e3, pc⟩
      | ct σ3 => exact fun H3 φ3 e3 r3 τ3 rE3 => ⟨σ3, S3, φ3, r3, rE3, (ec.trans eY).trans e3, pc⟩
      | bk σ3 => exact fun H3 φ3 e3 r3 τ3 rE3 => pc H3 φ3 (((e1.trans ec).trans eY).trans e3) r3 τ3 rE3
      | rt d => exact fun H3 φ3 e3 r3 v m => pc H3 φ3 (((e1.trans ec).trans eY).trans e3) r3 v m
      | xc σ3 c dd => exact fun H3 φ3 e3 r3 τ3 dx rE3 xm => pc H3 φ3 (((e1.trans ec).trans eY).trans e3) r3 τ3 dx rE3 xm
  · rintro τ' Hc ⟨σ', Sc, φc, rc, rEc, ec, pc⟩
    have hgd := frL_gd pc
    rw [List.drop_length] at pc
    unfold frL at pc
    rw [if_pos hgd] at pc
    exact pc Hc φc (e1.trans ec) rc τ' rEc
theorem st_whl {c : Expr} {b : List Stmt} {c' : Ex} {b' : List Sx} {pos : Pos} (x : SOk g N k sc W X) (hc : PB g W X c (den cx c')) (hb : PSs X b (tS g W (exSs cx b'))) : PS X (.While c b [] pos) (tS g W (exS cx (.whl c' b'))) := by
  refine PSimp (ps_while x.pass hc.2 hb) fun D τ H h => ?_
  obtain ⟨σ, S, φ, r, rE, p⟩ := h
  replace p : PostS g W H φ D (whE (fun σ S => (den cx c').b σ S) (exSs cx b') σ S) := p
  unfold whE at p
  split at p
  rotate_left
  · exact (show False from p).elim
  rename_i hex
  have hsp := hex.choose_spec.choose_spec
  refine ⟨fun m τ' H' => ∃ σ' S' φ', Rel g H' φ' S' ∧ RelE g H' φ' σ' τ' ∧ Ext g H φ H' φ' ∧ ∃ r, whN (fun σ S => (den cx c').b σ S) (exSs cx b') m σ' S' = some r ∧ PostS g W H φ D r, ⟨_, σ, S, φ, r, rE, Ext.refl, _, hsp, p⟩, ?_⟩
  rintro m τ' H' ⟨σ', S', φ', r', rE', e', rr, hw, pp⟩
  cases m with
  | zero => cases hw
  | succ n =>
    unfold whN at hw
    refine ⟨σ', S', φ', r', rE', ?_⟩
    generalize (den cx c').b σ' S' = rc at hw ⊢
    cases rc with
    | bad => cases hw; exact (show False from pp).elim
    | ex cc dd S1 =>
      cases hw
      exact fun H2 φ2 dx e2 r2 xm => pp H2 φ2 (e'.trans e2) r2 τ' dx (rE'.ext e2) xm
    | ok y S1 =>
      cases y with
      | false =>
        cases hw
        intro H2 φ2 e2 r2
        dsimp only
        rw [if_neg Bool.false_ne_true]
        exact pp H2 φ2 (e'.trans e2) r2 τ' (rE'.ext e2)
      | true =>
        intro H2 φ2 e2 r2
        dsimp only
        rw [if_pos rfl]
        refine ⟨fun τ3 H3 => ∃ σ' S' φ', Rel g H3 φ' S' ∧ RelE g H3 φ' σ' τ3 ∧ Ext g H φ H3 φ' ∧ ∃ r, whN (fun σ S => (den cx c').b σ S) (exSs cx b') n σ' S' = some r ∧ PostS g W H φ D r, fun τ3 H3 q => ⟨n, Nat.lt_succ_self n, q⟩, σ', S1, φ2, r2, rE'.ext e2, ?_⟩
        dsimp only at hw
        generalize exSs cx b' σ' S1 = rb at hw ⊢
        cases rb with
        | bad => cases hw; exact pp
        | ex cc dd S3 => cases hw; exact pp
        | ok f S3 =>
          cases f with
          | nx σ3 => exact fun H3 φ3 e3 r3 τ3 rE3 => ⟨σ3, S3, φ3, r3, rE3, (e'.trans e2).trans e3, rr, hw, pp⟩
          | ct σ3 => exact fun H3 φ3 e3 r3 τ3 rE3 => ⟨σ3, S3, φ3, r3, rE3, (e'.trans e2).trans e3, rr, hw, pp⟩
          | bk σ3 => cases hw; exact fun H3 φ3 e3 r3 τ3 rE3 => pp H3 φ3 ((e'.trans e2).trans e3) r3 τ3 rE3
          | rt d => cases hw; exact fun H3 φ3 e3 r3 v m => pp H3 φ3 ((e'.trans e2).trans e3) r3 v m
          | xc σ3 cc dd => cases hw; exact fun H3 φ3 e3 r3 τ3 dx rE3 xm => pp H3 φ3 ((e'.trans e2).trans e3) r3 τ3 dx rE3 xm
end
end Ev
set_option Elab.async false
set_option linter.all false
set_option maxRecDepth 100000
set_option autoImplicit false
set_option maxHeartbeats 4000000
/-! Ev, part P: raise, try; the theorem for all statements. -/
namespace Ev
open PySem L2 PySem.Spec PyProof.Rows
section
variable {g : G} {N : List Str} {k : Nat} {sc : Scope} {W : WX} {X : Cx} {cx : Cxt}
theorem pmk_own0 {C : Addr} {bmB : List Value} {B newId initId : String} {x : Str} {p pos : Pos} (F : ExcBaseFacts B newId initId bmB) (q : PySem.W.excIn X.K C bmB newId = true) (gC : X.mg x = some (.ref C))
    (kC : PySem.W.keepIn X.K (.ref C) = true) (r : Raises X (.ref C)) (hg : Gl X x) (hdb : (x == ("__debug__" : Str)) = false) : PMk X (.Call (.Name x p) [] [] pos) (fun _ H Q => Q (.ref C) none H) := by
  intro pins s σ H Q I h
  refine wpAny_Call_Name_kw (ld_glob I hg gC ?_ hdb)
  refine PySem.W.callWith_K0 I.kIn kC ?_
  show wpAny _ _ (call (.ref C) []) _ _ _
  obtain ⟨bm, N, nm, qn, bs, hdct, sn, sub, ab, col, dd, k0, k1, k2, k3, k5, mN, hC, hN, hni, T⟩ := exc_obj I.kIn q
  refine wpAny_call_exc_subT F T hC hN hni (fun h' e hm => ?_) (Nat.zero_le _)
  exact mk_of I hm r h (I.hok.gone hm.new)
theorem st_rse {n : Str} {c : Nat} {p p2 pos : Pos} (x : SOk g N k sc W X) (G : GOk g cx) (hg : glC sc n = true) (ho : okN n = true) (hn : g.T.clss.lookup n = some c) : PS X (.Raise (some (.Call (.Name n p) [] [] p2)) none pos) (tS g W (exS cx (.rse c []))) := by
  refine ⟨fun pins s τ H D I h => ?_⟩
  obtain ⟨σ, S, φ, r, rE, q⟩ := h
  replace q : PostS g W H φ D (if cx.rs c = true then .ok (.xc σ c []) S else .bad) := q
  by_cases hc : cx.rs c = true
  · rw [if_pos hc] at q
    obtain ⟨f0, f1, f2, f3, f4, f5⟩ := G.rs_ c hc
    rw [← x.K] at f2 f3 f4 f5
    refine (ps_raise x.calm x.tk (pmk_own0 PySem.F.excBase_ValueError f3 (by rw [x.mg]; exact G.cls_ _ _ hn) f2 (raises_own f4 f5) (x.gl hg) (okN_iff ho).1)).run pins s τ H D I ?_
    refine q H φ Ext.refl r τ none rE ?_
    unfold XEm
    rw [f1]
    exact ⟨rfl, rfl⟩
  · rw [if_neg hc] at q
    exact (show False from q).elim

/-! ### except suites -/
/-- what a suite answers -/
def tsu (g : G) (cx : Cxt) (i : Nat) (su : List Nat) : Addr → Value → Option Addr → TS := fun a cls d D τ H => ∃ c, cls = .ref (g.ca c) ∧ cx.xi c = true ∧ d = none ∧ τ[i]? = some (some (.ref a)) ∧ D.rt (.bl (su.all fun m => cx.sb c m)) H
/-- one question's reading -/
def tQ (i : Nat) (a : Addr) (b : Bool) : TE := fun τ H Q => τ[i]? = some (some (.ref a)) ∧ Q (.bl b) H
theorem su_one {n : Str} {i m c : Nat} {e : Expr} {a : Addr} {oe : Obj} {pn : List (Addr × Obj)} (x : SOk g N k sc W X) (G : GOk g cx) (hi : slot N n = some i) (hl : sc.names.lookup n = some .local) (ho : okN n = true) (hc : cx.xi c = true) (hz : Zc (.ref (g.ca c)) none oe) (hf : ∃ vs, oe.data = .fields vs)
    (h : cSi g.T sc n e = some m) : PE (X.suite a ((a, oe) :: pn)) e (tQ i a (cx.sb c m)) := by
  unfold cSi at h
  split at h
  · rename_i f p1 y p2 t p3 p4
    split at h
    · rename_i hcond
      simp only [Bool.and_eq_true, beq_iff_eq] at hcond
      obtain ⟨⟨⟨⟨hf1, hf2⟩, hy⟩, ht1⟩, ht2⟩ := hcond
      subst hf1
      subst hy
      obtain ⟨f6, f7⟩ := G.xi_ c hc
      have C : ExcC (X.suite a ((a, oe) :: pn)).K (g.ca c) := by
        show ExcC X.K (g.ca c)
        rw [x.K]; exact f6
      have pv : PE (X.suite a ((a, oe) :: pn)) (.Name y p2) (tVar i) := pe_var (by show X.N[i]? = _; rw [x.hN]; exact slot_at hi) (by show Vis X.env.scope y; rw [x.hsc]; exact .inl hl) (okN_iff ho).1 (okN_iff ho).2.1
      split at h
      · rename_i j hj
        cases h
        have pt : PE (X.suite a ((a, oe) :: pn)) (.Name t p3) (tC (.ref (g.ca m))) := pe_glob (v := .ref (g.ca m)) (x.gl ht1) (by show X.mg t = _; rw [x.mg]; exact G.cls_ _ _ hj) rfl (okN_iff ht2).1
        refine PEimp (pe_callB (call_isE C hz hf) (x.gl hf2) (by show X.mg _ = _; rw [x.mg]; exact G.blt_ _ (by decide +kernel)) (by decide +kernel) (pa_cons pv (pa_cons pt pa_nil rfl) rfl) (by decide +kernel) (by decide +kernel) rfl rfl) ?_
        rintro τ H Q ⟨h1, h2⟩
        refine ⟨_, h1, .ref (g.ca m), .ref (g.ca m), _, rfl, fun u hu => hu, ?_, h2⟩
        show PySem.W.kitOne X.K _ _ = _
        rw [x.K]
        exact (G.ex_ _ _ _ hc hj).1
      · split at h
        · rename_i hv
          cases h
          obtain ⟨_, rfl⟩ := hv
          have pt : PE (X.suite a ((a, oe) :: pn)) (.Name "ValueError" p3) (tC (.ty "ValueError")) := pe_bltn (v := .ty "ValueError") (x.gl ht1) (by show X.mg _ = _; rw [x.mg]; exact G.vn_) PyProof.Rows.Boot.«ValueError» rfl (by decide +kernel) (by decide +kernel)
          refine PEimp (pe_callB (call_isE C hz hf) (x.gl hf2) (by show X.mg _ = _; rw [x.mg]; exact G.blt_ _ (by decide +kernel)) (by decide +kernel) (pa_cons pv (pa_cons pt pa_nil rfl) rfl) (by decide +kernel) (by decide +kernel) rfl rfl) ?_
          rintro τ H Q ⟨h1, h2⟩
          refine ⟨_, h1, .ty "ValueError", .type "ValueError", _, rfl, fun u hu => hu, ?_, h2⟩
          show PySem.W.kitOne X.K _ _ = _
          rw [x.K]
          exact f7
        · cases h
    · cases h
  · cases h
theorem su_ok {n : Str} {i : Nat} {su : List Nat} {st : Stmt} {a : Addr} {oe : Obj} {cls : Value} {d : Option Addr} {pn : List (Addr × Obj)} (x : SOk g N k sc W X) (G : GOk g cx) (hi : slot N n = some i) (hl : sc.names.lookup n = some .local) (ho : okN n = true) (hz : Zc cls d oe) (hf : ∃ vs, oe.data = .fields vs)
    (h : cSu g.T sc n st = some su) : PSs (X.suite a ((a, oe) :: pn)) [st] (tsu g cx i su a cls d) := by
  refine ⟨fun pins s τ H D I q => ?_⟩
  obtain ⟨c, rfl, hc, rfl, hτ, q⟩ := q
  unfold cSu at h
  split at h
  · rename_i e1 e2 p1 p2
    obtain ⟨m1, h1, h⟩ := opt_bind h
    obtain ⟨m2, h2, rfl⟩ := opt_map h
    have P1 := su_one (a := a) (pn := pn) x G hi hl ho hc hz hf h1
    have P2 := su_one (a := a) (pn := pn) x G hi hl ho hc hz hf h2
    refine (pss_one (ps_ret (pe_and P1 (pe_one P2)))).run pins s τ H D I ?_
    refine ⟨hτ, cx.sb c m1, rfl, ?_⟩
    simp only [List.all_cons, List.all_nil, Bool.and_true] at q
    cases hb : cx.sb c m1 with
    | true =>
      rw [hb, Bool.true_and] at q
      rw [if_pos rfl]
      exact ⟨hτ, q⟩
    | false =>
      rw [hb, Bool.false_and] at q
      rw [if_neg Bool.false_ne_true]
      exact q
  · obtain ⟨m1, h1, rfl⟩ := opt_map h
    refine (pss_one (ps_ret (su_one (a := a) (pn := pn) x G hi hl ho hc hz hf h1))).run pins s τ H D I ⟨hτ, ?_⟩
    simpa using q
  · cases h
end
end Ev
set_option Elab.async false
set_option linter.all false
set_option maxRecDepth 100000
set_option autoImplicit false
set_option maxHeartbeats 4000000
/-! Ev, part Q: try; the theorem for all statements. -/
namespace Ev
open PySem L2 PySem.Spec PyProof.Rows
section
variable {g : G} {N : List Str} {k : Nat} {sc : Scope} {W : WX} {X : Cx} {cx : Cxt}
theorem SOk.tr (x : SOk g N k sc W X) {W' : WX} {pn : List (Addr × Obj)} {xe : Value → Shared → Prop} (tk : Takes (X.tr pn xe) W') (ps : PassesOwn (model X.prog X.w) X.A X.env xe) : SOk g N k sc W' (X.tr pn xe) :=
  ⟨⟨x.prog, x.hw, x.K, x.mg, x.base, x.hN, x.nd, x.hsc, x.room, x.calm, tk⟩, ps, x.fn, x.stk, x.frm⟩
theorem st_try {b : List Stmt} {b' : List Sx} {c i : Nat} {cs : List Nat} {n m : Str} {su : Stmt} {p p2 pos : Pos} (x : SOk g N k sc W X) (G : GOk g cx) (hg : glC sc m = true) (ho : okN m = true) (hl : sc.names.lookup n = some .local) (hon : okN n = true)
    (hc : g.T.clss.lookup m = some c) (hi : slot N n = some i) (hsu : cSu g.T sc n su = some cs) (hb : ∀ W' X', SOk g N k sc W' X' → PSs X' b (tS g W' (exSs cx b'))) :
    PS X (.Try b [.ExceptHandler (some (.Name m p)) (some n) [su] p2] [] [] pos) (tS g W (exS cx (.tr b' c i cs))) := by
  refine PSimp (ps_try_as (i := i) (c := .ref (g.ca c)) (tb := fun W' => tS g W' (exSs cx b')) (ts := tsu g cx i cs) x.stk x.frm (by rw [x.hN]; exact x.nd) (by rw [x.hN]; exact slot_at hi) (by show X.env.scope.names.lookup n = _; rw [x.hsc]; exact hl)
    ⟨x.gl hg, (okN_iff ho).1, .inl (by rw [x.mg]; exact G.cls_ _ _ hc)⟩ x.tk (fun W' pn xe tk ps => hb W' _ (x.tr tk ps)) (fun a oe cls d pn hz hf => su_ok x G hi hl hon hz hf hsu)) fun D τ H h => ?_
  obtain ⟨σ, S, φ, r, rE, q⟩ := h
  replace q : PostS g W H φ D (match exSs cx b' σ S with
      | .ok (.xc σ1 k dd) S1 => if cx.rs k = false ∨ cx.xi c = false ∨ σ1.length ≤ i then .bad else if cx.sb k c = true then .ok (.rt (.bl (cs.all fun m => cx.sb k m))) S1 else .ok (.xc σ1 k dd) S1
      | r => r) := q
  refine ⟨σ, S, φ, r, rE, ?_⟩
  generalize exSs cx b' σ S = r0 at q ⊢
  cases r0 with
  | bad => exact q
  | ex c dd S1 => exact q
  | ok f S1 =>
    cases f with
    | nx σ1 => exact q
    | rt d => exact q
    | bk σ1 => exact q
    | ct σ1 => exact q
    | xc σ1 kk dd =>
      dsimp only at q
      split at q
      · exact (show False from q).elim
      rename_i hn
      simp only [not_or, Bool.not_eq_false, Nat.not_le] at hn
      obtain ⟨hk, hcc, hlen⟩ := hn
      intro H' φ' e' r' τ' dx rE' xm
      refine ⟨cx.sb kk c, ?_, fun hb1 a ha => ?_, fun hb1 => ?_⟩
      · rw [x.K]
        exact (G.ex_ _ _ _ (G.rs_ kk hk).1 hc).2 hcc
      · rw [if_pos hb1] at q
        have hdx : dx = none := by
          unfold XEm at xm
          rw [(G.rs_ kk hk).2.1] at xm
          exact xm.2
        refine ⟨kk, rfl, (G.rs_ kk hk).1, hdx, List.getElem?_set_self (by rw [← rE'.len]; exact hlen), q H' φ' e' r' (.bl _) (.bl _)⟩
      · rw [hb1, if_neg Bool.false_ne_true] at q
        exact q H' φ' e' r' τ' dx rE' xm
theorem swaps_par {sc' : Scope} {env : PySem.Env} {a b : Expr} {n m : Str} {px py pt p2 : Pos} {kt k2 : Nat} (hs : env.scope = sc') (h1 : sc'.names.lookup n = some .local) (h2 : sc'.names.lookup m = some .local) (hk : sc'.kind = .function) (hl : (px.line == py.line) = true) (hne : n ≠ m) (sa : isStar a = false) (sb : isStar b = false) (fa : foldedForSure 8 a = false) (ka : constantsAlone 8 a = false) :
    swappedStores [.Tuple [.Name n px, .Name m py] kt pt] (.Tuple [a, b] k2 p2) env = pure (some [n, m]) := by
  have kn : env.kindOf n = some .local := by show env.scope.names.lookup n = _; rw [hs]; exact h1
  have km : env.kindOf m = some .local := by show env.scope.names.lookup m = _; rw [hs]; exact h2
  have hb : env.blockKind = .function := by unfold PySem.Env.blockKind; rw [hs, hk]; rfl
  have key : ∀ e : Expr, isStar e = false → (match e with | .Starred .. => true | _ => false) = false := fun e h => by cases e <;> first | rfl | cases h
  have hst : ([a, b].any fun | .Starred .. => true | _ => false) = false := by
    rw [List.any_cons, List.any_cons, List.any_nil]
    rw [key a sa, key b sb]
    rfl
  have hlines : (py.line == px.line) = true := by rw [beq_iff_eq] at hl ⊢; exact hl.symm
  have hnm : (n == m) = false := beq_eq_false_iff_ne.mpr hne
  have hmn : (m == n) = false := beq_eq_false_iff_ne.mpr (Ne.symm hne)
  unfold swappedStores
  simp only [List.length_cons, List.length_nil, hb, hst, kn, km, List.filterMap_cons, List.filterMap_nil, List.head?_cons, Option.map_some, Option.getD_some, Expr.pos, hlines, List.all_cons, List.all_nil, fa, ka, Bool.false_and, beq_self_eq_true, Bool.true_and, if_true, List.eraseDups_cons, List.filter_cons, List.filter_nil, hmn, hnm]
  have hd : [m].eraseDups = [m] := by simp [List.eraseDups_cons]
  rw [if_neg (by decide)]
  refine Eq.trans (if_neg fun z => Bool.false_ne_true (hst.symm.trans z)) ?_
  rw [if_neg, if_neg Bool.false_ne_true, if_neg Bool.false_ne_true]
  simp [hd]

/-! ### all statements -/
def StOk (g : G) (N : List Str) (k : Nat) (cx : Cxt) (n : Nat) : Prop := ∀ (sc : Scope) (W : WX) (X : Cx), SOk g N k sc W X → ∀ st st', cS g.T N n sc st = some st' → PS X st (tS g W (exS cx st'))
theorem st_all {n : Nat} (ih : StOk g N k cx n) (x : SOk g N k sc W X) : ∀ (b : List Stmt) (b' : List Sx), seqM (cD (cS g.T N n sc)) b = some b' → PSs X b (tS g W (exSs cx b'))
  | [], b', h => by cases h; exact st_nil
  | st :: b, b', h => by
    obtain ⟨s', h1, h2⟩ := opt_bind h
    obtain ⟨r', h3, rfl⟩ := opt_map h2
    refine st_cons ?_ (st_all ih x b r' h3)
    have h1' : some ((cS g.T N n sc st).getD .die) = some s' := h1
    cases hc : cS g.T N n sc st with
    | none =>
      rw [hc] at h1'
      cases h1'
      exact st_die
    | some z =>
      rw [hc] at h1'
      cases h1'
      exact ih _ _ _ x _ _ hc
theorem stOk_succ (G : GOk g cx) (C : COk g cx k) {n : Nat} (ih : StOk g N k cx n) : StOk g N k cx (n + 1) := by
  intro sc W X x st st' h
  have E : ∀ e e', cE g.T N 60 sc e = some e' → PB g W X e (den cx e') := fun e e' h => exOk G C 60 sc W X x.toXOk e e' h
  have B : ∀ b b', seqM (cD (cS g.T N n sc)) b = some b' → PSs X b (tS g W (exSs cx b')) := st_all ih x
  cases st with
  | Assign tgs e pos =>
    simp only [cS] at h
    split at h
    · split at h
      · rename_i nm py
        split at h
        · rename_i hl
          obtain ⟨i, h1, h⟩ := opt_bind h
          split at h
          · rename_i el gs scope p _
            split at h
            · rename_i hc
              simp only [Bool.and_eq_true, decide_eq_true_eq, Bool.not_eq_true'] at hc
              obtain ⟨⟨⟨c1, c2⟩, c3⟩, c4⟩ := hc
              obtain ⟨e', h2, rfl⟩ := opt_map h
              obtain ⟨m, hm⟩ : ∃ m : Nat, 60 = m + 1 := ⟨59, rfl⟩
              rw [hm] at h2
              have hgs : ∃ tg iter ifs, gs = [⟨tg, iter, ifs, 0⟩] := by
                simp only [cE] at h2
                split at h2
                · exact ⟨_, _, _, rfl⟩
                · cases h2
              obtain ⟨tg, iter, ifs, rfl⟩ := hgs
              obtain ⟨t, p, cs, el', rfl, L⟩ := lc_parts G (exOk G C m) x.toXOk h2
              exact st_setLc x h1 c1 c2 c3 c4 L
            · cases h
          · split at h
            · cases h
            · rename_i hc
              obtain ⟨e', h2, rfl⟩ := opt_map h
              exact st_set x hl h1 (by simpa using hc) (E _ _ h2)
        · cases h
      · rename_i ts kk py
        split at h
        · split at h
          · rename_i nm px m py' a b k2 p2 _
            split at h
            · rename_i hc
              simp only [Bool.and_eq_true, decide_eq_true_eq, Bool.not_eq_true', beq_eq_false_iff_ne, beq_iff_eq] at hc
              obtain ⟨⟨⟨⟨⟨⟨⟨⟨c1, c2⟩, c3⟩, c4⟩, c5⟩, c6⟩, c7⟩, c8⟩, c9⟩ := hc
              obtain ⟨i, h1, h⟩ := opt_bind h
              obtain ⟨j, h2, h⟩ := opt_bind h
              obtain ⟨a', h3, h⟩ := opt_bind h
              obtain ⟨b', h4, rfl⟩ := opt_map h
              have hst : ([a, b] : List Expr).any isStar = false := by simp [c6, c7]
              have hseq : seqM (cE g.T N 60 sc) [a, b] = some [a', b'] := by simp [seqM, h3, h4]
              exact st_par x h1 h2 c1 c2 (swaps_par x.hsc c1 c2 c3 (by simpa using c4) c5 c6 c7 c8 c9) c5 (s_args E _ _ hseq hst)
            · cases h
          · cases h
        · rename_i hu
          split at h
          · cases h
          · rename_i hc
            obtain ⟨t, h1, h⟩ := opt_bind h
            obtain ⟨e', h2, rfl⟩ := opt_map h
            obtain ⟨m9, hm9⟩ : ∃ m : Nat, 9 = m + 1 := ⟨8, rfl⟩
            rw [hm9] at h1
            simp only [cTg] at h1
            obtain ⟨ts', h3, rfl⟩ := opt_map h1
            exact st_tup x h3 (by simpa using hc) (by simpa using hu) (E _ _ h2)
      · rename_i o i py
        split at h
        · cases h
        · rename_i hc
          simp only [Bool.or_eq_true, not_or, Bool.not_eq_true] at hc
          obtain ⟨e', h1, h⟩ := opt_bind h
          obtain ⟨o', h2, h⟩ := opt_bind h
          obtain ⟨i', h3, rfl⟩ := opt_map h
          exact st_sub x hc.2 hc.1 (E _ _ h1) (E _ _ h2) (E _ _ h3)
      · rename_i o f py
        split at h
        · cases h
        · rename_i hc
          simp only [Bool.or_eq_true, not_or, Bool.not_eq_true] at hc
          split at h
          · split at h
            · rename_i hj
              obtain ⟨e', h1, h⟩ := opt_bind h
              obtain ⟨o', h2, rfl⟩ := opt_map h
              exact st_fld x G hj hc.1 (E _ _ h1) (E _ _ h2)
            · cases h
          · cases h
      · cases h
    · cases h
  | AugAssign tg o e pos =>
    simp only [cS] at h
    split at h
    · split at h
      · rename_i hl
        obtain ⟨i, h1, h⟩ := opt_bind h
        obtain ⟨o', h2, h⟩ := opt_bind h
        split at h
        · rename_i hp
          obtain ⟨e', h3, rfl⟩ := opt_map h
          exact st_aug x hl h1 h2 hp (E _ _ h3)
        · cases h
      · cases h
    · cases h
  | Expr e pos =>
    simp only [cS] at h
    split at h
    · cases h; exact st_doc
    · split at h
      · cases h
      · rename_i hc
        obtain ⟨e', h1, rfl⟩ := opt_map h
        exact st_ex (by simpa using hc) (E _ _ h1)
  | Return e pos =>
    simp only [cS] at h
    split at h
    · obtain ⟨e', h1, rfl⟩ := opt_map h
      exact st_ret (E _ _ h1)
    · cases h; exact st_retN
  | Pass pos => simp only [cS] at h; cases h; exact st_pass
  | Break pos => simp only [cS] at h; cases h; exact st_brk
  | Continue pos => simp only [cS] at h; cases h; exact st_cnt
  | If c a b pos =>
    simp only [cS] at h
    obtain ⟨c', h1, h⟩ := opt_bind h
    obtain ⟨a', h2, h⟩ := opt_bind h
    obtain ⟨b', h3, rfl⟩ := opt_map h
    exact st_ite (E _ _ h1) (B _ _ h2) (B _ _ h3)
  | For tg iter b els pos =>
    simp only [cS] at h
    split at h
    · cases h
    · rename_i hc
      simp only [Bool.or_eq_true, not_or, Bool.not_eq_true, Bool.not_eq_false', List.isEmpty_iff] at hc
      obtain ⟨c1, c2⟩ := hc
      subst c2
      obtain ⟨t, h1, h⟩ := opt_bind h
      obtain ⟨p, h2, h⟩ := opt_bind h
      obtain ⟨b', h3, rfl⟩ := opt_map h
      exact st_for x c1 h1 (s_it x.toXOk G E h2) (B _ _ h3)
  | While c b els pos =>
    simp only [cS] at h
    split at h
    · cases h
    · rename_i hc
      simp only [Bool.not_eq_true, Bool.not_eq_false', List.isEmpty_iff] at hc
      subst hc
      obtain ⟨c', h1, h⟩ := opt_bind h
      obtain ⟨b', h2, rfl⟩ := opt_map h
      exact st_whl x (E _ _ h1) (B _ _ h2)
  | Raise e c pos =>
    simp only [cS] at h
    split at h
    · split at h
      · rename_i hg
        rw [Bool.and_eq_true] at hg
        obtain ⟨c, h1, rfl⟩ := opt_map h
        exact st_rse x G hg.1 hg.2 h1
      · cases h
    · cases h
  | Try b hs els fin pos =>
    simp only [cS] at h
    split at h
    · split at h
      · rename_i hg
        simp only [Bool.and_eq_true, decide_eq_true_eq] at hg
        obtain ⟨c, h1, h⟩ := opt_bind h
        obtain ⟨i, h2, h⟩ := opt_bind h
        obtain ⟨cs, h3, h⟩ := opt_bind h
        obtain ⟨b', h4, rfl⟩ := opt_map h
        exact st_try x G hg.1.1.1 hg.1.1.2 hg.2 hg.1.2 h1 h2 h3 fun W' X' x' => st_all ih x' b b' h4
      · cases h
    · cases h
  | _ => simp only [cS] at h; cases h
theorem stOk (G : GOk g cx) (C : COk g cx k) : ∀ n, StOk g N k cx n
  | 0 => fun sc W X x st st' h => by simp only [cS] at h; cases h
  | n + 1 => stOk_succ G C (stOk G C n)
theorem stsOk (G : GOk g cx) (C : COk g cx k) {n : Nat} (x : SOk g N k sc W X) {b : List Stmt} {b' : List Sx} (h : seqM (cD (cS g.T N n sc)) b = some b') : PSs X b (tS g W (exSs cx b')) := st_all (stOk G C n) x b b' h
end
end Ev
set_option Elab.async false
set_option linter.all false
set_option maxRecDepth 100000
set_option autoImplicit false
set_option maxHeartbeats 4000000
/-! Ev, part R: defs; all levels of calls. -/
namespace Ev
open PySem L2 PySem.Spec PyProof.Rows
section
variable {g : G} {H H' : Hp} {φ φ' : List Addr}
mutual
theorem Em.noRef {H : Hp} {φ : List Addr} : ∀ (d : D) (v : V), Em g H φ d v → Ev.noRef φ.length d = true
  | .non, _, _ => rfl
  | .bl _, _, _ => rfl
  | .int _, _, _ => rfl
  | .str _, _, _ => rfl
  | .fn _, _, _ => rfl
  | .cls _, _, _ => rfl
  | .ref n, _, h => by
    cases h with
    | ref hn => exact decide_eq_true (List.getElem?_eq_some_iff.mp hn).1
  | .tup ds, _, h => by
    cases h with
    | tup _ h2 =>
      show Ev.noRefs φ.length ds = true
      exact Ems.noRefs ds _ h2
theorem Ems.noRefs {H : Hp} {φ : List Addr} : ∀ (ds : List D) (vs : List V), Ems g H φ ds vs → Ev.noRefs φ.length ds = true
  | [], _, _ => rfl
  | d :: ds, _, h => by
    cases h with
    | cons h1 h2 =>
      show (Ev.noRef φ.length d && Ev.noRefs φ.length ds) = true
      rw [Em.noRef d _ h1, Ems.noRefs ds _ h2]
      rfl
end
mutual
theorem Em.down (e : Ext g H φ H' φ') : ∀ (d : D) (v : V), Em g H' φ' d v → Ev.noRef φ.length d = true → Em g H' φ d v
  | .non, _, h, _ => by cases h; exact .non
  | .bl _, _, h, _ => by cases h; exact .bl _
  | .int _, _, h, _ => by cases h; exact .int _
  | .str _, _, h, _ => by cases h; exact .str _
  | .fn _, _, h, _ => by cases h; exact .fn _
  | .cls _, _, h, _ => by cases h; exact .cls _
  | .ref n, _, h, hn => by
    cases h with
    | @ref _ a ha =>
      have hl : n < φ.length := of_decide_eq_true hn
      have h1 := e.pre n _ (List.getElem?_eq_getElem hl)
      rw [ha] at h1
      exact .ref (by rw [List.getElem?_eq_getElem hl, ← Option.some.inj h1])
  | .tup ds, _, h, hn => by
    cases h with
    | tup h1 h2 => exact .tup h1 (Ems.down e ds _ h2 hn)
theorem Ems.down (e : Ext g H φ H' φ') : ∀ (ds : List D) (vs : List V), Ems g H' φ' ds vs → Ev.noRefs φ.length ds = true → Ems g H' φ ds vs
  | [], _, h, _ => by cases h; exact .nil
  | d :: ds, _, h, hn => by
    cases h with
    | cons h1 h2 =>
      have hn' : (Ev.noRef φ.length d && Ev.noRefs φ.length ds) = true := hn
      rw [Bool.and_eq_true] at hn'
      exact .cons (Em.down e d _ h1 hn'.1) (Ems.down e ds _ h2 hn'.2)
end
theorem HOm.down (e : Ext g H φ H' φ') : ∀ {o : O} {ho ho' : HO}, HOm g H φ o ho → HOm g H' φ' o ho' → HOm g H' φ o ho'
  | .lst ds, _, _, ⟨vs, _, h2⟩, ⟨vs', k1, k2⟩ => ⟨vs', k1, Ems.down e ds _ k2 (Ems.noRefs ds _ h2)⟩
  | .dK kvs, _, _, ⟨vs, _, _, h2⟩, ⟨vs', k1, k2, k3⟩ => ⟨vs', k1, k2, Ems.down e _ _ k3 (Ems.noRefs _ _ h2)⟩
  | .dT kvs, _, _, ⟨vs, _, _, h2⟩, ⟨vs', k1, k2, k3⟩ => ⟨vs', k1, k2, Ems.down e _ _ k3 (Ems.noRefs _ _ h2)⟩
  | .ins _ fs, _, _, ⟨_, _, _, _, h2, _⟩, ⟨dx', vs', k1, k2, k3, k4⟩ => ⟨dx', vs', k1, k2, Ems.down e _ _ k3 (Ems.noRefs _ _ h2), k4⟩
  | .exn _ _, _, _, h, _ => h.elim
  | .lk _, _, _, ⟨_, _, _, h2⟩, ⟨ob', ho', k1, k2⟩ => ⟨ob', ho', k1, HOm.down e h2 k2⟩
theorem Ext.down (e : Ext g H φ H' φ') : Ext g H φ H' φ := ⟨⟨e.tup, fun _ _ h => h, e.xd⟩, fun p o h k => ⟨(e.out p o h k).1, k⟩, e.dom⟩
theorem Rel.down {S S1 : Store} (r : Rel g H φ S) (r1 : Rel g H' φ' S1) (e : Ext g H φ H' φ') (h : S1.take S.length = S) : Rel g H' φ S := by
  have up : ∀ n o, S[n]? = some o → S1[n]? = some o := fun n o hn => by
    have hl : n < S.length := (List.getElem?_eq_some_iff.mp hn).1
    rw [← h, List.getElem?_take_of_lt hl] at hn
    exact hn
  refine ⟨r.len, r.nd, fun n o hn hx => ?_, fun n c fs hn => ?_⟩
  · obtain ⟨a, ho, h1, h2, h3⟩ := r.at_ n o hn hx
    obtain ⟨a', ho', k1, k2, k3⟩ := r1.at_ n o (up n o hn) hx
    rw [e.pre n a h1] at k1
    cases k1
    exact ⟨a, ho', h1, k2, HOm.down e h3 k3⟩
  · obtain ⟨a, h1, h2⟩ := r.exn n c fs hn
    obtain ⟨a', k1, k2⟩ := r1.exn n c fs (up n _ hn)
    rw [e.pre n a h1] at k1
    cases k1
    refine ⟨a, h1, ?_⟩
    rcases k2 with ⟨q1, q2⟩ | ⟨dx, f, d, v, q1, q2, q3, q4⟩
    · exact .inl ⟨q1, q2⟩
    · refine .inr ⟨dx, f, d, v, q1, q2, q3, Em.down e d v q4 ?_⟩
      rcases h2 with ⟨p1, _⟩ | ⟨_, f', d', v', p1, _, _, p4⟩
      · rw [p1] at q1; cases q1
      · rw [p1] at q1
        cases q1
        exact Em.noRef _ _ p4
/-- what gc leaves -/
theorem gc_ok {S S1 : Store} {d : D} (r : Rel g H φ S) (e : Ext g H φ H' φ') (r1 : Rel g H' φ' S1) : ∃ φ2, Ext g H φ H' φ2 ∧ Rel g H' φ2 (gc S d S1) ∧ ∀ v, Em g H' φ' d v → Em g H' φ2 d v := by
  unfold gc
  split
  · rename_i h
    refine ⟨φ, e.down, r.down r1 e h.1, fun v m => Em.down e d v m (by rw [r.len]; exact h.2)⟩
  · exact ⟨φ', e, r1, fun v m => m⟩
theorem gcX_ok {S S1 : Store} {c : Nat} {dd : List D} (r : Rel g H φ S) (e : Ext g H φ H' φ') (r1 : Rel g H' φ' S1) : ∃ φ2, Ext g H φ H' φ2 ∧ Rel g H' φ2 (gcX S dd S1) ∧ ∀ dx, XEm g H' φ' c dd dx → XEm g H' φ2 c dd dx := by
  unfold gcX
  split
  · rename_i h
    refine ⟨φ, e.down, r.down r1 e h.1, fun dx m => ?_⟩
    unfold XEm at m ⊢
    split at m
    · exact m
    · obtain ⟨d, a, v, rfl, h2, h3, h4, h5⟩ := m
      have hn : noRef φ.length d = true := by
        have := h.2
        rw [← r.len] at this
        have t : (noRef φ.length d && true) = true := this
        simpa using t
      refine ⟨d, a, v, rfl, h2, h3, Em.down e d v h4 hn, fun ha => h5 ?_⟩
      obtain ⟨n, hlt, he⟩ := List.mem_iff_getElem.mp ha
      exact List.mem_of_getElem? (e.pre n a (by rw [List.getElem?_eq_getElem hlt, he]))
  · exact ⟨φ', e, r1, fun dx m => m⟩
theorem relE_start {ds : List D} {vs : List V} {N : List Str} {m : Nat} (h : Ems g H φ ds vs) (hm : m = N.length) : RelE g H φ (ds.map some ++ List.replicate (m - ds.length) none) (start N vs) := by
  subst hm
  unfold L2.start
  have hl := h.length
  refine ⟨by simp [hl], fun i d hi => ?_⟩
  by_cases hlt : i < ds.length
  · rw [List.getElem?_append_left (by simpa using hlt), List.getElem?_map] at hi
    cases hd : ds[i]? with
    | none => rw [hd] at hi; cases hi
    | some d' =>
      rw [hd] at hi
      cases hi
      obtain ⟨v, h1, h2⟩ := h.get hd
      refine ⟨v, ?_, h2⟩
      rw [List.getElem?_append_left (by simp; omega), List.getElem?_map, h1]
      rfl
  · rw [List.getElem?_append_right (by simpa using hlt), List.getElem?_replicate] at hi
    split at hi <;> cases hi
end

/-- a def of the text, and what was read off it -/
structure FnFact (g : G) (tb : Tb) (i : Nat) (fd : FuncData) (ps : List Str) : Prop where
  ex : ∃ (N : List Str) (name qual : Str) (st : Stmt) (e : Fd), tb.fs[i]? = some e ∧ Fun g.K name qual st (g.fa i) fd ∧ FnScope N ps (defScope st) ∧ seqM (cD (cS g.T N 60 (defScope st))) (defBody st) = some e.body ∧ ps.length = e.ps ∧ N.length = e.ns
  binds : Binds g.K fd ps []
structure PgOk (g : G) (tb : Tb) : Prop where
  fn_ : ∀ x i, g.T.funs.lookup x = some i → ∃ fd ps, FnFact g tb i fd ps
  eq_ : ∀ c f, tb.eq c = some f → ∃ fd ps, FnFact g tb f fd ps
  cl_ : ∀ x c, g.T.clss.lookup x = some c → PySem.W.keepIn g.K (.ref (g.ca c)) = true ∧ ∀ f, tb.ini c = some f → Mk g.K (g.ca c) (g.fa f) ∧ ∃ fd ps, FnFact g tb f fd ps
def cxAt (tb : Tb) (k : Nat) (c j : Nat → List D → Store → R D) : Cxt := ⟨c, mkE j tb.ini, tb.um, tb.sb, tb.at_, tb.ic, tb.rs, tb.xi, tb.xa, decide (2 ≤ k), tb.eq, j⟩
def GTb (g : G) (tb : Tb) : Prop := ∀ k c j, GOk g (cxAt tb k c j)
noncomputable def cxK (tb : Tb) (k : Nat) : Cxt := cxAt tb k (runK tb k) (runJ tb k)
theorem spOf_bad {g : G} {n : Nat} {run : List D → Store → R D} (h : ∀ ds S, run ds S = .bad) {vs : List V} {H : Hp} {Q : VK} {E : XK} : ¬ spOf g n run vs H Q E := by
  rintro ⟨_, ds, S, φ, _, _, p⟩
  rw [h] at p
  exact p
theorem fn0 {g : G} {tb : Tb} {i : Nat} {fd : FuncData} {ps : List Str} : FnOk g.P g.w g.K g.mg g.base (L2.CX g.P g.w) 0 (g.fa i) fd ps (spOf g ps.length (runK tb 0 i)) :=
  ⟨fun vs H Q E h => h.1, fun A outer s H args us vs Q E _ _ _ _ h => (spOf_bad (fun _ _ => rfl) h).elim⟩
theorem fnS {g : G} {tb : Tb} (GT : GTb g tb) {k i : Nat} {fd : FuncData} {ps : List Str} (F : FnFact g tb i fd ps) (C : COk g (cxK tb k) k) : FnOk g.P g.w g.K g.mg g.base (L2.CX g.P g.w) (k + 1) (g.fa i) fd ps (spOf g ps.length (runK tb (k + 1) i)) := by
  obtain ⟨N, name, qual, st, e, h1, h2, h3, h4, h5, h6⟩ := F.ex
  refine Fun.okX h2 h3 (fun vs H Q E h => h.1) fun cdv A outer s H vs Q E hr h => ?_
  obtain ⟨hl, ds, S, φ, r, m, p⟩ := h
  have hdl : ds.length = e.ps := by rw [m.length, hl, h5]
  have hrun : runK tb (k + 1) i ds S = finE S (exSs (cxK tb k) e.body (ds.map some ++ List.replicate (e.ns - ds.length) none) S) := by
    rw [runK_succ]
    unfold stepK
    rw [h1]
    show (if ds.length = e.ps then _ else _) = _
    rw [if_pos hdl]
    rfl
  rw [hrun] at p
  have x : SOk g N k (defScope st) (fun cls dx _ H' => E cls dx H') (cxOf (L2.CX g.P g.w) g.P g.w g.K g.mg g.base N qual (defScope st) (g.fa i) cdv A outer s H E) :=
    ⟨⟨rfl, rfl, rfl, rfl, rfl, rfl, h3.nd, rfl, hr, rfl, takes_of rfl rfl rfl rfl⟩, passes_of rfl, fun _ => rfl, rfl, rfl⟩
  refine ⟨_, stsOk (cx := cxK tb k) (GT _ _ _) C x h4, _, S, φ, r, relE_start m h6.symm, ?_⟩
  generalize exSs (cxK tb k) e.body (ds.map some ++ List.replicate (e.ns - ds.length) none) S = rr at p ⊢
  cases rr with
  | bad => exact p
  | ex c dd S1 => exact p
  | ok f S1 =>
    cases f with
    | bk σ => exact p.elim
    | ct σ => exact p.elim
    | nx σ =>
      intro H' φ' e' r' τ' rE
      obtain ⟨φ2, e2, r2, k2⟩ := gc_ok (d := .non) r e' r'
      exact p H' φ2 e2 r2 .non .non
    | rt d =>
      intro H' φ' e' r' v m'
      obtain ⟨φ2, e2, r2, k2⟩ := gc_ok (d := d) r e' r'
      exact p H' φ2 e2 r2 v (k2 v m')
    | xc σ c dd =>
      intro H' φ' e' r' τ' dx rE xm
      obtain ⟨φ2, e2, r2, k2⟩ := gcX_ok (c := c) (dd := dd) r e' r'
      exact p H' φ2 dx e2 r2 (k2 dx xm)
theorem run_len {g : G} {tb : Tb} {i : Nat} {fd : FuncData} {ps : List Str} (F : FnFact g tb i fd ps) (k : Nat) (ds : List D) (S : Store) (h : ds.length ≠ ps.length) : runK tb k i ds S = .bad := by
  cases k with
  | zero => rfl
  | succ k =>
    obtain ⟨N, name, qual, st, e, h1, h2, h3, h4, h5, h6⟩ := F.ex
    rw [runK_succ]
    unfold stepK
    rw [h1]
    show (if ds.length = e.ps then _ else _) = _
    rw [if_neg (by rw [← h5]; exact h)]
/-- every level keeps its word -/
theorem cokAll {g : G} {tb : Tb} (GT : GTb g tb) (O : PgOk g tb) : ∀ k, COk g (cxK tb k) k ∧ ∀ i fd ps, FnFact g tb i fd ps → FnOk g.P g.w g.K g.mg g.base (L2.CX g.P g.w) k (g.fa i) fd ps (spOf g ps.length (runK tb k i))
  | 0 => ⟨⟨fun h => of_decide_eq_true h, fun c f h => .inl fun ds S => rfl, fun x i h => by
      obtain ⟨fd, ps, F⟩ := O.fn_ x i h
      exact ⟨fd, ps, fun ds S _ => rfl, fn0 (tb := tb), F.binds⟩, fun x c h => ⟨(O.cl_ x c h).1, .inl fun ds S => by
        show mkE badC tb.ini c ds S = .bad
        unfold mkE
        split <;> rfl⟩⟩, fun i fd ps F => fn0 (tb := tb)⟩
  | k + 1 => by
    obtain ⟨C, _⟩ := cokAll GT O k
    have FN : ∀ i fd ps, FnFact g tb i fd ps → FnOk g.P g.w g.K g.mg g.base (L2.CX g.P g.w) (k + 1) (g.fa i) fd ps (spOf g ps.length (runK tb (k + 1) i)) := fun i fd ps F => fnS GT F C
    obtain ⟨_, FK⟩ := cokAll GT O k
    refine ⟨⟨fun h => of_decide_eq_true h, fun c f h => ?_, fun x i h => ?_, fun x c h => ?_⟩, FN⟩
    · obtain ⟨fd, ps, F⟩ := O.eq_ c f h
      exact .inr ⟨k, fd, ps, rfl, fun ds S hl => run_len F k ds S hl, FK f fd ps F, F.binds⟩
    · obtain ⟨fd, ps, F⟩ := O.fn_ x i h
      exact ⟨fd, ps, fun ds S hl => run_len F (k + 1) ds S hl, FN i fd ps F, F.binds⟩
    · obtain ⟨kp, hi⟩ := O.cl_ x c h
      refine ⟨kp, ?_⟩
      cases hc : tb.ini c with
      | none =>
        refine .inl fun ds S => ?_
        show mkE _ tb.ini c ds S = .bad
        unfold mkE
        rw [hc]
      | some f =>
        obtain ⟨M, fd, ps, F⟩ := hi f hc
        refine .inr ⟨k, g.fa f, fd, ps, runK tb k f, rfl, fun ds S hl => run_len F k ds S hl, M, FK f fd ps F, F.binds, fun ds S => ?_⟩
        show mkE (runK tb k) tb.ini c ds S = _
        unfold mkE
        rw [hc]
end Ev
set_option Elab.async false
set_option linter.all false
set_option maxRecDepth 100000
set_option autoImplicit false
set_option maxHeartbeats 4000000
/-! Ev, part S: the end of a law; facts of classes as one word. -/
namespace Ev
open PySem L2 PySem.Spec PyProof.Rows
/-- the written part holds no list -/
def noList (K : PySem.W.Frag) : Bool := K.all fun p => !(p.2.cls == Value.type "list")
theorem mem_of_look {α : Type} {l : List (Addr × α)} {a : Addr} {o : α} (h : l.lookup a = some o) : (a, o) ∈ l := by
  induction l with
  | nil => cases h
  | cons p l ih =>
    obtain ⟨b, x⟩ := p
    by_cases e : a = b
    · subst e
      have : (a == a) = true := by simp
      rw [List.lookup, this] at h
      cases h
      exact List.mem_cons_self
    · have : (a == b) = false := by simp [e]
      rw [List.lookup, this] at h
      exact List.mem_cons_of_mem _ (ih h)
theorem noList_ok {K : PySem.W.Frag} (h : noList K = true) {a : Addr} {o : Obj} (e : K.lookup a = some o) : o.cls ≠ .type "list" := by
  intro z
  have hm := mem_of_look e
  have := List.all_eq_true.mp h _ hm
  simp [z] at this
/-- what is asked of a law's def: over a list of whole numbers, at most n, it gives True -/
def spI (K : PySem.W.Frag) (n : Nat) : Sp := fun vs H Q _ => ∃ (a : Addr) (ns : List Int), vs = [.ref a] ∧ ns.length ≤ n ∧ (∀ z ∈ ns, Builtin.Int.intBits z ≤ 1048576) ∧ Only H ∧ SqL K H a (ns.map V.int) ∧ ∀ H', Q (.bl true) H'
/-- the script as the interpreter sees it -/
def scr (ns : List Int) : Store := [.lk (.lst (ns.map D.int))]
theorem Ems.intsOf {g : G} {H : Hp} {φ : List Addr} : ∀ (is : List Int), Ems g H φ (is.map D.int) (is.map V.int)
  | [] => .nil
  | i :: is => .cons (.int i) (Ems.intsOf is)
theorem law_fn {g : G} {tb : Tb} (GT : GTb g tb) (O : PgOk g tb) {i k n : Nat} {fd : FuncData} {x : Str} (F : FnFact g tb i fd [x]) (hK : noList g.K = true)
    (spec : ∀ ns : List Int, ns.length ≤ n → (∀ z ∈ ns, Builtin.Int.intBits z ≤ 1048576) → ∃ S', runK tb k i [.ref 0] (scr ns) = .ok (.bl true) S') :
    FnOk g.P g.w g.K g.mg g.base (L2.CX g.P g.w) k (g.fa i) fd [x] (spI g.K n) := by
  refine ((cokAll GT O k).2 i fd [x] F).imp fun vs H Q E h => ?_
  obtain ⟨a, ns, rfl, h1, h2, h3, h4, q⟩ := h
  obtain ⟨S', e⟩ := spec ns h1 h2
  have hH : ∃ o, H a = some (.frz o (.lst (ns.map V.int))) := by
    rcases h4 with (h | ⟨o, h⟩) | ⟨o, its, m, hl, hc, _⟩
    · rcases h3 a with z | ⟨o, xs, z⟩
      · rw [h] at z; cases z
      · rw [h] at z; cases z
    · exact ⟨o, h⟩
    · exact absurd hc (noList_ok hK hl)
  obtain ⟨o, hH⟩ := hH
  refine ⟨rfl, [.ref 0], scr ns, [a], ⟨rfl, by simp, fun m o' hm hx => ?_, fun m c fs hm => ?_⟩, .cons (.ref rfl) .nil, ?_⟩
  · cases m with
    | zero =>
      cases hm
      exact ⟨a, _, rfl, hH, o, _, rfl, _, rfl, Ems.intsOf ns⟩
    | succ m => cases hm
  · cases m with
    | zero => cases hm
    | succ m => cases hm
  · rw [e]
    intro H' φ' _ _ v m
    cases m
    exact q H'

/-! ### facts by lists -/
def Alls {α : Type} (P : Str → α → Prop) : List (Str × α) → Prop
  | [] => True
  | p :: r => P p.1 p.2 ∧ Alls P r
instance allsDec {α : Type} {P : Str → α → Prop} [∀ x i, Decidable (P x i)] : ∀ l, Decidable (Alls P l)
  | [] => isTrue trivial
  | p :: r => @instDecidableAnd (P p.1 p.2) (Alls P r) _ (allsDec r)
theorem look_all {α : Type} {P : Str → α → Prop} : ∀ {l : List (Str × α)}, Alls P l → ∀ x i, l.lookup x = some i → P x i
  | [], _, x, i, h => by cases h
  | (y, j) :: r, ⟨h1, h2⟩, x, i, h => by
    by_cases e : x = y
    · subst e
      have : (x == x) = true := by simp
      rw [List.lookup, this] at h
      cases h
      exact h1
    · have : (x == y) = false := by simp [e]
      rw [List.lookup, this] at h
      exact look_all h2 x i h
def Allm {α : Type} (P : α → Prop) : List α → Prop
  | [] => True
  | p :: r => P p ∧ Allm P r
theorem mem_all {α : Type} {P : α → Prop} : ∀ {l : List α}, Allm P l → ∀ x ∈ l, P x
  | [], _, x, h => by cases h
  | y :: r, ⟨h1, h2⟩, x, h => by
    rcases List.mem_cons.mp h with e | h
    · rw [e]; exact h1
    · exact mem_all h2 x h
theorem nat_all {P : Nat → Prop} {l : List Nat} (h : Allm P l) (c : Nat) (hc : l.contains c = true) : P c := mem_all h c (by simpa using hc)
theorem pair_all {P : Nat → Nat → Prop} {l : List (Nat × Nat)} (h : Allm (fun p => P p.1 p.2) l) (c f : Nat) (hc : l.contains (c, f) = true) : P c f := mem_all h (c, f) (by simpa using hc)
theorem lt_of_contains {l : List Nat} {c n : Nat} (h : l.contains c = true) (hl : (l.all fun i => decide (i < n)) = true) : c < n := of_decide_eq_true (List.all_eq_true.mp hl c (by simpa using h))

/-! ### classes of errors -/
def excB (K : PySem.W.Frag) (C : Addr) : Bool :=
  decide (PySem.W.findIn K (.ref C) "__getattribute__" = some (some (.builtin "BaseException.__getattribute__"))) && decide (PySem.W.findIn K (.ref C) "__getattr__" = some none) &&
  decide (PySem.W.subIn K (.ref C) (.type "BaseException") = some true) && PySem.W.hasDictIn K C && decide (PySem.W.findIn K (.ref C) "__class__" = some (some (.builtin "object.__class__"))) &&
  decide (PySem.W.specialIn K (.builtin "object.__class__") "__get__" = some (some (.builtin "getset_descriptor.__get__"))) && decide (PySem.W.takesIn K (.builtin "object.__class__") = some true) && decide (PySem.W.mroIn K C (.type "object") = some true)
theorem excB_ok {K : PySem.W.Frag} {C : Addr} (h : excB K C = true) : ExcC K C := by
  simp only [excB, Bool.and_eq_true, decide_eq_true_eq] at h
  obtain ⟨⟨⟨⟨⟨⟨⟨h1, h2⟩, h3⟩, h4⟩, h5⟩, h6⟩, h7⟩, h8⟩ := h
  exact ⟨h1, h2, h3, h4, h5, h6, h7, h8⟩
/-- all questions of isinstance and except between these classes -/
def pairB (K : PySem.W.Frag) (cs : List Addr) (sb : Nat → Nat → Bool) (xi : Nat → Bool) : Bool :=
  (List.range cs.length).all fun i => (List.range cs.length).all fun j => if xi i = true then
    decide (PySem.W.kitOne K (.ref (cs.getD i 0)) (.ref (cs.getD j 0)) = some (sb i j)) && (!(xi j) || decide (PySem.W.exmOne K (.ref (cs.getD i 0)) (.ref (cs.getD j 0)) = some (sb i j))) else true
theorem pairB_ok {K : PySem.W.Frag} {cs : List Addr} {sb : Nat → Nat → Bool} {xi : Nat → Bool} (h : pairB K cs sb xi = true) {i j : Nat} (hi : i < cs.length) (hj : j < cs.length) (hx : xi i = true) :
    PySem.W.kitOne K (.ref (cs.getD i 0)) (.ref (cs.getD j 0)) = some (sb i j) ∧ (xi j = true → PySem.W.exmOne K (.ref (cs.getD i 0)) (.ref (cs.getD j 0)) = some (sb i j)) := by
  have h1 := List.all_eq_true.mp (List.all_eq_true.mp h i (List.mem_range.mpr hi)) j (List.mem_range.mpr hj)
  rw [if_pos hx, Bool.and_eq_true, decide_eq_true_eq, Bool.or_eq_true, decide_eq_true_eq] at h1
  refine ⟨h1.1, fun hj => h1.2.resolve_left ?_⟩
  rw [hj]
  decide
def xiB (K : PySem.W.Frag) (cs : List Addr) (sb : Nat → Nat → Bool) (xi : Nat → Bool) : Bool :=
  (List.range cs.length).all fun i => if xi i = true then excB K (cs.getD i 0) && decide (PySem.W.kitOne K (.ref (cs.getD i 0)) (.type "ValueError") = some (sb i 1000)) else true
theorem xiB_ok {K : PySem.W.Frag} {cs : List Addr} {sb : Nat → Nat → Bool} {xi : Nat → Bool} (h : xiB K cs sb xi = true) {i : Nat} (hi : i < cs.length) (hx : xi i = true) :
    ExcC K (cs.getD i 0) ∧ PySem.W.kitOne K (.ref (cs.getD i 0)) (.type "ValueError") = some (sb i 1000) := by
  have h1 := List.all_eq_true.mp h i (List.mem_range.mpr hi)
  rw [if_pos hx, Bool.and_eq_true, decide_eq_true_eq] at h1
  exact ⟨excB_ok h1.1, h1.2⟩
def tcB (K : PySem.W.Frag) (cs : List Addr) : Bool := cs.all fun C => tyNames.all fun s => decide (PySem.W.kitOne K (.type s) (.ref C) = some false)
theorem tcB_ok {K : PySem.W.Frag} {cs : List Addr} (h : tcB K cs = true) {i : Nat} (hi : i < cs.length) {s : String} (hs : s ∈ tyNames) : PySem.W.kitOne K (.type s) (.ref (cs.getD i 0)) = some false := by
  have hm : cs.getD i 0 ∈ cs := by
    have e : cs.getD i 0 = cs[i] := by simp [List.getD, hi]
    rw [e]
    exact List.getElem_mem hi
  exact of_decide_eq_true (List.all_eq_true.mp (List.all_eq_true.mp h _ hm) s hs)
/-- errors that are made without arguments and have no __init__ -/
def rsB (K : PySem.W.Frag) (C : Addr) : Bool := PySem.W.keepIn K (.ref C) && PySem.W.excIn K C [.type "ValueError", .type "Exception", .type "BaseException", .type "object"] "ValueError.__new__" &&
  decide (PySem.W.subIn K (.ref C) (.type "BaseException") = some true) && decide (PySem.W.typeIn K (.ref C) = some (.type "type"))
theorem rsB_ok {K : PySem.W.Frag} {C : Addr} (h : rsB K C = true) : PySem.W.keepIn K (.ref C) = true ∧ PySem.W.excIn K C [.type "ValueError", .type "Exception", .type "BaseException", .type "object"] "ValueError.__new__" = true ∧
    PySem.W.subIn K (.ref C) (.type "BaseException") = some true ∧ PySem.W.typeIn K (.ref C) = some (.type "type") := by
  simp only [rsB, Bool.and_eq_true, decide_eq_true_eq] at h
  exact ⟨h.1.1.1, h.1.1.2, h.1.2, h.2⟩
/-- instances: attributes that are no one's but the instance's -/
def atB (K : PySem.W.Frag) (C : Addr) (fs : List Str) : Bool := PySem.W.plainGet K C Str.empty && PySem.W.hasDictIn K C && PySem.W.plainOver K C && decide (PySem.W.findIn K (.ref C) "__setattr__" = some (some (.builtin "object.__setattr__"))) &&
  fs.all fun f => decide (PySem.W.findIn K (.ref C) f = some none)
theorem atB_ok {K : PySem.W.Frag} {C : Addr} {fs : List Str} (h : atB K C fs = true) : Cls K C ∧ ∀ f ∈ fs, NoAttr K C f := by
  simp only [atB, Bool.and_eq_true, decide_eq_true_eq] at h
  obtain ⟨⟨⟨⟨h1, h2⟩, h3⟩, h4⟩, h5⟩ := h
  exact ⟨⟨h1, h2, h3, h4⟩, fun f hf => by
    have := of_decide_eq_true (List.all_eq_true.mp h5 f hf)
    exact this⟩
def icB (K : PySem.W.Frag) (C : Addr) : Bool := decide (PySem.W.findIn K (.ref C) "__class__" = some (some (.builtin "object.__class__"))) && decide (PySem.W.specialIn K (.builtin "object.__class__") "__get__" = some (some (.builtin "getset_descriptor.__get__"))) &&
  decide (PySem.W.takesIn K (.builtin "object.__class__") = some true) && decide (PySem.W.mroIn K C (.type "object") = some true) && tyNames.all fun s => decide (PySem.W.kitOne K (.ref C) (.type s) = some false)
theorem icB_ok {K : PySem.W.Frag} {C : Addr} (c : Cls K C) (h : icB K C = true) : Cls K C ∧ PySem.W.findIn K (.ref C) "__class__" = some (some (.builtin "object.__class__")) ∧
    PySem.W.specialIn K (.builtin "object.__class__") "__get__" = some (some (.builtin "getset_descriptor.__get__")) ∧ PySem.W.takesIn K (.builtin "object.__class__") = some true ∧ PySem.W.mroIn K C (.type "object") = some true ∧
    ∀ s ∈ tyNames, PySem.W.kitOne K (.ref C) (.type s) = some false := by
  simp only [icB, Bool.and_eq_true, decide_eq_true_eq] at h
  obtain ⟨⟨⟨⟨h1, h2⟩, h3⟩, h4⟩, h5⟩ := h
  exact ⟨c, h1, h2, h3, h4, fun s hs => of_decide_eq_true (List.all_eq_true.mp h5 s hs)⟩
def nfB (K : PySem.W.Frag) (C : Addr) : Bool := tyNames.all fun s => PySem.W.notFirst K C (.type s)
theorem nfB_ok {K : PySem.W.Frag} {C : Addr} (h : nfB K C = true) {s : String} (hs : s ∈ tyNames) : PySem.W.notFirst K C (.type s) = true := List.all_eq_true.mp h s hs
/-! ### an error's __init__ -/
theorem okInitX {P : Program} {w : World} {K : PySem.W.Frag} {mg : Str → Option Value} {base : Heap} {C fI : Addr} {fd : FuncData} {qual x0 x1 f : Str} {st : Stmt} {p1 p2 p3 p4 : Pos} (T : OexC K C) (hno : PySem.W.findIn K (.ref C) f = some none)
    (F : Fun K "__init__" qual st fI fd) (S : FnScope [x0, x1] [x0, x1] (defScope st)) (hb : defBody st = [.Assign [.Attribute (.Name x0 p1) f p2] (.Name x1 p3) p4])
    (h0 : okN x0 = true ∧ okN x1 = true) : FnOk P w K mg base (L2.CX P w) 1 fI fd [x0, x1] (spX C f) := by
  refine Fun.okX F S (fun vs H Q E h => ?_) fun cdv A outer s H vs Q E hr h => ?_
  · obtain ⟨a, v, rfl, _⟩ := h
    rfl
  · obtain ⟨a, v, rfl, ha, k⟩ := h
    rw [hb]
    have vis : ∀ x ∈ [x0, x1], ((defScope st).names.lookup x = some .local ∨ (defScope st).names.lookup x = some .cell) := S.par
    have vv : ∀ x ∈ [x0, x1], Vis (defScope st) x := fun x hx => (vis x hx).elim .inl fun h => .inr (.inl h)
    refine ⟨_, pss_one (ps_ost (pe_var (i := 0) rfl (vv x0 (by simp)) (okN_iff h0.1).1 (okN_iff h0.1).2.1) (pe_var (i := 1) rfl (vv x1 (by simp)) (okN_iff h0.2).1 (okN_iff h0.2).2.1) (noSwap rfl)), ?_⟩
    exact ⟨v, rfl, .ref a, rfl, a, C, rfl, T, hno, .inl ⟨ha, fun dx h1 h2 => k dx h1 h2⟩⟩
end Ev
set_option Elab.async false
set_option linter.all false
set_option maxRecDepth 100000
set_option autoImplicit false
set_option maxHeartbeats 0
namespace Lk50
open PySem L2 Ev
def top (i : Nat) : Stmt := PySem.Challenge.pw_everyreply_k50_clause_books_refused.main.body.getD i (.Pass ⟨0, 0, 0, 0⟩)
def T : Tab := { funs := [("is_whole", 0), ("is_below", 1), ("are_below", 2), ("are_flags", 3), ("is_ascending", 4), ("is_clause", 5), ("are_clauses", 6), ("_law_cell", 9), ("_law_row", 10), ("_law_same", 11), ("_law_spoiled", 12), ("_law_bits", 13), ("_law_clause", 14), ("_law_clauses", 15), ("_law_clause_book", 16), ("_law_refused", 17), ("law", 18)], clss := [("ReplyError", 0), ("NotClauses", 1), ("ClauseBook", 2)], csts := [("MOST_CLAUSE_FLAGS", .int 500), ("MOST_CLAUSES", .int 1000000)], flds := ["sides", "clauses"], meths := [], exs := [] }
abbrev s0 : Stmt := top 1
abbrev n0 : List Str := ["thing"]
abbrev p0 : List Str := ["thing"]
/-- is_whole -/
def d0 : Fd := ⟨1, 1, [.ret (.and (.nd (.isi (.b "int")) [(.var 0)]) (.not (.nd (.isi (.b "bool")) [(.var 0)])))]⟩
theorem c0 : seqM (cD (cS T n0 60 (defScope s0))) (defBody s0) = some d0.body := by kernel_rfl
theorem sc0 : FnScope n0 p0 (defScope s0) := ⟨rfl, rfl, rfl, by decide +kernel, rfl, by decide +kernel, by decide +kernel⟩
abbrev s1 : Stmt := top 2
abbrev n1 : List Str := ["thing", "bound"]
abbrev p1 : List Str := ["thing", "bound"]
/-- is_below -/
def d1 : Fd := ⟨2, 2, [.ret (.and (.na (.call 0) [(.var 0)]) (.ch .le .lt (.cst (.int 0)) (.var 0) (.var 1)))]⟩
theorem c1 : seqM (cD (cS T n1 60 (defScope s1))) (defBody s1) = some d1.body := by kernel_rfl
theorem sc1 : FnScope n1 p1 (defScope s1) := ⟨rfl, rfl, rfl, by decide +kernel, rfl, by decide +kernel, by decide +kernel⟩
abbrev s2 : Stmt := top 3
abbrev n2 : List Str := ["thing", "bound", "number"]
abbrev p2 : List Str := ["thing", "bound"]
/-- are_below -/
def d2 : Fd := ⟨2, 3, [.ret (.and (.nd (.isi (.b "tuple")) [(.var 0)]) (.nd (.bi .all) [(.lc (.var 2) .seq [(.var 0)] [] (.na (.call 1) [(.var 2), (.var 1)]) [2])]))]⟩
theorem c2 : seqM (cD (cS T n2 60 (defScope s2))) (defBody s2) = some d2.body := by kernel_rfl
theorem sc2 : FnScope n2 p2 (defScope s2) := ⟨rfl, rfl, rfl, by decide +kernel, rfl, by decide +kernel, by decide +kernel⟩
abbrev s3 : Stmt := top 4
abbrev n3 : List Str := ["thing", "flag"]
abbrev p3 : List Str := ["thing"]
/-- are_flags -/
def d3 : Fd := ⟨1, 2, [.ret (.and (.nd (.isi (.b "tuple")) [(.var 0)]) (.nd (.bi .all) [(.lc (.var 1) .seq [(.var 0)] [] (.nd (.isi (.b "bool")) [(.var 1)]) [1])]))]⟩
theorem c3 : seqM (cD (cS T n3 60 (defScope s3))) (defBody s3) = some d3.body := by kernel_rfl
theorem sc3 : FnScope n3 p3 (defScope s3) := ⟨rfl, rfl, rfl, by decide +kernel, rfl, by decide +kernel, by decide +kernel⟩
abbrev s4 : Stmt := top 5
abbrev n4 : List Str := ["thing", "at"]
abbrev p4 : List Str := ["thing"]
/-- is_ascending -/
def d4 : Fd := ⟨1, 2, [.ret (.nd (.bi .all) [(.lc (.var 1) .rng [(.cst (.int 1)), (.nd (.bi .len) [(.var 0)])] [] (.nd (.cmp .lt) [(.nd .idx [(.var 0), (.nd (.op .sub) [(.var 1), (.cst (.int 1))])]), (.nd .idx [(.var 0), (.var 1)])]) [1])])]⟩
theorem c4 : seqM (cD (cS T n4 60 (defScope s4))) (defBody s4) = some d4.body := by kernel_rfl
theorem sc4 : FnScope n4 p4 (defScope s4) := ⟨rfl, rfl, rfl, by decide +kernel, rfl, by decide +kernel, by decide +kernel⟩
abbrev s5 : Stmt := top 12
abbrev n5 : List Str := ["thing", "many", "at"]
abbrev p5 : List Str := ["thing", "many"]
/-- is_clause -/
def d5 : Fd := ⟨2, 3, [.ite (.or (.not (.na (.call 2) [(.var 0), (.nd (.op .mul) [(.cst (.int 2)), (.var 1)])])) (.not (.na (.call 4) [(.var 0)]))) [.ret (.cst (.bl false))] [], .ret (.nd (.bi .all) [(.lc (.var 2) .rng [(.cst (.int 1)), (.nd (.bi .len) [(.var 0)])] [] (.nd (.cmp .lt) [(.nd (.op .fdiv) [(.nd .idx [(.var 0), (.nd (.op .sub) [(.var 2), (.cst (.int 1))])]), (.cst (.int 2))]), (.nd (.op .fdiv) [(.nd .idx [(.var 0), (.var 2)]), (.cst (.int 2))])]) [2])])]⟩
theorem c5 : seqM (cD (cS T n5 60 (defScope s5))) (defBody s5) = some d5.body := by kernel_rfl
theorem sc5 : FnScope n5 p5 (defScope s5) := ⟨rfl, rfl, rfl, by decide +kernel, rfl, by decide +kernel, by decide +kernel⟩
abbrev s6 : Stmt := top 13
abbrev n6 : List Str := ["thing", "many", "clause"]
abbrev p6 : List Str := ["thing", "many"]
/-- are_clauses -/
def d6 : Fd := ⟨2, 3, [.ite (.or (.not (.nd (.isi (.b "tuple")) [(.var 0)])) (.nd (.cmp .gt) [(.nd (.bi .len) [(.var 0)]), (.cst (.int 1000000))])) [.ret (.cst (.bl false))] [], .ret (.and (.nd (.bi .all) [(.lc (.var 2) .seq [(.var 0)] [] (.na (.call 5) [(.var 2), (.var 1)]) [2])]) (.na (.call 4) [(.var 0)]))]⟩
theorem c6 : seqM (cD (cS T n6 60 (defScope s6))) (defBody s6) = some d6.body := by kernel_rfl
theorem sc6 : FnScope n6 p6 (defScope s6) := ⟨rfl, rfl, rfl, by decide +kernel, rfl, by decide +kernel, by decide +kernel⟩
abbrev s7 : Stmt := inClass (top 14) 0
abbrev n7 : List Str := ["self", "sides", "clauses"]
abbrev p7 : List Str := ["self", "sides", "clauses"]
/-- ClauseBook.__init__ -/
def d7 : Fd := ⟨3, 3, [.ite (.or (.not (.na (.call 3) [(.var 1)])) (.or (.nd (.cmp .gt) [(.nd (.bi .len) [(.var 1)]), (.cst (.int 500))]) (.not (.na (.call 6) [(.var 2), (.nd (.bi .len) [(.var 1)])])))) [.rse 1 []] [], .fldS (.var 0) 0 (.var 1), .fldS (.var 0) 1 (.var 2)]⟩
theorem c7 : seqM (cD (cS T n7 60 (defScope s7))) (defBody s7) = some d7.body := by kernel_rfl
theorem sc7 : FnScope n7 p7 (defScope s7) := ⟨rfl, rfl, rfl, by decide +kernel, rfl, by decide +kernel, by decide +kernel⟩
abbrev s8 : Stmt := inClass (top 14) 1
abbrev n8 : List Str := ["self", "other"]
abbrev p8 : List Str := ["self", "other"]
/-- ClauseBook.__eq__ -/
def d8 : Fd := ⟨2, 2, [.ret (.and (.nd (.isi (.c 2)) [(.var 1)]) (.and (.nd (.cmp .eq) [(.nd (.fld 0) [(.var 0)]), (.nd (.fld 0) [(.var 1)])]) (.nd (.cmp .eq) [(.nd (.fld 1) [(.var 0)]), (.nd (.fld 1) [(.var 1)])])))]⟩
theorem c8 : seqM (cD (cS T n8 60 (defScope s8))) (defBody s8) = some d8.body := by kernel_rfl
theorem sc8 : FnScope n8 p8 (defScope s8) := ⟨rfl, rfl, rfl, by decide +kernel, rfl, by decide +kernel, by decide +kernel⟩
abbrev s9 : Stmt := top 16
abbrev n9 : List Str := ["script", "k"]
abbrev p9 : List Str := ["script", "k"]
/-- _law_cell -/
def d9 : Fd := ⟨2, 2, [.ite (.nd (.cmp .lt) [(.var 1), (.nd (.bi .len) [(.var 0)])]) [.ret (.nd .idx [(.var 0), (.var 1)])] [], .ret (.cst (.int 0))]⟩
theorem c9 : seqM (cD (cS T n9 60 (defScope s9))) (defBody s9) = some d9.body := by kernel_rfl
theorem sc9 : FnScope n9 p9 (defScope s9) := ⟨rfl, rfl, rfl, by decide +kernel, rfl, by decide +kernel, by decide +kernel⟩
abbrev s10 : Stmt := top 17
abbrev n10 : List Str := ["cell", "bounds", "left", "great", "mixed", "row", "k"]
abbrev p10 : List Str := ["cell", "bounds"]
/-- _law_row -/
def d10 : Fd := ⟨2, 7, [.set (.var 2) (.nd (.bi .abs) [(.var 0)]), .set (.var 3) (.nd (.cmp .ge) [(.var 2), (.nd (.op .pow) [(.cst (.int 10)), (.cst (.int 18))])]), .set (.var 4) (.nd (.op .mod) [(.nd (.bi .int) [(.var 2)]), (.cst (.int 2147483647))]), .set (.var 5) (.na .lst []), .fr (.var 6) .rng [(.nd (.bi .len) [(.var 1)])] [.set (.var 4) (.nd (.op .mod) [(.nd (.bi .int) [(.nd (.op .add) [(.nd (.op .add) [(.nd (.op .mul) [(.var 4), (.cst (.int 48271))]), (.nd (.op .mul) [(.cst (.int 29)), (.var 6)])]), (.cst (.int 17))])]), (.cst (.int 2147483647))]), .set (.var 4) (.nd (.op .mod) [(.nd (.bi .int) [(.nd (.op .add) [(.nd (.op .add) [(.nd (.op .mul) [(.var 4), (.cst (.int 69621))]), (.nd (.op .mul) [(.cst (.int 13)), (.var 6)])]), (.cst (.int 5))])]), (.cst (.int 2147483629))]), .ite (.and (.var 3) (.nd (.cmp .gt) [(.var 2), (.cst (.int 0))])) [.ex (.meth .append (.var 5) [(.nd (.op .mod) [(.nd (.bi .int) [(.var 2)]), (.nd .idx [(.var 1), (.var 6)])])]), .set (.var 2) (.nd (.op .fdiv) [(.var 2), (.nd .idx [(.var 1), (.var 6)])])] [.ex (.meth .append (.var 5) [(.nd (.op .mod) [(.nd (.bi .int) [(.nd (.op .fdiv) [(.var 4), (.cst (.int 7))])]), (.nd .idx [(.var 1), (.var 6)])])])]], .ret (.var 5)]⟩
theorem c10 : seqM (cD (cS T n10 60 (defScope s10))) (defBody s10) = some d10.body := by kernel_rfl
theorem sc10 : FnScope n10 p10 (defScope s10) := ⟨rfl, rfl, rfl, by decide +kernel, rfl, by decide +kernel, by decide +kernel⟩
abbrev s11 : Stmt := top 18
abbrev n11 : List Str := ["found", "due", "k"]
abbrev p11 : List Str := ["found", "due"]
/-- _law_same -/
def d11 : Fd := ⟨2, 3, [.ite (.nd (.isi (.b "tuple")) [(.var 1)]) [.ite (.or (.not (.nd (.isi (.b "tuple")) [(.var 0)])) (.nd (.cmp .ne) [(.nd (.bi .len) [(.var 0)]), (.nd (.bi .len) [(.var 1)])])) [.ret (.cst (.bl false))] [], .ret (.nd (.bi .all) [(.lc (.var 2) .rng [(.nd (.bi .len) [(.var 1)])] [] (.na (.call 11) [(.nd .idx [(.var 0), (.var 2)]), (.nd .idx [(.var 1), (.var 2)])]) [2])])] [], .ite (.nd (.isi (.b "list")) [(.var 1)]) [.ite (.or (.not (.nd (.isi (.b "list")) [(.var 0)])) (.nd (.cmp .ne) [(.nd (.bi .len) [(.var 0)]), (.nd (.bi .len) [(.var 1)])])) [.ret (.cst (.bl false))] [], .ret (.nd (.bi .all) [(.lc (.var 2) .rng [(.nd (.bi .len) [(.var 1)])] [] (.na (.call 11) [(.nd .idx [(.var 0), (.var 2)]), (.nd .idx [(.var 1), (.var 2)])]) [2])])] [], .ite (.nd (.cmp .is) [(.var 1), (.cst (.non))]) [.ret (.nd (.cmp .is) [(.var 0), (.cst (.non))])] [], .ite (.nd (.isi (.b "bool")) [(.var 1)]) [.ret (.and (.nd (.isi (.b "bool")) [(.var 0)]) (.nd (.cmp .eq) [(.var 0), (.var 1)]))] [], .ite (.nd (.isi (.b "int")) [(.var 1)]) [.ret (.and (.nd (.isi (.b "int")) [(.var 0)]) (.and (.not (.nd (.isi (.b "bool")) [(.var 0)])) (.nd (.cmp .eq) [(.var 0), (.var 1)])))] [], .ret (.and (.nd (.isi (.b "str")) [(.var 0)]) (.and (.nd (.isi (.b "str")) [(.var 1)]) (.nd (.cmp .eq) [(.var 0), (.var 1)])))]⟩
theorem c11 : seqM (cD (cS T n11 60 (defScope s11))) (defBody s11) = some d11.body := by kernel_rfl
theorem sc11 : FnScope n11 p11 (defScope s11) := ⟨rfl, rfl, rfl, by decide +kernel, rfl, by decide +kernel, by decide +kernel⟩
abbrev s12 : Stmt := top 19
abbrev n12 : List Str := ["cell", "some"]
abbrev p12 : List Str := ["cell"]
/-- _law_spoiled -/
def d12 : Fd := ⟨1, 2, [.set (.var 1) (.na .lst [(.cst (.non)), (.cst (.bl true)), (.nd .neg [(.cst (.int 1))]), (.cst (.str "0")), (.na .tup []), (.na .lst []), (.na .tup [(.cst (.int 0)), (.cst (.bl true))]), (.nd .dct [])]), .set (.var 1) (.nd (.op .add) [(.var 1), (.na .lst [(.na .tup [(.na .tup [])]), (.cst (.str "and")), (.nd (.op .pow) [(.cst (.int 10)), (.cst (.int 30))]), (.na .tup [(.na .lst [])]), (.na .tup [(.cst (.non))]), (.na .tup [(.na .tup [(.cst (.int 0))])])])]), .ret (.nd .idx [(.var 1), (.nd (.op .mod) [(.nd (.bi .int) [(.var 0)]), (.nd (.bi .len) [(.var 1)])])])]⟩
theorem c12 : seqM (cD (cS T n12 60 (defScope s12))) (defBody s12) = some d12.body := by kernel_rfl
theorem sc12 : FnScope n12 p12 (defScope s12) := ⟨rfl, rfl, rfl, by decide +kernel, rfl, by decide +kernel, by decide +kernel⟩
abbrev s13 : Stmt := top 20
abbrev n13 : List Str := ["number", "many", "bits", "k"]
abbrev p13 : List Str := ["number", "many"]
/-- _law_bits -/
def d13 : Fd := ⟨2, 4, [.set (.var 2) (.na .lst []), .fr (.var 3) .rng [(.var 1)] [.ex (.meth .append (.var 2) [(.nd (.cmp .eq) [(.nd (.op .mod) [(.var 0), (.cst (.int 2))]), (.cst (.int 1))])]), .set (.var 0) (.nd (.op .fdiv) [(.var 0), (.cst (.int 2))])], .ret (.nd (.bi .tuple) [(.var 2)])]⟩
theorem c13 : seqM (cD (cS T n13 60 (defScope s13))) (defBody s13) = some d13.body := by kernel_rfl
theorem sc13 : FnScope n13 p13 (defScope s13) := ⟨rfl, rfl, rfl, by decide +kernel, rfl, by decide +kernel, by decide +kernel⟩
abbrev s14 : Stmt := top 21
abbrev n14 : List Str := ["cell", "many", "most", "digits", "kept", "literal", "other"]
abbrev p14 : List Str := ["cell", "many", "most"]
/-- _law_clause -/
def d14 : Fd := ⟨3, 7, [.set (.var 3) (.na (.call 10) [(.var 0), (.nd (.op .add) [(.na .lst [(.nd (.op .add) [(.var 2), (.cst (.int 1))])]), (.nd (.op .mul) [(.na .lst [(.nd (.op .mul) [(.cst (.int 2)), (.var 1)])]), (.var 2)])])]), .set (.var 4) (.na .lst []), .fr (.var 5) .seq [(.sl (.var 3) (.cst (.int 1)) (.nd (.op .add) [(.cst (.int 1)), (.nd .idx [(.var 3), (.cst (.int 0))])]))] [.ite (.nd (.bi .all) [(.lc (.var 6) .seq [(.var 4)] [] (.nd (.cmp .ne) [(.nd (.op .fdiv) [(.var 5), (.cst (.int 2))]), (.nd (.op .fdiv) [(.var 6), (.cst (.int 2))])]) [6])]) [.ex (.meth .append (.var 4) [(.var 5)])] []], .ret (.nd (.bi .tuple) [(.nd (.bi .sorted) [(.var 4)])])]⟩
theorem c14 : seqM (cD (cS T n14 60 (defScope s14))) (defBody s14) = some d14.body := by kernel_rfl
theorem sc14 : FnScope n14 p14 (defScope s14) := ⟨rfl, rfl, rfl, by decide +kernel, rfl, by decide +kernel, by decide +kernel⟩
abbrev s15 : Stmt := top 22
abbrev n15 : List Str := ["cell", "many", "most", "size", "digits", "found", "k", "clause"]
abbrev p15 : List Str := ["cell", "many", "most", "size"]
/-- _law_clauses -/
def d15 : Fd := ⟨4, 8, [.set (.var 4) (.na (.call 10) [(.var 0), (.nd (.op .add) [(.na .lst [(.nd (.op .add) [(.var 2), (.cst (.int 1))])]), (.nd (.op .mul) [(.na .lst [(.nd (.op .pow) [(.cst (.int 10)), (.cst (.int 9))])]), (.var 2)])])]), .set (.var 5) (.na .lst []), .fr (.var 6) .rng [(.nd .idx [(.var 4), (.cst (.int 0))])] [.set (.var 7) (.na (.call 14) [(.nd .idx [(.var 4), (.nd (.op .add) [(.cst (.int 1)), (.var 6)])]), (.var 1), (.var 3)]), .ite (.and (.nd (.cmp .nmem) [(.var 7), (.var 5)]) (.or (.nd (.cmp .ne) [(.var 7), (.na .tup [])]) (.nd (.cmp .eq) [(.nd (.op .mod) [(.nd .idx [(.var 4), (.nd (.op .add) [(.cst (.int 1)), (.var 6)])]), (.cst (.int 11))]), (.cst (.int 0))]))) [.ex (.meth .append (.var 5) [(.var 7)])] []], .ret (.nd (.bi .tuple) [(.nd (.bi .sorted) [(.var 5)])])]⟩
theorem c15 : seqM (cD (cS T n15 60 (defScope s15))) (defBody s15) = some d15.body := by kernel_rfl
theorem sc15 : FnScope n15 p15 (defScope s15) := ⟨rfl, rfl, rfl, by decide +kernel, rfl, by decide +kernel, by decide +kernel⟩
abbrev s16 : Stmt := top 23
abbrev n16 : List Str := ["cell", "many", "most", "size", "digits"]
abbrev p16 : List Str := ["cell", "many", "most", "size"]
/-- _law_clause_book -/
def d16 : Fd := ⟨4, 5, [.set (.var 4) (.na (.call 10) [(.var 0), (.na .lst [(.cst (.int 256)), (.nd (.op .pow) [(.cst (.int 10)), (.cst (.int 9))])])]), .ret (.na .tup [(.na (.call 13) [(.nd .idx [(.var 4), (.cst (.int 0))]), (.var 1)]), (.na (.call 15) [(.nd .idx [(.var 4), (.cst (.int 1))]), (.var 1), (.var 2), (.var 3)])])]⟩
theorem c16 : seqM (cD (cS T n16 60 (defScope s16))) (defBody s16) = some d16.body := by kernel_rfl
theorem sc16 : FnScope n16 p16 (defScope s16) := ⟨rfl, rfl, rfl, by decide +kernel, rfl, by decide +kernel, by decide +kernel⟩
abbrev s17 : Stmt := top 24
abbrev n17 : List Str := ["sides", "clauses", "error"]
abbrev p17 : List Str := ["sides", "clauses"]
/-- _law_refused -/
def d17 : Fd := ⟨2, 3, [.tr [.ex (.na (.mk 2) [(.var 0), (.var 1)])] 0 2 [1, 1000], .ret (.cst (.bl false))]⟩
theorem c17 : seqM (cD (cS T n17 60 (defScope s17))) (defBody s17) = some d17.body := by kernel_rfl
theorem sc17 : FnScope n17 p17 (defScope s17) := ⟨rfl, rfl, rfl, by decide +kernel, rfl, by decide +kernel, by decide +kernel⟩
abbrev s18 : Stmt := top 25
abbrev n18 : List Str := ["script", "digits", "many", "sides", "clauses", "book", "bad", "spoiled", "wrong", "other", "again", "side", "clause"]
abbrev p18 : List Str := ["script"]
/-- law -/
def d18 : Fd := ⟨1, 13, [.set (.var 1) (.na (.call 10) [(.na (.call 9) [(.var 0), (.cst (.int 0))]), (.na .lst [(.cst (.int 9)), (.cst (.int 14)), (.cst (.int 9)), (.cst (.int 7))])]), .set (.var 2) (.nd .idx [(.var 1), (.cst (.int 0))]), .set (.tup [(.var 3), (.var 4)]) (.na (.call 16) [(.na (.call 9) [(.var 0), (.cst (.int 1))]), (.nd .max2 [(.cst (.int 1)), (.var 2)]), (.cst (.int 12)), (.cst (.int 4))]), .ite (.nd (.cmp .eq) [(.var 2), (.cst (.int 0))]) [.set (.var 4) (.nd (.slc 2) [(.var 4), (.cst (.int 0))]), .set (.var 3) (.na .tup [])] [], .set (.var 5) (.na (.mk 2) [(.var 3), (.var 4)]), .ite (.or (.not (.na (.call 11) [(.nd (.fld 0) [(.var 5)]), (.var 3)])) (.not (.na (.call 11) [(.nd (.fld 1) [(.var 5)]), (.var 4)]))) [.ret (.cst (.bl false))] [], .set (.var 6) (.nd .idx [(.na .lst [(.na .tup [(.nd (.op .mul) [(.cst (.int 2)), (.var 2)])]), (.na .tup [(.nd .neg [(.cst (.int 1))])]), (.na .tup [(.cst (.bl true))]), (.na .lst [(.cst (.int 0))]), (.na .tup [(.cst (.int 1)), (.cst (.int 0))]), (.na .tup [(.cst (.int 0)), (.cst (.int 0))]), (.na .tup [(.cst (.str "0"))]), (.cst (.non)), (.na .tup [(.cst (.int 0)), (.cst (.int 1))])]), (.nd .idx [(.var 1), (.cst (.int 2))])]), .ite (.not (.na (.call 17) [(.var 3), (.nd (.op .add) [(.var 4), (.na .tup [(.var 6)])])])) [.ret (.cst (.bl false))] [], .set (.var 7) (.na (.call 12) [(.nd .idx [(.var 1), (.cst (.int 1))])]), .ite (.and (.nd (.cmp .nmem) [(.var 7), (.na .lst [(.na .tup []), (.na .tup [(.na .tup [])]), (.na .tup [(.na .tup [(.cst (.int 0))])])])]) (.not (.na (.call 17) [(.var 3), (.var 7)]))) [.ret (.cst (.bl false))] [], .set (.var 8) (.nd .idx [(.na .lst [(.nd (.bi .list) [(.var 4)]), (.nd (.op .add) [(.var 4), (.nd (.op .mul) [(.na .tup [(.na .tup [])]), (.cst (.int 2))])]), (.nd (.op .add) [(.nd .bk [(.var 4)]), (.var 4)]), (.cst (.non)), (.cst (.int 5)), (.na .tup [(.cst (.non))]), (.cst (.str "0"))]), (.nd .idx [(.var 1), (.cst (.int 3))])]), .ite (.and (.nd (.cmp .ne) [(.var 8), (.na .tup [])]) (.not (.na (.call 17) [(.var 3), (.var 8)]))) [.ret (.cst (.bl false))] [], .ite (.or (.not (.na (.call 17) [(.na .lst [(.cst (.bl true))]), (.na .tup [])])) (.or (.not (.na (.call 17) [(.na .tup [(.cst (.int 1))]), (.na .tup [])])) (.not (.na (.call 17) [(.nd (.op .mul) [(.na .tup [(.cst (.bl true))]), (.cst (.int 501))]), (.na .tup [])])))) [.ret (.cst (.bl false))] [], .set (.var 9) (.na (.mk 2) [(.nd (.op .add) [(.na .tup [(.cst (.bl true))]), (.var 3)]), (.na .tup [])]), .set (.var 10) (.na (.mk 2) [(.nd (.bi .tuple) [(.lc (.var 11) .seq [(.var 3)] [] (.var 11) [11])]), (.nd (.bi .tuple) [(.lc (.var 12) .seq [(.var 4)] [] (.var 12) [12])])]), .ret (.and (.nd (.cmp .eq) [(.var 5), (.var 10)]) (.and (.not (.nd (.cmp .eq) [(.var 5), (.var 9)])) (.and (.not (.nd (.cmp .ne) [(.var 5), (.var 10)])) (.nd (.cmp .ne) [(.var 5), (.cst (.int 5))]))))]⟩
theorem c18 : seqM (cD (cS T n18 60 (defScope s18))) (defBody s18) = some d18.body := by kernel_rfl
theorem sc18 : FnScope n18 p18 (defScope s18) := ⟨rfl, rfl, rfl, by decide +kernel, rfl, by decide +kernel, by decide +kernel⟩
def sb (i j : Nat) : Bool := decide (j = i) || (decide (i = 1) && decide (j = 0)) || (decide (j = 1000) && (decide (i = 0) || decide (i = 1)))
def xi (i : Nat) : Bool := [0, 1].contains i
def rs (i : Nat) : Bool := [0, 1].contains i
def ic (i : Nat) : Bool := [2].contains i
def at_ (c f : Nat) : Bool := [(2, 0), (2, 1)].contains (c, f)
def xa (c f : Nat) : Bool := [].contains (c, f)
def ini (c : Nat) : Option Nat := if c = 2 then some 7 else none
def eqf (c : Nat) : Option Nat := if c = 2 then some 8 else none
def tb : Tb := ⟨[d0, d1, d2, d3, d4, d5, d6, d7, d8, d9, d10, d11, d12, d13, d14, d15, d16, d17, d18], ini, fun _ _ => none, sb, at_, ic, rs, xi, xa, eqf⟩
section
open PySem.W
theorem all_mk {l : PySem.W.OpenLaw} {w : World} {K : PySem.W.Frag} {h : Heap} {mg : Str → Option Value} {fa : Addr} (X : K.In h) (G : h.Ns mainGlobals mg) (hfa : mg "law" = some (.ref fa)) (spec : ∀ ns : List Int, ns.length ≤ 63 → (∀ z ∈ ns, Builtin.Int.intBits z ≤ 1048576) → ∃ S', runK tb 20 18 [.ref 0] (scr ns) = .ok (.bl true) S')
    {f0 f1 f2 f3 f4 f5 f6 f7 f8 f9 f10 f11 f12 f13 f14 f15 f16 f17 f18 C0 C1 C2 : Addr} {od0 an0 : Option Addr} {sl0 : Array (Option Value)} {oc0 kV0 dc0 pm0 cd0 ct0 : Value} {od1 an1 : Option Addr} {sl1 : Array (Option Value)} {oc1 kV1 dc1 pm1 cd1 ct1 : Value} {od2 an2 : Option Addr} {sl2 : Array (Option Value)} {oc2 kV2 dc2 pm2 cd2 ct2 : Value} {od3 an3 : Option Addr} {sl3 : Array (Option Value)} {oc3 kV3 dc3 pm3 cd3 ct3 : Value} {od4 an4 : Option Addr} {sl4 : Array (Option Value)} {oc4 kV4 dc4 pm4 cd4 ct4 : Value} {od5 an5 : Option Addr} {sl5 : Array (Option Value)} {oc5 kV5 dc5 pm5 cd5 ct5 : Value} {od6 an6 : Option Addr} {sl6 : Array (Option Value)} {oc6 kV6 dc6 pm6 cd6 ct6 : Value} {od7 an7 : Option Addr} {sl7 : Array (Option Value)} {oc7 kV7 dc7 pm7 cd7 ct7 : Value} {od8 an8 : Option Addr} {sl8 : Array (Option Value)} {oc8 kV8 dc8 pm8 cd8 ct8 : Value} {od9 an9 : Option Addr} {sl9 : Array (Option Value)} {oc9 kV9 dc9 pm9 cd9 ct9 : Value} {od10 an10 : Option Addr} {sl10 : Array (Option Value)} {oc10 kV10 dc10 pm10 cd10 ct10 : Value} {od11 an11 : Option Addr} {sl11 : Array (Option Value)} {oc11 kV11 dc11 pm11 cd11 ct11 : Value} {od12 an12 : Option Addr} {sl12 : Array (Option Value)} {oc12 kV12 dc12 pm12 cd12 ct12 : Value} {od13 an13 : Option Addr} {sl13 : Array (Option Value)} {oc13 kV13 dc13 pm13 cd13 ct13 : Value} {od14 an14 : Option Addr} {sl14 : Array (Option Value)} {oc14 kV14 dc14 pm14 cd14 ct14 : Value} {od15 an15 : Option Addr} {sl15 : Array (Option Value)} {oc15 kV15 dc15 pm15 cd15 ct15 : Value} {od16 an16 : Option Addr} {sl16 : Array (Option Value)} {oc16 kV16 dc16 pm16 cd16 ct16 : Value} {od17 an17 : Option Addr} {sl17 : Array (Option Value)} {oc17 kV17 dc17 pm17 cd17 ct17 : Value} {od18 an18 : Option Addr} {sl18 : Array (Option Value)} {oc18 kV18 dc18 pm18 cd18 ct18 : Value} {tk_MOST_CLAUSE_FLAGS : Tok} {tk_MOST_CLAUSES : Tok}
    (aC0 : PySem.W.nsIn K mainGlobals "ReplyError" = some (some (.ref C0)))
    (aC1 : PySem.W.nsIn K mainGlobals "NotClauses" = some (some (.ref C1)))
    (aC2 : PySem.W.nsIn K mainGlobals "ClauseBook" = some (some (.ref C2)))
    (a0 : PySem.W.nsIn K mainGlobals "is_whole" = some (some (.ref f0)))
    (l0 : K.lookup f0 = some ⟨oc0, od0, .func (PySem.W.fnOf "is_whole" "is_whole" (defArgs s0) (defBody s0) (defScope s0) .none kV0 dc0 pm0 an0 cd0 ct0), sl0⟩)
    (c0_ : PySem.W.codeIn K cd0 "is_whole" = true)
    (k0 : PySem.W.keepIn K (.ref f0) = true)
    (a1 : PySem.W.nsIn K mainGlobals "is_below" = some (some (.ref f1)))
    (l1 : K.lookup f1 = some ⟨oc1, od1, .func (PySem.W.fnOf "is_below" "is_below" (defArgs s1) (defBody s1) (defScope s1) .none kV1 dc1 pm1 an1 cd1 ct1), sl1⟩)
    (c1_ : PySem.W.codeIn K cd1 "is_below" = true)
    (k1 : PySem.W.keepIn K (.ref f1) = true)
    (a2 : PySem.W.nsIn K mainGlobals "are_below" = some (some (.ref f2)))
    (l2 : K.lookup f2 = some ⟨oc2, od2, .func (PySem.W.fnOf "are_below" "are_below" (defArgs s2) (defBody s2) (defScope s2) .none kV2 dc2 pm2 an2 cd2 ct2), sl2⟩)
    (c2_ : PySem.W.codeIn K cd2 "are_below" = true)
    (k2 : PySem.W.keepIn K (.ref f2) = true)
    (a3 : PySem.W.nsIn K mainGlobals "are_flags" = some (some (.ref f3)))
    (l3 : K.lookup f3 = some ⟨oc3, od3, .func (PySem.W.fnOf "are_flags" "are_flags" (defArgs s3) (defBody s3) (defScope s3) .none kV3 dc3 pm3 an3 cd3 ct3), sl3⟩)
    (c3_ : PySem.W.codeIn K cd3 "are_flags" = true)
    (k3 : PySem.W.keepIn K (.ref f3) = true)
    (a4 : PySem.W.nsIn K mainGlobals "is_ascending" = some (some (.ref f4)))
    (l4 : K.lookup f4 = some ⟨oc4, od4, .func (PySem.W.fnOf "is_ascending" "is_ascending" (defArgs s4) (defBody s4) (defScope s4) .none kV4 dc4 pm4 an4 cd4 ct4), sl4⟩)
    (c4_ : PySem.W.codeIn K cd4 "is_ascending" = true)
    (k4 : PySem.W.keepIn K (.ref f4) = true)
    (a5 : PySem.W.nsIn K mainGlobals "is_clause" = some (some (.ref f5)))
    (l5 : K.lookup f5 = some ⟨oc5, od5, .func (PySem.W.fnOf "is_clause" "is_clause" (defArgs s5) (defBody s5) (defScope s5) .none kV5 dc5 pm5 an5 cd5 ct5), sl5⟩)
    (c5_ : PySem.W.codeIn K cd5 "is_clause" = true)
    (k5 : PySem.W.keepIn K (.ref f5) = true)
    (a6 : PySem.W.nsIn K mainGlobals "are_clauses" = some (some (.ref f6)))
    (l6 : K.lookup f6 = some ⟨oc6, od6, .func (PySem.W.fnOf "are_clauses" "are_clauses" (defArgs s6) (defBody s6) (defScope s6) .none kV6 dc6 pm6 an6 cd6 ct6), sl6⟩)
    (c6_ : PySem.W.codeIn K cd6 "are_clauses" = true)
    (k6 : PySem.W.keepIn K (.ref f6) = true)
    (a7 : PySem.W.findIn K (.ref C2) "__init__" = some (some (.ref f7)))
    (if7 : PySem.W.isFn K (.ref f7) = true)
    (mk7 : PySem.W.makesIn K C2 = true)
    (l7 : K.lookup f7 = some ⟨oc7, od7, .func (PySem.W.fnOf "__init__" "ClauseBook.__init__" (defArgs s7) (defBody s7) (defScope s7) .none kV7 dc7 pm7 an7 cd7 ct7), sl7⟩)
    (c7_ : PySem.W.codeIn K cd7 "ClauseBook.__init__" = true)
    (k7 : PySem.W.keepIn K (.ref f7) = true)
    (a8 : PySem.W.findIn K (.ref C2) "__eq__" = some (some (.ref f8)))
    (if8 : PySem.W.isFn K (.ref f8) = true)
    (ne8 : PySem.W.findIn K (.ref C2) "__ne__" = some (some (.builtin "object.__ne__")))
    (mo8 : PySem.W.mroIn K C2 (.type "object") = some true)
    (nt8 : nfB K C2 = true)
    (nc8_2 : PySem.W.notFirst K C2 (.ref C2) = true)
    (l8 : K.lookup f8 = some ⟨oc8, od8, .func (PySem.W.fnOf "__eq__" "ClauseBook.__eq__" (defArgs s8) (defBody s8) (defScope s8) .none kV8 dc8 pm8 an8 cd8 ct8), sl8⟩)
    (c8_ : PySem.W.codeIn K cd8 "ClauseBook.__eq__" = true)
    (k8 : PySem.W.keepIn K (.ref f8) = true)
    (a9 : PySem.W.nsIn K mainGlobals "_law_cell" = some (some (.ref f9)))
    (l9 : K.lookup f9 = some ⟨oc9, od9, .func (PySem.W.fnOf "_law_cell" "_law_cell" (defArgs s9) (defBody s9) (defScope s9) .none kV9 dc9 pm9 an9 cd9 ct9), sl9⟩)
    (c9_ : PySem.W.codeIn K cd9 "_law_cell" = true)
    (k9 : PySem.W.keepIn K (.ref f9) = true)
    (a10 : PySem.W.nsIn K mainGlobals "_law_row" = some (some (.ref f10)))
    (l10 : K.lookup f10 = some ⟨oc10, od10, .func (PySem.W.fnOf "_law_row" "_law_row" (defArgs s10) (defBody s10) (defScope s10) .none kV10 dc10 pm10 an10 cd10 ct10), sl10⟩)
    (c10_ : PySem.W.codeIn K cd10 "_law_row" = true)
    (k10 : PySem.W.keepIn K (.ref f10) = true)
    (a11 : PySem.W.nsIn K mainGlobals "_law_same" = some (some (.ref f11)))
    (l11 : K.lookup f11 = some ⟨oc11, od11, .func (PySem.W.fnOf "_law_same" "_law_same" (defArgs s11) (defBody s11) (defScope s11) .none kV11 dc11 pm11 an11 cd11 ct11), sl11⟩)
    (c11_ : PySem.W.codeIn K cd11 "_law_same" = true)
    (k11 : PySem.W.keepIn K (.ref f11) = true)
    (a12 : PySem.W.nsIn K mainGlobals "_law_spoiled" = some (some (.ref f12)))
    (l12 : K.lookup f12 = some ⟨oc12, od12, .func (PySem.W.fnOf "_law_spoiled" "_law_spoiled" (defArgs s12) (defBody s12) (defScope s12) .none kV12 dc12 pm12 an12 cd12 ct12), sl12⟩)
    (c12_ : PySem.W.codeIn K cd12 "_law_spoiled" = true)
    (k12 : PySem.W.keepIn K (.ref f12) = true)
    (a13 : PySem.W.nsIn K mainGlobals "_law_bits" = some (some (.ref f13)))
    (l13 : K.lookup f13 = some ⟨oc13, od13, .func (PySem.W.fnOf "_law_bits" "_law_bits" (defArgs s13) (defBody s13) (defScope s13) .none kV13 dc13 pm13 an13 cd13 ct13), sl13⟩)
    (c13_ : PySem.W.codeIn K cd13 "_law_bits" = true)
    (k13 : PySem.W.keepIn K (.ref f13) = true)
    (a14 : PySem.W.nsIn K mainGlobals "_law_clause" = some (some (.ref f14)))
    (l14 : K.lookup f14 = some ⟨oc14, od14, .func (PySem.W.fnOf "_law_clause" "_law_clause" (defArgs s14) (defBody s14) (defScope s14) .none kV14 dc14 pm14 an14 cd14 ct14), sl14⟩)
    (c14_ : PySem.W.codeIn K cd14 "_law_clause" = true)
    (k14 : PySem.W.keepIn K (.ref f14) = true)
    (a15 : PySem.W.nsIn K mainGlobals "_law_clauses" = some (some (.ref f15)))
    (l15 : K.lookup f15 = some ⟨oc15, od15, .func (PySem.W.fnOf "_law_clauses" "_law_clauses" (defArgs s15) (defBody s15) (defScope s15) .none kV15 dc15 pm15 an15 cd15 ct15), sl15⟩)
    (c15_ : PySem.W.codeIn K cd15 "_law_clauses" = true)
    (k15 : PySem.W.keepIn K (.ref f15) = true)
    (a16 : PySem.W.nsIn K mainGlobals "_law_clause_book" = some (some (.ref f16)))
    (l16 : K.lookup f16 = some ⟨oc16, od16, .func (PySem.W.fnOf "_law_clause_book" "_law_clause_book" (defArgs s16) (defBody s16) (defScope s16) .none kV16 dc16 pm16 an16 cd16 ct16), sl16⟩)
    (c16_ : PySem.W.codeIn K cd16 "_law_clause_book" = true)
    (k16 : PySem.W.keepIn K (.ref f16) = true)
    (a17 : PySem.W.nsIn K mainGlobals "_law_refused" = some (some (.ref f17)))
    (l17 : K.lookup f17 = some ⟨oc17, od17, .func (PySem.W.fnOf "_law_refused" "_law_refused" (defArgs s17) (defBody s17) (defScope s17) .none kV17 dc17 pm17 an17 cd17 ct17), sl17⟩)
    (c17_ : PySem.W.codeIn K cd17 "_law_refused" = true)
    (k17 : PySem.W.keepIn K (.ref f17) = true)
    (a18 : PySem.W.nsIn K mainGlobals "law" = some (some (.ref f18)))
    (l18 : K.lookup f18 = some ⟨oc18, od18, .func (PySem.W.fnOf "law" "law" (defArgs s18) (defBody s18) (defScope s18) .none kV18 dc18 pm18 an18 cd18 ct18), sl18⟩)
    (c18_ : PySem.W.codeIn K cd18 "law" = true)
    (k18 : PySem.W.keepIn K (.ref f18) = true)
    (kC0 : PySem.W.keepIn K (.ref C0) = true)
    (kC1 : PySem.W.keepIn K (.ref C1) = true)
    (kC2 : PySem.W.keepIn K (.ref C2) = true)
    (b_len : PySem.W.nsIn K mainGlobals "len" = some none)
    (b_all : PySem.W.nsIn K mainGlobals "all" = some none)
    (b_any : PySem.W.nsIn K mainGlobals "any" = some none)
    (b_tuple : PySem.W.nsIn K mainGlobals "tuple" = some none)
    (b_list : PySem.W.nsIn K mainGlobals "list" = some none)
    (b_int : PySem.W.nsIn K mainGlobals "int" = some none)
    (b_abs : PySem.W.nsIn K mainGlobals "abs" = some none)
    (b_sorted : PySem.W.nsIn K mainGlobals "sorted" = some none)
    (b_sum : PySem.W.nsIn K mainGlobals "sum" = some none)
    (b_bool : PySem.W.nsIn K mainGlobals "bool" = some none)
    (b_isinstance : PySem.W.nsIn K mainGlobals "isinstance" = some none)
    (b_str : PySem.W.nsIn K mainGlobals "str" = some none)
    (b_dict : PySem.W.nsIn K mainGlobals "dict" = some none)
    (b_max : PySem.W.nsIn K mainGlobals "max" = some none)
    (b_min : PySem.W.nsIn K mainGlobals "min" = some none)
    (b_range : PySem.W.nsIn K mainGlobals "range" = some none)
    (b_enumerate : PySem.W.nsIn K mainGlobals "enumerate" = some none)
    (b_zip : PySem.W.nsIn K mainGlobals "zip" = some none)
    (b_reversed : PySem.W.nsIn K mainGlobals "reversed" = some none)
    (b_ValueError : PySem.W.nsIn K mainGlobals "ValueError" = some none)
    (v_MOST_CLAUSE_FLAGS : PySem.W.nsIn K mainGlobals "MOST_CLAUSE_FLAGS" = some (some (.int 500 tk_MOST_CLAUSE_FLAGS)))
    (v_MOST_CLAUSES : PySem.W.nsIn K mainGlobals "MOST_CLAUSES" = some (some (.int 1000000 tk_MOST_CLAUSES)))
    (B1 : xiB K [C0, C1, C2] sb xi = true)
    (B2 : pairB K [C0, C1, C2] sb xi = true)
    (B3 : tcB K [C0, C1, C2] = true)
    (B4 : noList K = true)
    (R0 : rsB K C0 = true)
    (R1 : rsB K C1 = true)
    (t2 : atB K C2 ["sides", "clauses"] = true)
    (I2 : icB K C2 = true)
    (cc2_0 : PySem.W.kitOne K (.ref C2) (.ref C0) = some (sb 2 0))
    (cc2_1 : PySem.W.kitOne K (.ref C2) (.ref C1) = some (sb 2 1))
    (cc2_2 : PySem.W.kitOne K (.ref C2) (.ref C2) = some (sb 2 2))
    : ∃ fd : FuncData, (∀ (s : Shared) (v : Value), BindsTo s fd ⟨[v], []⟩ [("script", v)]) ∧ ∀ base : Heap, K.In base → base.Ns mainGlobals mg → FnOk l.prog w K mg base (L2.CX l.prog w) 20 fa fd ["script"] (spI K 63) := by
  have e : f18 = fa := Value.ref.inj (Option.some.inj ((PySem.W.mg_of X G a18).symm.trans hfa))
  subst e
  have F0 := fun_mk (st := s0) l0 c0_ k0
  have b0 := F0.binds (ps := p0) fun _ _ _ _ _ _ us hl => match us, hl with | [_], _ => rfl
  have F1 := fun_mk (st := s1) l1 c1_ k1
  have b1 := F1.binds (ps := p1) fun _ _ _ _ _ _ us hl => match us, hl with | [_, _], _ => rfl
  have F2 := fun_mk (st := s2) l2 c2_ k2
  have b2 := F2.binds (ps := p2) fun _ _ _ _ _ _ us hl => match us, hl with | [_, _], _ => rfl
  have F3 := fun_mk (st := s3) l3 c3_ k3
  have b3 := F3.binds (ps := p3) fun _ _ _ _ _ _ us hl => match us, hl with | [_], _ => rfl
  have F4 := fun_mk (st := s4) l4 c4_ k4
  have b4 := F4.binds (ps := p4) fun _ _ _ _ _ _ us hl => match us, hl with | [_], _ => rfl
  have F5 := fun_mk (st := s5) l5 c5_ k5
  have b5 := F5.binds (ps := p5) fun _ _ _ _ _ _ us hl => match us, hl with | [_, _], _ => rfl
  have F6 := fun_mk (st := s6) l6 c6_ k6
  have b6 := F6.binds (ps := p6) fun _ _ _ _ _ _ us hl => match us, hl with | [_, _], _ => rfl
  have F7 := fun_mk (st := s7) l7 c7_ k7
  have b7 := F7.binds (ps := p7) fun _ _ _ _ _ _ us hl => match us, hl with | [_, _, _], _ => rfl
  have F8 := fun_mk (st := s8) l8 c8_ k8
  have b8 := F8.binds (ps := p8) fun _ _ _ _ _ _ us hl => match us, hl with | [_, _], _ => rfl
  have F9 := fun_mk (st := s9) l9 c9_ k9
  have b9 := F9.binds (ps := p9) fun _ _ _ _ _ _ us hl => match us, hl with | [_, _], _ => rfl
  have F10 := fun_mk (st := s10) l10 c10_ k10
  have b10 := F10.binds (ps := p10) fun _ _ _ _ _ _ us hl => match us, hl with | [_, _], _ => rfl
  have F11 := fun_mk (st := s11) l11 c11_ k11
  have b11 := F11.binds (ps := p11) fun _ _ _ _ _ _ us hl => match us, hl with | [_, _], _ => rfl
  have F12 := fun_mk (st := s12) l12 c12_ k12
  have b12 := F12.binds (ps := p12) fun _ _ _ _ _ _ us hl => match us, hl with | [_], _ => rfl
  have F13 := fun_mk (st := s13) l13 c13_ k13
  have b13 := F13.binds (ps := p13) fun _ _ _ _ _ _ us hl => match us, hl with | [_, _], _ => rfl
  have F14 := fun_mk (st := s14) l14 c14_ k14
  have b14 := F14.binds (ps := p14) fun _ _ _ _ _ _ us hl => match us, hl with | [_, _, _], _ => rfl
  have F15 := fun_mk (st := s15) l15 c15_ k15
  have b15 := F15.binds (ps := p15) fun _ _ _ _ _ _ us hl => match us, hl with | [_, _, _, _], _ => rfl
  have F16 := fun_mk (st := s16) l16 c16_ k16
  have b16 := F16.binds (ps := p16) fun _ _ _ _ _ _ us hl => match us, hl with | [_, _, _, _], _ => rfl
  have F17 := fun_mk (st := s17) l17 c17_ k17
  have b17 := F17.binds (ps := p17) fun _ _ _ _ _ _ us hl => match us, hl with | [_, _], _ => rfl
  have F18 := fun_mk (st := s18) l18 c18_ k18
  have b18 := F18.binds (ps := p18) fun _ _ _ _ _ _ us hl => match us, hl with | [_], _ => rfl
  refine ⟨PySem.W.fnOf "law" "law" (defArgs s18) (defBody s18) (defScope s18) .none kV18 dc18 pm18 an18 cd18 ct18, fun s v => .of_eq rfl, fun base KB GB => ?_⟩
  have gT : ∀ base : Heap, ∃ g : Ev.G, g = (⟨l.prog, w, K, mg, base, fun i => [f0, f1, f2, f3, f4, f5, f6, f7, f8, f9, f10, f11, f12, f13, f14, f15, f16, f17, f18].getD i 0, fun i => [C0, C1, C2].getD i 0, T, fun _ => none⟩ : Ev.G) := fun base => ⟨_, rfl⟩
  obtain ⟨g, hg⟩ := gT base
  have GT : GTb g tb := by
    intro kk cc jj
    subst hg
    exact {
      nd := (by decide +kernel : T.flds.Nodup)
      fun_ := look_all ⟨⟨mg_of X G a0, k0⟩, ⟨mg_of X G a1, k1⟩, ⟨mg_of X G a2, k2⟩, ⟨mg_of X G a3, k3⟩, ⟨mg_of X G a4, k4⟩, ⟨mg_of X G a5, k5⟩, ⟨mg_of X G a6, k6⟩, ⟨mg_of X G a9, k9⟩, ⟨mg_of X G a10, k10⟩, ⟨mg_of X G a11, k11⟩, ⟨mg_of X G a12, k12⟩, ⟨mg_of X G a13, k13⟩, ⟨mg_of X G a14, k14⟩, ⟨mg_of X G a15, k15⟩, ⟨mg_of X G a16, k16⟩, ⟨mg_of X G a17, k17⟩, ⟨mg_of X G a18, k18⟩, trivial⟩
      cls_ := look_all ⟨mg_of X G aC0, mg_of X G aC1, mg_of X G aC2, trivial⟩
      cst_ := look_all ⟨⟨_, .int 500, mg_of X G v_MOST_CLAUSE_FLAGS, ⟨_, rfl⟩, fun _ _ => .int _⟩, ⟨_, .int 1000000, mg_of X G v_MOST_CLAUSES, ⟨_, rfl⟩, fun _ _ => .int _⟩, trivial⟩
      blt_ := mem_all ⟨mg_none_of X G b_len, mg_none_of X G b_all, mg_none_of X G b_any, mg_none_of X G b_tuple, mg_none_of X G b_list, mg_none_of X G b_int, mg_none_of X G b_abs, mg_none_of X G b_sorted, mg_none_of X G b_sum, mg_none_of X G b_bool, mg_none_of X G b_isinstance, mg_none_of X G b_str, mg_none_of X G b_dict, mg_none_of X G b_max, mg_none_of X G b_min, mg_none_of X G b_range, mg_none_of X G b_enumerate, mg_none_of X G b_zip, mg_none_of X G b_reversed, trivial⟩
      at_ := fun c f h => by
        have h := pair_all (P := fun c f => Cls K ([C0, C1, C2].getD c 0) ∧ NoAttr K ([C0, C1, C2].getD c 0) (T.flds.getD f "")) (l := [(2, 0), (2, 1)]) ⟨⟨(atB_ok t2).1, (atB_ok t2).2 _ (by decide +kernel)⟩, ⟨(atB_ok t2).1, (atB_ok t2).2 _ (by decide +kernel)⟩, trivial⟩ c f h
        exact h
      ic_ := nat_all (l := [2]) ⟨icB_ok (atB_ok t2).1 I2, trivial⟩
      cc_ := fun x m n hm hn => by
        have h := nat_all (P := fun m => ∀ x n, T.clss.lookup x = some n → PySem.W.kitOne K (.ref ([C0, C1, C2].getD m 0)) (.ref ([C0, C1, C2].getD n 0)) = some (sb m n)) (l := [2]) ⟨look_all ⟨cc2_0, cc2_1, cc2_2, trivial⟩, trivial⟩ m hm x n hn
        exact h
      xi_ := fun c hc => xiB_ok B1 (lt_of_contains (l := [0, 1]) (n := 3) hc (by decide +kernel)) hc
      rs_ := nat_all (l := [0, 1]) ⟨⟨(show xi 0 = true from by decide +kernel), rfl, rsB_ok R0⟩, ⟨(show xi 1 = true from by decide +kernel), rfl, rsB_ok R1⟩, trivial⟩
      ex_ := fun x c d hc hd => by
        have hd2 : d < 3 := look_all (P := fun _ i => i < 3) (l := T.clss) (by decide +kernel) x d hd
        exact pairB_ok B2 (lt_of_contains (l := [0, 1]) (n := 3) hc (by decide +kernel)) hd2 hc
      xa_ := fun c f h => by
        have h := pair_all (P := fun c f => ExcC K ([C0, C1, C2].getD c 0) ∧ PySem.W.findIn K (.ref ([C0, C1, C2].getD c 0)) (T.flds.getD f "") = some none) (l := []) trivial c f h
        exact h
      x0_ := fun x c h => by cases h
      x1_ := fun x c f h => by cases h
      eq_ := fun c f h => by
        have h2 : (c = 2 ∧ f = 8) := by
          have h : eqf c = some f := h
          unfold eqf at h
          repeat (first | (split at h; · rename_i hc; cases h; simp [hc]) | cases h)
        rcases h2 with ⟨rfl, rfl⟩
        · exact ⟨(show ic 2 = true from by decide +kernel), a8, if8, ⟨ne8, mo8⟩, fun s hs => nfB_ok nt8 hs, nat_all (P := fun m => PySem.W.notFirst K C2 (.ref ([C0, C1, C2].getD m 0)) = true) (l := [2]) ⟨nc8_2, trivial⟩⟩
      vn_ := mg_none_of X G b_ValueError
      tc_ := fun x s n hs hn => by
        have hd2 : n < 3 := look_all (P := fun _ i => i < 3) (l := T.clss) (by decide +kernel) x n hn
        exact tcB_ok B3 hd2 hs }
  have W0 : FnFact g tb 0 (PySem.W.fnOf "is_whole" "is_whole" (defArgs s0) (defBody s0) (defScope s0) .none kV0 dc0 pm0 an0 cd0 ct0) p0 := by
    subst hg
    exact ⟨⟨n0, _, _, s0, d0, rfl, F0, sc0, c0, rfl, rfl⟩, b0⟩
  have W1 : FnFact g tb 1 (PySem.W.fnOf "is_below" "is_below" (defArgs s1) (defBody s1) (defScope s1) .none kV1 dc1 pm1 an1 cd1 ct1) p1 := by
    subst hg
    exact ⟨⟨n1, _, _, s1, d1, rfl, F1, sc1, c1, rfl, rfl⟩, b1⟩
  have W2 : FnFact g tb 2 (PySem.W.fnOf "are_below" "are_below" (defArgs s2) (defBody s2) (defScope s2) .none kV2 dc2 pm2 an2 cd2 ct2) p2 := by
    subst hg
    exact ⟨⟨n2, _, _, s2, d2, rfl, F2, sc2, c2, rfl, rfl⟩, b2⟩
  have W3 : FnFact g tb 3 (PySem.W.fnOf "are_flags" "are_flags" (defArgs s3) (defBody s3) (defScope s3) .none kV3 dc3 pm3 an3 cd3 ct3) p3 := by
    subst hg
    exact ⟨⟨n3, _, _, s3, d3, rfl, F3, sc3, c3, rfl, rfl⟩, b3⟩
  have W4 : FnFact g tb 4 (PySem.W.fnOf "is_ascending" "is_ascending" (defArgs s4) (defBody s4) (defScope s4) .none kV4 dc4 pm4 an4 cd4 ct4) p4 := by
    subst hg
    exact ⟨⟨n4, _, _, s4, d4, rfl, F4, sc4, c4, rfl, rfl⟩, b4⟩
  have W5 : FnFact g tb 5 (PySem.W.fnOf "is_clause" "is_clause" (defArgs s5) (defBody s5) (defScope s5) .none kV5 dc5 pm5 an5 cd5 ct5) p5 := by
    subst hg
    exact ⟨⟨n5, _, _, s5, d5, rfl, F5, sc5, c5, rfl, rfl⟩, b5⟩
  have W6 : FnFact g tb 6 (PySem.W.fnOf "are_clauses" "are_clauses" (defArgs s6) (defBody s6) (defScope s6) .none kV6 dc6 pm6 an6 cd6 ct6) p6 := by
    subst hg
    exact ⟨⟨n6, _, _, s6, d6, rfl, F6, sc6, c6, rfl, rfl⟩, b6⟩
  have W7 : FnFact g tb 7 (PySem.W.fnOf "__init__" "ClauseBook.__init__" (defArgs s7) (defBody s7) (defScope s7) .none kV7 dc7 pm7 an7 cd7 ct7) p7 := by
    subst hg
    exact ⟨⟨n7, _, _, s7, d7, rfl, F7, sc7, c7, rfl, rfl⟩, b7⟩
  have W8 : FnFact g tb 8 (PySem.W.fnOf "__eq__" "ClauseBook.__eq__" (defArgs s8) (defBody s8) (defScope s8) .none kV8 dc8 pm8 an8 cd8 ct8) p8 := by
    subst hg
    exact ⟨⟨n8, _, _, s8, d8, rfl, F8, sc8, c8, rfl, rfl⟩, b8⟩
  have W9 : FnFact g tb 9 (PySem.W.fnOf "_law_cell" "_law_cell" (defArgs s9) (defBody s9) (defScope s9) .none kV9 dc9 pm9 an9 cd9 ct9) p9 := by
    subst hg
    exact ⟨⟨n9, _, _, s9, d9, rfl, F9, sc9, c9, rfl, rfl⟩, b9⟩
  have W10 : FnFact g tb 10 (PySem.W.fnOf "_law_row" "_law_row" (defArgs s10) (defBody s10) (defScope s10) .none kV10 dc10 pm10 an10 cd10 ct10) p10 := by
    subst hg
    exact ⟨⟨n10, _, _, s10, d10, rfl, F10, sc10, c10, rfl, rfl⟩, b10⟩
  have W11 : FnFact g tb 11 (PySem.W.fnOf "_law_same" "_law_same" (defArgs s11) (defBody s11) (defScope s11) .none kV11 dc11 pm11 an11 cd11 ct11) p11 := by
    subst hg
    exact ⟨⟨n11, _, _, s11, d11, rfl, F11, sc11, c11, rfl, rfl⟩, b11⟩
  have W12 : FnFact g tb 12 (PySem.W.fnOf "_law_spoiled" "_law_spoiled" (defArgs s12) (defBody s12) (defScope s12) .none kV12 dc12 pm12 an12 cd12 ct12) p12 := by
    subst hg
    exact ⟨⟨n12, _, _, s12, d12, rfl, F12, sc12, c12, rfl, rfl⟩, b12⟩
  have W13 : FnFact g tb 13 (PySem.W.fnOf "_law_bits" "_law_bits" (defArgs s13) (defBody s13) (defScope s13) .none kV13 dc13 pm13 an13 cd13 ct13) p13 := by
    subst hg
    exact ⟨⟨n13, _, _, s13, d13, rfl, F13, sc13, c13, rfl, rfl⟩, b13⟩
  have W14 : FnFact g tb 14 (PySem.W.fnOf "_law_clause" "_law_clause" (defArgs s14) (defBody s14) (defScope s14) .none kV14 dc14 pm14 an14 cd14 ct14) p14 := by
    subst hg
    exact ⟨⟨n14, _, _, s14, d14, rfl, F14, sc14, c14, rfl, rfl⟩, b14⟩
  have W15 : FnFact g tb 15 (PySem.W.fnOf "_law_clauses" "_law_clauses" (defArgs s15) (defBody s15) (defScope s15) .none kV15 dc15 pm15 an15 cd15 ct15) p15 := by
    subst hg
    exact ⟨⟨n15, _, _, s15, d15, rfl, F15, sc15, c15, rfl, rfl⟩, b15⟩
  have W16 : FnFact g tb 16 (PySem.W.fnOf "_law_clause_book" "_law_clause_book" (defArgs s16) (defBody s16) (defScope s16) .none kV16 dc16 pm16 an16 cd16 ct16) p16 := by
    subst hg
    exact ⟨⟨n16, _, _, s16, d16, rfl, F16, sc16, c16, rfl, rfl⟩, b16⟩
  have W17 : FnFact g tb 17 (PySem.W.fnOf "_law_refused" "_law_refused" (defArgs s17) (defBody s17) (defScope s17) .none kV17 dc17 pm17 an17 cd17 ct17) p17 := by
    subst hg
    exact ⟨⟨n17, _, _, s17, d17, rfl, F17, sc17, c17, rfl, rfl⟩, b17⟩
  have W18 : FnFact g tb 18 (PySem.W.fnOf "law" "law" (defArgs s18) (defBody s18) (defScope s18) .none kV18 dc18 pm18 an18 cd18 ct18) p18 := by
    subst hg
    exact ⟨⟨n18, _, _, s18, d18, rfl, F18, sc18, c18, rfl, rfl⟩, b18⟩
  have O : PgOk g tb := by
    subst hg
    refine ⟨look_all ⟨⟨_, _, W0⟩, ⟨_, _, W1⟩, ⟨_, _, W2⟩, ⟨_, _, W3⟩, ⟨_, _, W4⟩, ⟨_, _, W5⟩, ⟨_, _, W6⟩, ⟨_, _, W9⟩, ⟨_, _, W10⟩, ⟨_, _, W11⟩, ⟨_, _, W12⟩, ⟨_, _, W13⟩, ⟨_, _, W14⟩, ⟨_, _, W15⟩, ⟨_, _, W16⟩, ⟨_, _, W17⟩, ⟨_, _, W18⟩, trivial⟩, fun c f h => ?_, look_all ⟨⟨kC0, fun f h => by cases h⟩, ⟨kC1, fun f h => by cases h⟩, ⟨kC2, fun f h => by cases h; exact ⟨⟨mk7, a7, if7, kC2⟩, _, _, W7⟩⟩, trivial⟩⟩
    have h2 : (c = 2 ∧ f = 8) := by
      have h : eqf c = some f := h
      unfold eqf at h
      repeat (first | (split at h; · rename_i hc; cases h; simp [hc]) | cases h)
    rcases h2 with ⟨rfl, rfl⟩
    · exact ⟨_, _, W8⟩
  have R := law_fn GT O (i := 18) (k := 20) (n := 63) W18 (by subst hg; exact B4) spec
  subst hg
  exact R
end
end Lk50
set_option Elab.async false
set_option linter.all false
set_option maxRecDepth 100000
set_option autoImplicit false
set_option maxHeartbeats 4000000
/-! Ev, part T: rows for the simplifier: the interpreter run by simp, step by step. Printed by evt.py. -/
namespace Ev
section
variable {α β : Type} {f : α → Store → R β} {h : α → Store → R Fl} {σ : Env}
@[simp] theorem bind_ok' (a : α) (S : Store) : (R.ok a S).bind f = f a S := rfl
@[simp] theorem bind_ex' (c : Nat) (dd : List D) (S : Store) : (R.ex c dd S : R α).bind f = .ex c dd S := rfl
@[simp] theorem cat_ok' (a : α) (S : Store) : (R.ok a S).cat σ h = h a S := rfl
@[simp] theorem cat_ex' (c : Nat) (dd : List D) (S : Store) : (R.ex c dd S : R α).cat σ h = .ok (.xc σ c dd) S := rfl
@[simp] theorem map_ok' (a : α) (S : Store) (f : α → β) : (R.ok a S).map f = .ok (f a) S := rfl
@[simp] theorem nox_ok' (a : α) (S : Store) : (R.ok a S).nox = .ok a S := rfl
@[simp] theorem ofO_some (a : α) (S : Store) : ofO S (some a) = .ok a S := rfl
end
@[simp] theorem alloc_v (d : D) (S : Store) : alloc (.v d) S = (d, S) := rfl
@[simp] theorem alloc_t (o : O) (S : Store) : alloc (.t o) S = (.ref S.length, S ++ [o]) := rfl
@[simp] theorem ralloc (t : T) (S : Store) : (R.ok t S).alloc = .ok (alloc t S).1 (alloc t S).2 := rfl
section
variable (cx : Cxt) (σ : Env) (S : Store)
@[simp] theorem den_var (i : Nat) : (den cx (.var i)).e σ S = ofO S ((σ[i]?.join).map T.v) := rfl
@[simp] theorem den_cst (d : D) : (den cx (.cst d)).e σ S = .ok (.v d) S := rfl
def kNd (cx : Cxt) (k : Kd) : List T → Store → R T := fun ts S => app cx S k ts
@[simp] theorem kNd_ap (cx : Cxt) (k : Kd) (ts : List T) (S : Store) : kNd cx k ts S = app cx S k ts := rfl
@[simp] theorem den_nd (k : Kd) (es : List Ex) : (den cx (.nd k es)).e σ S = (dens cx es σ S).bind (kNd cx k) := rfl
def kNa (cx : Cxt) (k : Ka) : List D → Store → R T := fun ts S => appA cx S k ts
@[simp] theorem kNa_ap (cx : Cxt) (k : Ka) (ts : List D) (S : Store) : kNa cx k ts S = appA cx S k ts := rfl
@[simp] theorem den_na (k : Ka) (es : List Ex) : (den cx (.na k es)).e σ S = (ded cx es σ S).bind (kNa cx k) := rfl
def andK (cx : Cxt) (b : Ex) (σ : Env) (t : T) (S : Store) : R T := match t with
  | .v (.bl true) => (den cx b).e σ S
  | .v (.bl false) => .ok (.v (.bl false)) S
  | _ => .bad
def orK (cx : Cxt) (b : Ex) (σ : Env) (t : T) (S : Store) : R T := match t with
  | .v (.bl false) => (den cx b).e σ S
  | .v (.bl true) => .ok (.v (.bl true)) S
  | _ => .bad
def notK (t : T) (S : Store) : R T := match t with
  | .v (.bl c) => .ok (.v (.bl (!c))) S
  | _ => .bad
@[simp] theorem den_and (a b : Ex) : (den cx (.and a b)).e σ S = ((den cx a).e σ S).bind (andK cx b σ) := rfl
@[simp] theorem den_or (a b : Ex) : (den cx (.or a b)).e σ S = ((den cx a).e σ S).bind (orK cx b σ) := rfl
@[simp] theorem den_not (a : Ex) : (den cx (.not a)).e σ S = ((den cx a).e σ S).bind notK := rfl
@[simp] theorem andK_t (b : Ex) : andK cx b σ (.v (.bl true)) S = (den cx b).e σ S := rfl
@[simp] theorem andK_f (b : Ex) : andK cx b σ (.v (.bl false)) S = .ok (.v (.bl false)) S := rfl
@[simp] theorem orK_t (b : Ex) : orK cx b σ (.v (.bl true)) S = .ok (.v (.bl true)) S := rfl
@[simp] theorem orK_f (b : Ex) : orK cx b σ (.v (.bl false)) S = (den cx b).e σ S := rfl
theorem andK_b (b : Ex) (c : Bool) : andK cx b σ (.v (.bl c)) S = if c = true then (den cx b).e σ S else .ok (.v (.bl false)) S := by cases c <;> rfl
theorem orK_b (b : Ex) (c : Bool) : orK cx b σ (.v (.bl c)) S = if c = true then .ok (.v (.bl true)) S else (den cx b).e σ S := by cases c <;> rfl
@[simp] theorem notK_b (c : Bool) : notK (.v (.bl c)) S = .ok (.v (.bl (!c))) S := rfl
def iteK (cx : Cxt) (a b : Ex) (σ : Env) : Bool → Store → R T := fun x S => if x = true then (den cx a).e σ S else (den cx b).e σ S
@[simp] theorem iteK_ap (cx : Cxt) (a b : Ex) (σ : Env) (x : Bool) (S : Store) : iteK cx a b σ x S = if x = true then (den cx a).e σ S else (den cx b).e σ S := rfl
@[simp] theorem den_ite (c a b : Ex) : (den cx (.ite c a b)).e σ S = ((den cx c).b σ S).bind (iteK cx a b σ) := rfl
def ch4 (cx : Cxt) (o' : Cm) (y : T) : T → Store → R T := fun z S => ofO S ((cmpE S o' y z).map fun q => .v (.bl q))
@[simp] theorem ch4_ap (cx : Cxt) (o' : Cm) (y : T) (z : T) (S : Store) : ch4 cx o' y z S = ofO S ((cmpE S o' y z).map fun q => .v (.bl q)) := rfl
def ch3 (cx : Cxt) (o' : Cm) (c : Ex) (σ : Env) (y : T) : Bool → Store → R T := fun r S => if r = true then ((den cx c).e σ S).bind (ch4 cx o' y) else .ok (.v (.bl false)) S
@[simp] theorem ch3_ap (cx : Cxt) (o' : Cm) (c : Ex) (σ : Env) (y : T) (r : Bool) (S : Store) : ch3 cx o' c σ y r S = if r = true then ((den cx c).e σ S).bind (ch4 cx o' y) else .ok (.v (.bl false)) S := rfl
def ch2 (cx : Cxt) (o o' : Cm) (c : Ex) (σ : Env) (x : T) : T → Store → R T := fun y S => (ofO S (cmpE S o x y)).bind (ch3 cx o' c σ y)
@[simp] theorem ch2_ap (cx : Cxt) (o o' : Cm) (c : Ex) (σ : Env) (x : T) (y : T) (S : Store) : ch2 cx o o' c σ x y S = (ofO S (cmpE S o x y)).bind (ch3 cx o' c σ y) := rfl
def ch1 (cx : Cxt) (o o' : Cm) (b c : Ex) (σ : Env) : T → Store → R T := fun x S => ((den cx b).e σ S).bind (ch2 cx o o' c σ x)
@[simp] theorem ch1_ap (cx : Cxt) (o o' : Cm) (b c : Ex) (σ : Env) (x : T) (S : Store) : ch1 cx o o' b c σ x S = ((den cx b).e σ S).bind (ch2 cx o o' c σ x) := rfl
@[simp] theorem den_ch (o o' : Cm) (a b c : Ex) : (den cx (.ch o o' a b c)).e σ S = ((den cx a).e σ S).bind (ch1 cx o o' b c σ) := rfl
def lcEnd (ds : List D) (S : Store) : R T := .ok (.t (.lst ds)) S
@[simp] theorem lcEnd_ap (ds : List D) : lcEnd ds S = .ok (.t (.lst ds)) S := rfl
def elF (cx : Cxt) (el : Ex) : Env → Store → R D := fun σ S => ((den cx el).e σ S).alloc
@[simp] theorem elF_ap (el : Ex) : elF cx el σ S = ((den cx el).e σ S).alloc := rfl
def lcO (cx : Cxt) (t : Tg) (cs : List Ex) (el : Ex) (own : List Nat) (σ : Env) (S : Store) : Option (List D × (Store → Bool)) → R T
  | none => .bad
  | some p => (lcL (bindT t) (dent cx cs) (elF cx el) p.2 (wipeE σ own) p.1 S).nox.bind lcEnd
@[simp] theorem lcO_some (t : Tg) (cs : List Ex) (el : Ex) (own : List Nat) (p : List D × (Store → Bool)) : lcO cx t cs el own σ S (some p) = (lcL (bindT t) (dent cx cs) (elF cx el) p.2 (wipeE σ own) p.1 S).nox.bind lcEnd := rfl
def lcK (cx : Cxt) (t : Tg) (ik : Ik) (cs : List Ex) (el : Ex) (own : List Nat) (σ : Env) : List T → Store → R T := fun ts S => lcO cx t cs el own σ S (iterOf S ik ts)
@[simp] theorem lcK_ap (t : Tg) (ik : Ik) (cs : List Ex) (el : Ex) (own : List Nat) (ts : List T) : lcK cx t ik cs el own σ ts S = lcO cx t cs el own σ S (iterOf S ik ts) := rfl
@[simp] theorem den_lc (t : Tg) (ik : Ik) (ia cs : List Ex) (el : Ex) (own : List Nat) : (den cx (.lc t ik ia cs el own)).e σ S = (dens cx ia σ S).bind (lcK cx t ik cs el own σ) := by
  show (dens cx ia σ S).bind _ = _
  congr 1
def sl3 (x : T) (i : Int) : T → Store → R T := fun z S => ofO S ((intO z).bind fun j => slcE S x (some i) (some j))
@[simp] theorem sl3_ap (x : T) (i : Int) (z : T) (S : Store) : sl3 x i z S = ofO S ((intO z).bind fun j => slcE S x (some i) (some j)) := rfl
def sl2 (cx : Cxt) (h : Ex) (σ : Env) (x : T) (y : T) (S : Store) : R T := match intO y with
      | none => .bad
      | some i => ((den cx h).e σ S).bind (sl3 x i)
@[simp] theorem sl2_ap (h : Ex) (x : T) (i : Int) : sl2 cx h σ x (.v (.int i)) S = ((den cx h).e σ S).bind (sl3 x i) := rfl
def sl1 (cx : Cxt) (l h : Ex) (σ : Env) (x : T) (S : Store) : R T := ((den cx l).e σ S).bind (sl2 cx h σ x)
@[simp] theorem sl1_ap (l h : Ex) (x : T) : sl1 cx l h σ x S = ((den cx l).e σ S).bind (sl2 cx h σ x) := rfl
@[simp] theorem den_sl (a l h : Ex) : (den cx (.sl a l h)).e σ S = ((den cx a).e σ S).bind (sl1 cx l h σ) := by
  show ((den cx a).e σ S).bind _ = _
  congr 1
def met2 (m : Me) (t : T) : List D → Store → R T := fun ds S => meE S m t ds
@[simp] theorem met2_ap (m : Me) (t : T) (ds : List D) (S : Store) : met2 m t ds S = meE S m t ds := rfl
def met1 (cx : Cxt) (m : Me) (es : List Ex) (σ : Env) : T → Store → R T := fun t S => if meOk S m t = true then (ded cx es σ S).bind (met2 m t) else .bad
@[simp] theorem met1_ap (cx : Cxt) (m : Me) (es : List Ex) (σ : Env) (t : T) (S : Store) : met1 cx m es σ t S = if meOk S m t = true then (ded cx es σ S).bind (met2 m t) else .bad := rfl
@[simp] theorem den_meth (m : Me) (o : Ex) (es : List Ex) : (den cx (.meth m o es)).e σ S = ((den cx o).e σ S).bind (met1 cx m es σ) := rfl
def truK  : T → Store → R Bool := fun t S => ofO S (truth S t)
@[simp] theorem truK_ap  (t : T) (S : Store) : truK  t S = ofO S (truth S t) := rfl
@[simp] theorem denb_var (i : Nat) : (den cx (.var i)).b σ S = ((den cx (.var i)).e σ S).bind truK := rfl
@[simp] theorem denb_nd (k : Kd) (es : List Ex) : (den cx (.nd k es)).b σ S = ((den cx (.nd k es)).e σ S).bind truK := rfl
@[simp] theorem denb_na (k : Ka) (es : List Ex) : (den cx (.na k es)).b σ S = ((den cx (.na k es)).e σ S).bind truK := rfl
@[simp] theorem denb_ch (o o' : Cm) (a b c : Ex) : (den cx (.ch o o' a b c)).b σ S = ((den cx (.ch o o' a b c)).e σ S).bind truK := rfl
@[simp] theorem denb_lc (t : Tg) (ik : Ik) (ia cs : List Ex) (el : Ex) (own : List Nat) : (den cx (.lc t ik ia cs el own)).b σ S = ((den cx (.lc t ik ia cs el own)).e σ S).bind truK := rfl
@[simp] theorem denb_meth (m : Me) (o : Ex) (es : List Ex) : (den cx (.meth m o es)).b σ S = ((den cx (.meth m o es)).e σ S).bind truK := rfl
@[simp] theorem denb_sl (a l h : Ex) : (den cx (.sl a l h)).b σ S = ((den cx (.sl a l h)).e σ S).bind truK := rfl
@[simp] theorem denb_cst (d : D) : (den cx (.cst d)).b σ S = ofO S (truth S (.v d)) := rfl
def bAnd (cx : Cxt) (b : Ex) (σ : Env) : Bool → Store → R Bool := fun c S => if c = true then (den cx b).b σ S else .ok false S
@[simp] theorem bAnd_ap (cx : Cxt) (b : Ex) (σ : Env) (c : Bool) (S : Store) : bAnd cx b σ c S = if c = true then (den cx b).b σ S else .ok false S := rfl
def bOr (cx : Cxt) (b : Ex) (σ : Env) : Bool → Store → R Bool := fun c S => if c = true then .ok true S else (den cx b).b σ S
@[simp] theorem bOr_ap (cx : Cxt) (b : Ex) (σ : Env) (c : Bool) (S : Store) : bOr cx b σ c S = if c = true then .ok true S else (den cx b).b σ S := rfl
def bNot  : Bool → Store → R Bool := fun c S => .ok (!c) S
@[simp] theorem bNot_ap  (c : Bool) (S : Store) : bNot  c S = .ok (!c) S := rfl
def bIte (cx : Cxt) (a b : Ex) (σ : Env) : Bool → Store → R Bool := fun c S => if c = true then (den cx a).b σ S else (den cx b).b σ S
@[simp] theorem bIte_ap (cx : Cxt) (a b : Ex) (σ : Env) (c : Bool) (S : Store) : bIte cx a b σ c S = if c = true then (den cx a).b σ S else (den cx b).b σ S := rfl
@[simp] theorem denb_and (a b : Ex) : (den cx (.and a b)).b σ S = ((den cx a).b σ S).bind (bAnd cx b σ) := rfl
@[simp] theorem denb_or (a b : Ex) : (den cx (.or a b)).b σ S = ((den cx a).b σ S).bind (bOr cx b σ) := rfl
@[simp] theorem denb_not (a : Ex) : (den cx (.not a)).b σ S = ((den cx a).b σ S).bind bNot := rfl
@[simp] theorem denb_ite (c a b : Ex) : (den cx (.ite c a b)).b σ S = ((den cx c).b σ S).bind (bIte cx a b σ) := rfl
def cons2 {α : Type} (t : α) : List α → Store → R (List α) := fun ts S => .ok (t :: ts) S
@[simp] theorem cons2_ap {α : Type} (t : α) (ts : List α) : cons2 t ts S = .ok (t :: ts) S := rfl
def cons1 (cx : Cxt) (es : List Ex) (σ : Env) : T → Store → R (List T) := fun t S => (dens cx es σ S).bind (cons2 t)
@[simp] theorem cons1_ap (es : List Ex) (t : T) : cons1 cx es σ t S = (dens cx es σ S).bind (cons2 t) := rfl
def con1 (cx : Cxt) (es : List Ex) (σ : Env) : D → Store → R (List D) := fun t S => (ded cx es σ S).bind (cons2 t)
@[simp] theorem con1_ap (es : List Ex) (t : D) : con1 cx es σ t S = (ded cx es σ S).bind (cons2 t) := rfl
@[simp] theorem dens_nil : dens cx [] σ S = .ok [] S := rfl
@[simp] theorem dens_cons (e : Ex) (es : List Ex) : dens cx (e :: es) σ S = ((den cx e).e σ S).bind (cons1 cx es σ) := rfl
@[simp] theorem ded_nil' : ded cx [] σ S = .ok [] S := rfl
@[simp] theorem ded_cons (e : Ex) (es : List Ex) : ded cx (e :: es) σ S = ((den cx e).e σ S).alloc.bind (con1 cx es σ) := rfl
@[simp] theorem dent_nil : dent cx [] σ S = .ok true S := rfl
@[simp] theorem dent_cons (c : Ex) (r : List Ex) : dent cx (c :: r) σ S = (den cx c).b σ S := rfl
@[simp] theorem app_op (o : Op2) (a b : T) : app cx S (.op o) [a, b] = ofO S (opE S o a b) := rfl
@[simp] theorem app_neg (i : Int) : app cx S .neg [.v (.int i)] = .ok (.v (.int (-i))) S := rfl
def cmpF (cx : Cxt) (S : Store) (o : Cm) (a b : T) : Option (Nat × D × D) → R T
  | some q => (cx.cj q.1 [q.2.1, q.2.2] S).nox.bind (ownK o)
  | none => ofO S ((cmpE S o a b).map fun c => .v (.bl c))
@[simp] theorem cmpF_none (o : Cm) (a b : T) : cmpF cx S o a b none = ofO S ((cmpE S o a b).map fun c => .v (.bl c)) := rfl
@[simp] theorem cmpF_some (o : Cm) (a b : T) (q : Nat × D × D) : cmpF cx S o a b (some q) = (cx.cj q.1 [q.2.1, q.2.2] S).nox.bind (ownK o) := rfl
@[simp] theorem ownK_bl (o : Cm) (r : Bool) : ownK o (.bl r) S = .ok (.v (.bl (negB o r))) S := rfl
@[simp] theorem app_cmp (o : Cm) (a b : T) : app cx S (.cmp o) [a, b] = cmpF cx S o a b (ownQ cx S o a b) := by
  show (match ownQ cx S o a b with | some q => _ | none => _) = _
  cases ownQ cx S o a b <;> rfl
@[simp] theorem own_lt (a b : T) : ownQ cx S .lt a b = none := rfl
@[simp] theorem own_le (a b : T) : ownQ cx S .le a b = none := rfl
@[simp] theorem own_gt (a b : T) : ownQ cx S .gt a b = none := rfl
@[simp] theorem own_ge (a b : T) : ownQ cx S .ge a b = none := rfl
@[simp] theorem own_mem (a b : T) : ownQ cx S .mem a b = none := rfl
@[simp] theorem own_nmem (a b : T) : ownQ cx S .nmem a b = none := rfl
@[simp] theorem own_is (a b : T) : ownQ cx S .is a b = none := rfl
@[simp] theorem own_nis (a b : T) : ownQ cx S .nis a b = none := rfl
@[simp] theorem own_int (o : Cm) (i : Int) (b : T) : ownQ cx S o (.v (.int i)) b = none := by unfold ownQ; split <;> rfl
@[simp] theorem own_str (o : Cm) (x : PySem.Str) (b : T) : ownQ cx S o (.v (.str x)) b = none := by unfold ownQ; split <;> rfl
@[simp] theorem own_bl (o : Cm) (x : Bool) (b : T) : ownQ cx S o (.v (.bl x)) b = none := by unfold ownQ; split <;> rfl
@[simp] theorem own_non (o : Cm) (b : T) : ownQ cx S o (.v .non) b = none := by unfold ownQ; split <;> rfl
@[simp] theorem own_tup (o : Cm) (x : List D) (b : T) : ownQ cx S o (.v (.tup x)) b = none := by unfold ownQ; split <;> rfl
@[simp] theorem own_t (o : Cm) (x : O) (b : T) : ownQ cx S o (.t x) b = none := by unfold ownQ; split <;> rfl
theorem own_lst {o : Cm} {n : Nat} {ds : List D} {b : T} (h : S[n]? = some (.lst ds)) : ownQ cx S o (.v (.ref n)) b = none := by
  unfold ownQ
  split
  · cases b with
    | v y => dsimp only; rw [h]
    | t _ => rfl
  · rfl
@[simp] theorem app_idx (a i : T) : app cx S .idx [a, i] = ofO S ((idxE S a i).map T.v) := rfl
@[simp] theorem app_slc0 (a : T) : app cx S (.slc 0) [a] = ofO S (slcE S a none none) := rfl
@[simp] theorem app_slc1 (a : T) (i : Int) : app cx S (.slc 1) [a, .v (.int i)] = ofO S (slcE S a (some i) none) := rfl
@[simp] theorem app_slc2 (a : T) (i : Int) : app cx S (.slc 2) [a, .v (.int i)] = ofO S (slcE S a none (some i)) := rfl
@[simp] theorem app_bi (b : Bi) (t : T) : app cx S (.bi b) [t] = ofO S (biE S b t) := rfl
theorem app_isiC (n : Nat) (a : T) : app cx S (.isi (.c n)) [a] = match tyC S a with
      | some m => if cx.ic m = true then .ok (.v (.bl (cx.sb m n))) S else .bad
      | none => match tyX S a with
        | some m => if cx.xi m = true then .ok (.v (.bl (cx.sb m n))) S else .bad
        | none => match tyB S a with
          | some _ => .ok (.v (.bl false)) S
          | none => .bad := rfl
theorem app_isiB (s : String) (a : T) : app cx S (.isi (.b s)) [a] = match tyB S a with
      | some u => ofO S ((L2.kitB u s).map fun c => .v (.bl c))
      | none => match tyC S a with
        | some m => if cx.ic m = true then .ok (.v (.bl false)) S else .bad
        | none => .bad := rfl
theorem app_isiV (a : T) : app cx S (.isi .ve) [a] = match tyX S a with
      | some m => if cx.xi m = true then .ok (.v (.bl (cx.sb m 1000))) S else .bad
      | none => .bad := rfl
theorem app_fld (f : Nat) (t : T) : app cx S (.fld f) [t] = match objW S t with
    | some (.ins c fs) => if cx.at_ c f = true then ofO S ((fs.lookup f).map T.v) else .bad
    | some (.exn c fs) => if cx.xa c f = true then ofO S ((fs.lookup f).map T.v) else .bad
    | _ => .bad := rfl
/-- isinstance of a value of a built-in type -/
theorem isiB_of {s u : String} {a : T} {c : Bool} (h : tyB S a = some u) (k : L2.kitB u s = some c) : app cx S (.isi (.b s)) [a] = .ok (.v (.bl c)) S := by
  rw [app_isiB, h]
  show ofO S ((L2.kitB u s).map _) = _
  rw [k]
  rfl
@[simp] theorem app_dct : app cx S .dct [] = .ok (.t (.dK [])) S := rfl
@[simp] theorem appA_tup (ds : List D) : appA cx S .tup ds = if ds.length ≤ PySem.sizeLine then .ok (.v (.tup ds)) S else .bad := rfl
@[simp] theorem appA_lst (ds : List D) : appA cx S .lst ds = if ds.length ≤ PySem.sizeLine then .ok (.t (.lst ds)) S else .bad := rfl
def valK1 : D → Store → R T := fun d S => .ok (.v d) S
@[simp] theorem valK1_ap (d : D) : valK1 d S = .ok (.v d) S := rfl
@[simp] theorem appA_call (f : Nat) (ds : List D) : appA cx S (.call f) ds = (cx.call f ds S).bind valK1 := rfl
@[simp] theorem appA_mk (c : Nat) (ds : List D) : appA cx S (.mk c) ds = (cx.mak c ds S).bind valK1 := rfl
@[simp] theorem appA_mkx0 (c : Nat) : appA cx S (.mkx c none) [] = if cx.lv = true then .ok (.v (.ref S.length)) (S ++ [.exn c []]) else .bad := rfl
@[simp] theorem appA_mkx1 (c f : Nat) (d : D) : appA cx S (.mkx c (some f)) [d] = if cx.lv = true then .ok (.v (.ref S.length)) (S ++ [.exn c [(f, d)]]) else .bad := rfl
/-! statements -/
def setK (i : Nat) (σ : Env) : T → Store → R Fl := fun v S => if i < σ.length then .ok (.nx (σ.set i (some (alloc v S).1))) (alloc v S).2 else .bad
@[simp] theorem setK_ap (i : Nat) (v : T) : setK i σ v S = if i < σ.length then .ok (.nx (σ.set i (some (alloc v S).1))) (alloc v S).2 else .bad := rfl
@[simp] theorem ex_set (i : Nat) (e : Ex) : exS cx (.set (.var i) e) σ S = ((den cx e).e σ S).cat σ (setK i σ) := by simp only [exS]; rfl
def retK : D → Store → R Fl := fun d S => .ok (.rt d) S
@[simp] theorem retK_ap (d : D) : retK d S = .ok (.rt d) S := rfl
@[simp] theorem ex_ret (e : Ex) : exS cx (.ret e) σ S = ((den cx e).e σ S).alloc.cat σ retK := by simp only [exS]; rfl
@[simp] theorem ex_retN : exS cx .retN σ S = .ok (.rt .non) S := by simp only [exS]
@[simp] theorem ex_nop : exS cx .nop σ S = .ok (.nx σ) S := by simp only [exS]
@[simp] theorem ex_brk : exS cx .brk σ S = .ok (.bk σ) S := by simp only [exS]
@[simp] theorem ex_cnt : exS cx .cnt σ S = .ok (.ct σ) S := by simp only [exS]
def exK (σ : Env) : T → Store → R Fl := fun _ S => .ok (.nx σ) S
@[simp] theorem exK_ap (t : T) : exK σ t S = .ok (.nx σ) S := rfl
@[simp] theorem ex_ex (e : Ex) : exS cx (.ex e) σ S = ((den cx e).e σ S).cat σ (exK σ) := by simp only [exS]; rfl
noncomputable def ifK (cx : Cxt) (a b : List Sx) (σ : Env) : Bool → Store → R Fl := fun x S => if x = true then exSs cx a σ S else exSs cx b σ S
@[simp] theorem ifK_ap (a b : List Sx) (x : Bool) : ifK cx a b σ x S = if x = true then exSs cx a σ S else exSs cx b σ S := rfl
@[simp] theorem ex_ite (c : Ex) (a b : List Sx) : exS cx (.ite c a b) σ S = ((den cx c).b σ S).cat σ (ifK cx a b σ) := by simp only [exS]; rfl
noncomputable def frO (cx : Cxt) (t : Tg) (b : List Sx) (σ : Env) (S : Store) : Option (List D × (Store → Bool)) → R Fl
  | none => .bad
  | some p => frL (bindT t) (exSs cx b) p.2 p.1 σ S
@[simp] theorem frO_some (t : Tg) (b : List Sx) (p : List D × (Store → Bool)) : frO cx t b σ S (some p) = frL (bindT t) (exSs cx b) p.2 p.1 σ S := rfl
noncomputable def frK (cx : Cxt) (t : Tg) (ik : Ik) (b : List Sx) (σ : Env) : List T → Store → R Fl := fun ts S => frO cx t b σ S (iterOf S ik ts)
@[simp] theorem frK_ap (t : Tg) (ik : Ik) (b : List Sx) (ts : List T) : frK cx t ik b σ ts S = frO cx t b σ S (iterOf S ik ts) := rfl
@[simp] theorem ex_fr (t : Tg) (ik : Ik) (ia : List Ex) (b : List Sx) : exS cx (.fr t ik ia b) σ S = (dens cx ia σ S).cat σ (frK cx t ik b σ) := by
  simp only [exS]
  congr 1
@[simp] theorem exs_nil : exSs cx [] σ S = .ok (.nx σ) S := by simp only [exSs]
noncomputable def seqK (cx : Cxt) (r : List Sx) (f : Fl) (S : Store) : R Fl := match f with
  | .nx σ1 => exSs cx r σ1 S
  | f => .ok f S
@[simp] theorem seqK_nx (r : List Sx) : seqK cx r (.nx σ) S = exSs cx r σ S := rfl
@[simp] theorem seqK_rt (r : List Sx) (d : D) : seqK cx r (.rt d) S = .ok (.rt d) S := rfl
@[simp] theorem seqK_bk (r : List Sx) : seqK cx r (.bk σ) S = .ok (.bk σ) S := rfl
@[simp] theorem seqK_ct (r : List Sx) : seqK cx r (.ct σ) S = .ok (.ct σ) S := rfl
@[simp] theorem seqK_xc (r : List Sx) (c : Nat) (dd : List D) : seqK cx r (.xc σ c dd) S = .ok (.xc σ c dd) S := rfl
@[simp] theorem exs_cons (s : Sx) (r : List Sx) : exSs cx (s :: r) σ S = (exS cx s σ S).bind (seqK cx r) := by
  simp only [exSs]
  congr 1
@[simp] theorem fin_rt (d : D) (S1 : Store) : finE S (.ok (.rt d) S1) = .ok d (gc S d S1) := rfl
@[simp] theorem fin_nx (S1 : Store) : finE S (.ok (.nx σ) S1) = .ok .non (gc S .non S1) := rfl
@[simp] theorem fin_xc (c : Nat) (dd : List D) (S1 : Store) : finE S (.ok (.xc σ c dd) S1) = .ex c dd (gcX S dd S1) := rfl
end
@[simp] theorem gc_same (S : Store) (d : D) : gc S d S = S := by unfold gc; split <;> rfl
@[simp] theorem gc_app (S T : Store) (d : D) : gc S d (S ++ T) = if noRef S.length d = true then S else S ++ T := by
  unfold gc
  simp
@[simp] theorem cxK_call (tb : Tb) (k : Nat) : (cxK tb k).call = runK tb k := rfl
@[simp] theorem cxK_mak (tb : Tb) (k : Nat) : (cxK tb k).mak = mkE (runJ tb k) tb.ini := rfl
@[simp] theorem cxK_sb (tb : Tb) (k : Nat) : (cxK tb k).sb = tb.sb := rfl
@[simp] theorem cxK_at (tb : Tb) (k : Nat) : (cxK tb k).at_ = tb.at_ := rfl
@[simp] theorem cxK_ic (tb : Tb) (k : Nat) : (cxK tb k).ic = tb.ic := rfl
@[simp] theorem cxK_rs (tb : Tb) (k : Nat) : (cxK tb k).rs = tb.rs := rfl
@[simp] theorem cxK_xi (tb : Tb) (k : Nat) : (cxK tb k).xi = tb.xi := rfl
@[simp] theorem cxK_xa (tb : Tb) (k : Nat) : (cxK tb k).xa = tb.xa := rfl
@[simp] theorem cxK_eq (tb : Tb) (k : Nat) : (cxK tb k).eq = tb.eq := rfl
@[simp] theorem cxK_cj (tb : Tb) (k : Nat) : (cxK tb k).cj = runJ tb k := rfl
@[simp] theorem runJ_s (tb : Tb) (k : Nat) : runJ tb (k + 1) = runK tb k := rfl
@[simp] theorem app_bk (cx : Cxt) (S : Store) (t : T) : app cx S .bk [t] = ofO S (bkE S t) := rfl
@[simp] theorem app_max (cx : Cxt) (S : Store) (i j : Int) : app cx S .max2 [.v (.int i), .v (.int j)] = .ok (.v (.int (if j > i then j else i))) S := rfl
@[simp] theorem app_min (cx : Cxt) (S : Store) (i j : Int) : app cx S .min2 [.v (.int i), .v (.int j)] = .ok (.v (.int (if j < i then j else i))) S := rfl
@[simp] theorem cxK_lv (tb : Tb) (k : Nat) : (cxK tb k).lv = decide (2 ≤ k) := rfl
theorem app_at {α : Type} {S : List α} {n : Nat} {o : α} (h : S[n]? = some o) (T : List α) : (S ++ T)[n]? = some o := by
  rw [List.getElem?_append_left (List.getElem?_eq_some_iff.mp h).1]
  exact h
theorem size_line : PySem.sizeLine = 16777216 := PySem.sizeLine_eq

@[simp] theorem kb_NoneType_int : L2.kitB "NoneType" "int" = some false := by decide +kernel
@[simp] theorem kb_NoneType_bool : L2.kitB "NoneType" "bool" = some false := by decide +kernel
@[simp] theorem kb_NoneType_str : L2.kitB "NoneType" "str" = some false := by decide +kernel
@[simp] theorem kb_NoneType_tuple : L2.kitB "NoneType" "tuple" = some false := by decide +kernel
@[simp] theorem kb_NoneType_list : L2.kitB "NoneType" "list" = some false := by decide +kernel
@[simp] theorem kb_NoneType_dict : L2.kitB "NoneType" "dict" = some false := by decide +kernel
@[simp] theorem kb_bool_int : L2.kitB "bool" "int" = some true := by decide +kernel
@[simp] theorem kb_bool_bool : L2.kitB "bool" "bool" = some true := by decide +kernel
@[simp] theorem kb_bool_str : L2.kitB "bool" "str" = some false := by decide +kernel
@[simp] theorem kb_bool_tuple : L2.kitB "bool" "tuple" = some false := by decide +kernel
@[simp] theorem kb_bool_list : L2.kitB "bool" "list" = some false := by decide +kernel
@[simp] theorem kb_bool_dict : L2.kitB "bool" "dict" = some false := by decide +kernel
@[simp] theorem kb_int_int : L2.kitB "int" "int" = some true := by decide +kernel
@[simp] theorem kb_int_bool : L2.kitB "int" "bool" = some false := by decide +kernel
@[simp] theorem kb_int_str : L2.kitB "int" "str" = some false := by decide +kernel
@[simp] theorem kb_int_tuple : L2.kitB "int" "tuple" = some false := by decide +kernel
@[simp] theorem kb_int_list : L2.kitB "int" "list" = some false := by decide +kernel
@[simp] theorem kb_int_dict : L2.kitB "int" "dict" = some false := by decide +kernel
@[simp] theorem kb_str_int : L2.kitB "str" "int" = some false := by decide +kernel
@[simp] theorem kb_str_bool : L2.kitB "str" "bool" = some false := by decide +kernel
@[simp] theorem kb_str_str : L2.kitB "str" "str" = some true := by decide +kernel
@[simp] theorem kb_str_tuple : L2.kitB "str" "tuple" = some false := by decide +kernel
@[simp] theorem kb_str_list : L2.kitB "str" "list" = some false := by decide +kernel
@[simp] theorem kb_str_dict : L2.kitB "str" "dict" = some false := by decide +kernel
@[simp] theorem kb_tuple_int : L2.kitB "tuple" "int" = some false := by decide +kernel
@[simp] theorem kb_tuple_bool : L2.kitB "tuple" "bool" = some false := by decide +kernel
@[simp] theorem kb_tuple_str : L2.kitB "tuple" "str" = some false := by decide +kernel
@[simp] theorem kb_tuple_tuple : L2.kitB "tuple" "tuple" = some true := by decide +kernel
@[simp] theorem kb_tuple_list : L2.kitB "tuple" "list" = some false := by decide +kernel
@[simp] theorem kb_tuple_dict : L2.kitB "tuple" "dict" = some false := by decide +kernel
@[simp] theorem kb_list_int : L2.kitB "list" "int" = some false := by decide +kernel
@[simp] theorem kb_list_bool : L2.kitB "list" "bool" = some false := by decide +kernel
@[simp] theorem kb_list_str : L2.kitB "list" "str" = some false := by decide +kernel
@[simp] theorem kb_list_tuple : L2.kitB "list" "tuple" = some false := by decide +kernel
@[simp] theorem kb_list_list : L2.kitB "list" "list" = some true := by decide +kernel
@[simp] theorem kb_list_dict : L2.kitB "list" "dict" = some false := by decide +kernel
@[simp] theorem kb_dict_int : L2.kitB "dict" "int" = some false := by decide +kernel
@[simp] theorem kb_dict_bool : L2.kitB "dict" "bool" = some false := by decide +kernel
@[simp] theorem kb_dict_str : L2.kitB "dict" "str" = some false := by decide +kernel
@[simp] theorem kb_dict_tuple : L2.kitB "dict" "tuple" = some false := by decide +kernel
@[simp] theorem kb_dict_list : L2.kitB "dict" "list" = some false := by decide +kernel
@[simp] theorem kb_dict_dict : L2.kitB "dict" "dict" = some true := by decide +kernel
/-- what a built-in type says of a value -/
@[simp] theorem ty_non (S : Store) : tyB S (.v .non) = some "NoneType" := rfl
@[simp] theorem ty_bl (S : Store) (b : Bool) : tyB S (.v (.bl b)) = some "bool" := rfl
@[simp] theorem ty_int (S : Store) (i : Int) : tyB S (.v (.int i)) = some "int" := rfl
@[simp] theorem ty_str (S : Store) (x : PySem.Str) : tyB S (.v (.str x)) = some "str" := rfl
@[simp] theorem ty_tup (S : Store) (x : List D) : tyB S (.v (.tup x)) = some "tuple" := rfl
@[simp] theorem isiB_non (cx : Cxt) (S : Store) (s : String) : app cx S (.isi (.b s)) [.v .non] = ofO S ((L2.kitB "NoneType" s).map fun c => .v (.bl c)) := rfl
@[simp] theorem isiB_bl (cx : Cxt) (S : Store) (s : String) (b : Bool) : app cx S (.isi (.b s)) [.v (.bl b)] = ofO S ((L2.kitB "bool" s).map fun c => .v (.bl c)) := rfl
@[simp] theorem isiB_int (cx : Cxt) (S : Store) (s : String) (i : Int) : app cx S (.isi (.b s)) [.v (.int i)] = ofO S ((L2.kitB "int" s).map fun c => .v (.bl c)) := rfl
@[simp] theorem isiB_str (cx : Cxt) (S : Store) (s : String) (x : PySem.Str) : app cx S (.isi (.b s)) [.v (.str x)] = ofO S ((L2.kitB "str" s).map fun c => .v (.bl c)) := rfl
@[simp] theorem isiB_tup (cx : Cxt) (S : Store) (s : String) (x : List D) : app cx S (.isi (.b s)) [.v (.tup x)] = ofO S ((L2.kitB "tuple" s).map fun c => .v (.bl c)) := rfl
end Ev
set_option Elab.async false
set_option linter.all false
set_option maxRecDepth 100000
set_option autoImplicit false
set_option maxHeartbeats 1000000
/-! Ev, part U: plain words about the interpreter: loops, comprehensions, equality of data. -/
namespace Ev
/-- a for that runs through -/
theorem frL_run {bnd : D → Env → Option Env} {body : Env → Store → R Fl} {gd : Store → Bool} (Pv : List D → Env → Store → Prop)
    (step : ∀ d ds σ S, Pv (d :: ds) σ S → gd S = true ∧ ∃ σ1 σ2 S2, bnd d σ = some σ1 ∧ (body σ1 S = .ok (.nx σ2) S2 ∨ body σ1 S = .ok (.ct σ2) S2) ∧ Pv ds σ2 S2) (last : ∀ σ S, Pv [] σ S → gd S = true) :
    ∀ (items : List D) (σ : Env) (S : Store), Pv items σ S → ∃ σ' S', frL bnd body gd items σ S = .ok (.nx σ') S' ∧ Pv [] σ' S'
  | [], σ, S, h => ⟨σ, S, by unfold frL; rw [if_pos (last σ S h)], h⟩
  | d :: ds, σ, S, h => by
    obtain ⟨hg, σ1, σ2, S2, h1, h2, h3⟩ := step d ds σ S h
    obtain ⟨σ', S', h4, h5⟩ := frL_run Pv step last ds σ2 S2 h3
    refine ⟨σ', S', ?_, h5⟩
    unfold frL
    rw [if_pos hg, h1]
    rcases h2 with h2 | h2 <;> (dsimp only; rw [h2]; exact h4)
/-- a comprehension whose parts change nothing -/
theorem lcL_map {bnd : D → Env → Option Env} {tst : Env → Store → R Bool} {el : Env → Store → R D} {gd : Store → Bool} {σ : Env} {S : Store} (p : D → Bool) (f : D → D) (hg : gd S = true) : ∀ (items : List D),
    (∀ d ∈ items, ∃ σ', bnd d σ = some σ' ∧ tst σ' S = .ok (p d) S ∧ (p d = true → el σ' S = .ok (f d) S)) → lcL bnd tst el gd σ items S = .ok ((items.filter p).map f) S
  | [], _ => by unfold lcL; rw [if_pos hg]; rfl
  | d :: ds, h => by
    obtain ⟨σ', h1, h2, h3⟩ := h d List.mem_cons_self
    have ih := lcL_map p f hg ds fun x hx => h x (List.mem_cons_of_mem _ hx)
    unfold lcL
    rw [if_pos hg, h1]
    dsimp only
    rw [h2, bind_ok']
    cases hp : p d with
    | true =>
      rw [if_pos rfl, h3 hp, bind_ok', ih, List.filter_cons_of_pos hp]
      rfl
    | false =>
      rw [if_neg Bool.false_ne_true, ih, List.filter_cons_of_neg (by simp [hp])]
theorem lcL_all {bnd : D → Env → Option Env} {tst : Env → Store → R Bool} {el : Env → Store → R D} {gd : Store → Bool} {σ : Env} {S : Store} (f : D → D) (hg : gd S = true) (items : List D)
    (h : ∀ d ∈ items, ∃ σ', bnd d σ = some σ' ∧ tst σ' S = .ok true S ∧ el σ' S = .ok (f d) S) : lcL bnd tst el gd σ items S = .ok (items.map f) S := by
  rw [lcL_map (fun _ => true) f hg items fun d hd => by
    obtain ⟨σ', h1, h2, h3⟩ := h d hd
    exact ⟨σ', h1, h2, fun _ => h3⟩]
  rw [List.filter_eq_self.mpr fun _ _ => rfl]
/-! ### equality of data -/
open PySem in
theorem eqE_self {S : Store} {a b : T} {p : PyData} (ha : toPy S a = some p) (hb : toPy S b = some p) (hs : SeqAt.shaped p = true) : eqE S a b = some true := by
  unfold eqE
  rw [ha, hb]
  dsimp only
  rw [if_pos ⟨hs, hs⟩, SeqAt.eqv_refl p (SeqAt.canLay_of_shaped hs)]
open PySem in
theorem eqE_int (S : Store) (i j : Int) : eqE S (.v (.int i)) (.v (.int j)) = some (decide (i = j)) := by
  have h : ∀ i : Int, SeqAt.shaped (.int i) = true := fun i => rfl
  show (if SeqAt.shaped (.int i) = true ∧ SeqAt.shaped (.int j) = true then some (PyData.eqv (.int i) (.int j)) else none) = _
  rw [if_pos ⟨h i, h j⟩]
  show some (i == j) = _
  by_cases e : i = j <;> simp [e]
open PySem in
theorem eqE_bl (S : Store) (i j : Bool) : eqE S (.v (.bl i)) (.v (.bl j)) = some (decide (i = j)) := by
  cases i <;> cases j <;> rfl
open PySem in
theorem strOk_of (s : String) : PyData.strOk (Str.ofString s) = true := by
  rw [Str.ofString_eq_toList]
  unfold PyData.strOk
  rw [Array.all_eq_true_iff_forall_mem]
  intro c hc
  have hc' : c ∈ s.toList.map Char.toNat := by simpa using hc
  obtain ⟨ch, _, rfl⟩ := List.mem_map.mp hc'
  have hv := ch.valid
  have e : ch.toNat = ch.val.toNat := rfl
  rw [decide_eq_true_eq, e]
  rcases hv with h | h
  · omega
  · omega
open PySem in
theorem eqE_str (S : Store) (x y : Str) (hx : PyData.strOk x = true) (hy : PyData.strOk y = true) : eqE S (.v (.str x)) (.v (.str y)) = some (decide (x = y)) := by
  have h : ∀ i : Str, PyData.strOk i = true → SeqAt.shaped (.str i) = true := fun i hi => by
    simp [SeqAt.shaped, PyData.canLay0, PyData.depth, hi]
  show (if SeqAt.shaped (.str x) = true ∧ SeqAt.shaped (.str y) = true then some (PyData.eqv (.str x) (.str y)) else none) = _
  rw [if_pos ⟨h x hx, h y hy⟩]
  show some (x == y) = _
  by_cases e : x = y <;> simp [e]
open PySem in
theorem py_bools (f : Nat → Option PyData) : ∀ L : List Bool, toPysW f (L.map D.bl) = some (L.map PyData.bool)
  | [] => rfl
  | b :: L => by
    show (some (PyData.bool b)).bind (fun p => (toPysW f (L.map D.bl)).map (p :: ·)) = _
    rw [py_bools f L]
    rfl
open PySem in
theorem shaped_bools (L : List Bool) : SeqAt.shaped (.list (L.map PyData.bool)) = true := by
  have h1 : ∀ L : List Bool, PyData.canLayAll0 (L.map PyData.bool) = true := by
    intro L
    induction L with
    | nil => simp [PyData.canLayAll0]
    | cons b L ih => simp [PyData.canLayAll0, PyData.canLay0, ih]
  have h2 : ∀ L : List Bool, PyData.depthAll (L.map PyData.bool) ≤ 1 := by
    intro L
    induction L with
    | nil => simp [PyData.depthAll]
    | cons b L ih =>
      simp only [List.map_cons, PyData.depthAll, PyData.depth]
      omega
  have h3 := h2 L
  have h4 : PyData.depth (.list (L.map PyData.bool)) ≤ 64 := by
    have e : PyData.depth (.list (L.map PyData.bool)) = PyData.depthAll (L.map PyData.bool) + 1 := by simp only [PyData.depth]
    omega
  unfold SeqAt.shaped
  rw [Bool.and_eq_true, decide_eq_true_eq]
  refine ⟨?_, h4⟩
  simp only [PyData.canLay0]
  exact h1 L
theorem toPy_bools {S : Store} {a : T} {L : List Bool} (h : lstR S a = some (L.map D.bl)) : toPy S a = some (.list (L.map PySem.PyData.bool)) := by
  cases a with
  | v d =>
    cases d with
    | ref n =>
      show (lstR S (.v (.ref n))).bind (fun ds => (toPysW (refPy 2 S) ds).map PySem.PyData.list) = _
      rw [h]
      show (toPysW _ (L.map D.bl)).map PySem.PyData.list = _
      rw [py_bools]
      rfl
    | _ => simp [lstR, objR] at h
  | t o =>
    cases o with
    | lst ds =>
      have e : ds = L.map D.bl := Option.some.inj h
      subst e
      show (toPysW _ (L.map D.bl)).map PySem.PyData.list = _
      rw [py_bools]
      rfl
    | _ => simp [lstR, objR] at h
theorem eq_bools {S : Store} {a b : T} {L : List Bool} (ha : lstR S a = some (L.map D.bl)) (hb : lstR S b = some (L.map D.bl)) : eqE S a b = some true := eqE_self (toPy_bools ha) (toPy_bools hb) (shaped_bools L)
end Ev
set_option Elab.async false
set_option linter.all false
set_option maxRecDepth 100000
set_option autoImplicit false
set_option maxHeartbeats 4000000
/-! Sp, part A: plain data: what == says of them. -/
namespace Ev
open PySem
mutual
/-- data without objects -/
def plD : D → Bool
  | .non => true | .bl _ => true | .int _ => true | .str x => PyData.strOk x | .tup ds => plDs ds | .ref _ => false | .fn _ => false | .cls _ => false
def plDs : List D → Bool
  | [] => true
  | d :: ds => plD d && plDs ds
end
mutual
def pyOf : D → PyData
  | .non => .none | .bl b => .bool b | .int i => .int i | .str x => .str x | .tup ds => .tuple (pysOf ds) | .ref _ => .none | .fn _ => .none | .cls _ => .none
def pysOf : List D → List PyData
  | [] => []
  | d :: ds => pyOf d :: pysOf ds
end
mutual
def dpD : D → Nat
  | .tup ds => dpDs ds + 1 | .non => 0 | .bl _ => 0 | .int _ => 0 | .str _ => 0 | .ref _ => 0 | .fn _ => 0 | .cls _ => 0
def dpDs : List D → Nat
  | [] => 0
  | d :: ds => max (dpD d) (dpDs ds)
end
mutual
theorem toPyW_pl (f : Nat → Option PyData) : ∀ d : D, plD d = true → toPyW f d = some (pyOf d)
  | .non, _ => by simp only [toPyW, pyOf]
  | .bl _, _ => by simp only [toPyW, pyOf]
  | .int _, _ => by simp only [toPyW, pyOf]
  | .str _, _ => by simp only [toPyW, pyOf]
  | .tup ds, h => by
    rw [plD] at h
    rw [toPyW, toPysW_pl f ds h, pyOf]
    rfl
  | .ref _, h => by rw [plD] at h; cases h
  | .fn _, h => by rw [plD] at h; cases h
  | .cls _, h => by rw [plD] at h; cases h
theorem toPysW_pl (f : Nat → Option PyData) : ∀ ds : List D, plDs ds = true → toPysW f ds = some (pysOf ds)
  | [], _ => by simp only [toPysW, pysOf]
  | d :: ds, h => by
    rw [plDs, Bool.and_eq_true] at h
    rw [toPysW, toPyW_pl f d h.1, toPysW_pl f ds h.2, pysOf]
    rfl
end
theorem toPy_pl {S : Store} {d : D} (h : plD d = true) : toPy S (.v d) = some (pyOf d) := by
  unfold toPy
  exact toPyW_pl _ d h
mutual
theorem lay_pl : ∀ d : D, plD d = true → PyData.canLay0 (pyOf d) = true
  | .non, _ => by simp only [pyOf, PyData.canLay0]
  | .bl _, _ => by simp only [pyOf, PyData.canLay0]
  | .int _, _ => by simp only [pyOf, PyData.canLay0]
  | .str x, h => by rw [plD] at h; simp only [pyOf, PyData.canLay0]; exact h
  | .tup ds, h => by
    rw [plD] at h
    simp only [pyOf, PyData.canLay0]
    exact lays_pl ds h
  | .ref _, h => by rw [plD] at h; cases h
  | .fn _, h => by rw [plD] at h; cases h
  | .cls _, h => by rw [plD] at h; cases h
theorem lays_pl : ∀ ds : List D, plDs ds = true → PyData.canLayAll0 (pysOf ds) = true
  | [], _ => by simp only [pysOf, PyData.canLayAll0]
  | d :: ds, h => by
    rw [plDs, Bool.and_eq_true] at h
    simp only [pysOf, PyData.canLayAll0]
    rw [lay_pl d h.1, lays_pl ds h.2]
    rfl
end
mutual
theorem dep_pl : ∀ d : D, PyData.depth (pyOf d) = dpD d
  | .non => by simp only [pyOf, PyData.depth, dpD]
  | .bl _ => by simp only [pyOf, PyData.depth, dpD]
  | .int _ => by simp only [pyOf, PyData.depth, dpD]
  | .str x => by simp only [pyOf, PyData.depth, dpD]
  | .tup ds => by
    simp only [pyOf, PyData.depth, dpD]
    rw [deps_pl ds]
  | .ref _ => by simp only [pyOf, PyData.depth, dpD]
  | .fn _ => by simp only [pyOf, PyData.depth, dpD]
  | .cls _ => by simp only [pyOf, PyData.depth, dpD]
theorem deps_pl : ∀ ds : List D, PyData.depthAll (pysOf ds) = dpDs ds
  | [] => by simp only [pysOf, PyData.depthAll, dpDs]
  | d :: ds => by
    simp only [pysOf, PyData.depthAll, dpDs]
    rw [dep_pl d, deps_pl ds]
end
theorem shaped_pl {d : D} (h : plD d = true) (hd : dpD d ≤ 64) : SeqAt.shaped (pyOf d) = true := by
  unfold SeqAt.shaped
  rw [Bool.and_eq_true, decide_eq_true_eq, dep_pl]
  exact ⟨lay_pl d h, hd⟩
theorem shapedL_pl {ds : List D} (h : plDs ds = true) (hd : dpDs ds ≤ 63) : SeqAt.shaped (.list (pysOf ds)) = true := by
  unfold SeqAt.shaped
  rw [Bool.and_eq_true, decide_eq_true_eq]
  simp only [PyData.canLay0, PyData.depth, deps_pl]
  exact ⟨lays_pl ds h, by omega⟩
/-- == of plain data -/
def eqP (a b : D) : Bool := PyData.eqv (pyOf a) (pyOf b)
def eqPs : List D → List D → Bool
  | [], [] => true
  | x :: xs, y :: ys => eqP x y && eqPs xs ys
  | _, _ => false
theorem eqPs_py : ∀ xs ys : List D, PyData.eqvAll (pysOf xs) (pysOf ys) = eqPs xs ys
  | [], [] => by simp only [pysOf, PyData.eqvAll, eqPs]
  | [], _ :: _ => by simp only [pysOf, PyData.eqvAll, eqPs]
  | _ :: _, [] => by simp only [pysOf, PyData.eqvAll, eqPs]
  | x :: xs, y :: ys => by
    simp only [pysOf, PyData.eqvAll, eqPs]
    rw [eqPs_py xs ys]
    rfl
theorem eqP_tup (xs ys : List D) : eqP (.tup xs) (.tup ys) = eqPs xs ys := by
  unfold eqP
  simp only [pyOf, PyData.eqv]
  exact eqPs_py xs ys
theorem eqP_self {d : D} (h : plD d = true) : eqP d d = true := SeqAt.eqv_refl _ (lay_pl d h)
theorem eqPs_len : ∀ {xs ys : List D}, eqPs xs ys = true → xs.length = ys.length
  | [], [], _ => rfl
  | [], _ :: _, h => by cases h
  | _ :: _, [], h => by cases h
  | x :: xs, y :: ys, h => by
    rw [eqPs, Bool.and_eq_true] at h
    simp [eqPs_len h.2]
theorem eqE_pl {S : Store} {a b : D} (ha : plD a = true) (hb : plD b = true) (da : dpD a ≤ 64) (db : dpD b ≤ 64) : eqE S (.v a) (.v b) = some (eqP a b) := by
  unfold eqE
  rw [toPy_pl ha, toPy_pl hb]
  dsimp only
  rw [if_pos ⟨shaped_pl ha da, shaped_pl hb db⟩]
  rfl
mutual
/-- no True, False within (k), no ints within (not k) -/
def okK (k : Bool) : D → Bool
  | .bl _ => !k | .int _ => k | .tup ds => okKs k ds | _ => true
def okKs (k : Bool) : List D → Bool
  | [] => true
  | d :: ds => okK k d && okKs k ds
end
mutual
theorem eqP_eq (k : Bool) : ∀ a b : D, plD a = true → plD b = true → okK k a = true → okK k b = true → (eqP a b = true ↔ a = b)
  | .tup xs, b, ha, hb, ka, kb => by
    cases b with
    | tup ys =>
      rw [plD] at ha hb
      rw [okK] at ka kb
      rw [eqP_tup, eqPs_eq k xs ys ha hb ka kb]
      constructor
      · intro h; rw [h]
      · intro h; injection h
    | ref _ => rw [plD] at hb; cases hb
    | fn _ => rw [plD] at hb; cases hb
    | cls _ => rw [plD] at hb; cases hb
    | _ => simp [eqP, pyOf, PyData.eqv]
  | .non, b, ha, hb, ka, kb => by
    cases b <;> first | (rw [plD] at hb; cases hb; done) | simp [eqP, pyOf, PyData.eqv]
  | .str x, b, ha, hb, ka, kb => by
    cases b <;> first | (rw [plD] at hb; cases hb; done) | simp [eqP, pyOf, PyData.eqv]
  | .int x, b, ha, hb, ka, kb => by
    cases b <;> first | (rw [plD] at hb; cases hb; done) | (simp [okK] at ka kb; simp_all; done) | simp [eqP, pyOf, PyData.eqv]
  | .bl x, b, ha, hb, ka, kb => by
    cases b <;> first | (rw [plD] at hb; cases hb; done) | (simp [okK] at ka kb; simp_all; done) | simp [eqP, pyOf, PyData.eqv]
  | .ref _, b, ha, hb, ka, kb => by rw [plD] at ha; cases ha
  | .fn _, b, ha, hb, ka, kb => by rw [plD] at ha; cases ha
  | .cls _, b, ha, hb, ka, kb => by rw [plD] at ha; cases ha
theorem eqPs_eq (k : Bool) : ∀ a b : List D, plDs a = true → plDs b = true → okKs k a = true → okKs k b = true → (eqPs a b = true ↔ a = b)
  | [], [], _, _, _, _ => by simp [eqPs]
  | [], _ :: _, _, _, _, _ => by simp [eqPs]
  | _ :: _, [], _, _, _, _ => by simp [eqPs]
  | x :: xs, y :: ys, ha, hb, ka, kb => by
    rw [plDs, Bool.and_eq_true] at ha hb
    rw [okKs, Bool.and_eq_true] at ka kb
    rw [eqPs, Bool.and_eq_true, eqP_eq k x y ha.1 hb.1 ka.1 kb.1, eqPs_eq k xs ys ha.2 hb.2 ka.2 kb.2]
    simp
end
theorem eqP_dec (k : Bool) {a b : D} (ha : plD a = true) (hb : plD b = true) (ka : okK k a = true) (kb : okK k b = true) : eqP a b = decide (a = b) := by
  rw [Bool.eq_iff_iff, eqP_eq k a b ha hb ka kb, decide_eq_true_eq]
/-! rows of ints, of bools, of rows of ints -/
theorem pl_ints : ∀ xs : List Int, plDs (xs.map D.int) = true
  | [] => by simp [plDs]
  | x :: xs => by rw [List.map_cons, plDs, pl_ints xs]; simp [plD]
theorem dp_ints : ∀ xs : List Int, dpDs (xs.map D.int) = 0
  | [] => by simp [dpDs]
  | x :: xs => by rw [List.map_cons, dpDs, dp_ints xs]; simp [dpD]
theorem ok_ints : ∀ xs : List Int, okKs true (xs.map D.int) = true
  | [] => by simp [okKs]
  | x :: xs => by rw [List.map_cons, okKs, ok_ints xs]; simp [okK]
theorem pl_bls : ∀ xs : List Bool, plDs (xs.map D.bl) = true
  | [] => by simp [plDs]
  | x :: xs => by rw [List.map_cons, plDs, pl_bls xs]; simp [plD]
theorem dp_bls : ∀ xs : List Bool, dpDs (xs.map D.bl) = 0
  | [] => by simp [dpDs]
  | x :: xs => by rw [List.map_cons, dpDs, dp_bls xs]; simp [dpD]
theorem ok_bls : ∀ xs : List Bool, okKs false (xs.map D.bl) = true
  | [] => by simp [okKs]
  | x :: xs => by rw [List.map_cons, okKs, ok_bls xs]; simp [okK]
theorem pl_tupI (xs : List Int) : plD (tupI xs) = true := by rw [tupI, plD]; exact pl_ints xs
theorem dp_tupI (xs : List Int) : dpD (tupI xs) = 1 := by rw [tupI, dpD, dp_ints]
theorem ok_tupI (xs : List Int) : okK true (tupI xs) = true := by rw [tupI, okK]; exact ok_ints xs
theorem pl_tups : ∀ xs : List (List Int), plDs (xs.map tupI) = true
  | [] => by simp [plDs]
  | x :: xs => by rw [List.map_cons, plDs, pl_tups xs, pl_tupI]; rfl
theorem dp_tups : ∀ xs : List (List Int), dpDs (xs.map tupI) ≤ 1
  | [] => by simp [dpDs]
  | x :: xs => by
    have := dp_tups xs
    rw [List.map_cons, dpDs, dp_tupI]
    omega
theorem ok_tups : ∀ xs : List (List Int), okKs true (xs.map tupI) = true
  | [] => by simp [okKs]
  | x :: xs => by rw [List.map_cons, okKs, ok_tups xs, ok_tupI]; rfl
theorem map_int_inj : ∀ {xs ys : List Int}, xs.map D.int = ys.map D.int → xs = ys
  | [], [], _ => rfl
  | [], _ :: _, h => by cases h
  | _ :: _, [], h => by cases h
  | x :: xs, y :: ys, h => by
    rw [List.map_cons, List.map_cons] at h
    injection h with h1 h2
    injection h1 with h1
    rw [h1, map_int_inj h2]
theorem tupI_inj {xs ys : List Int} (h : tupI xs = tupI ys) : xs = ys := by
  unfold tupI at h
  injection h with h
  exact map_int_inj h
theorem eqE_tupI (S : Store) (xs ys : List Int) : eqE S (.v (tupI xs)) (.v (tupI ys)) = some (decide (xs = ys)) := by
  rw [eqE_pl (pl_tupI xs) (pl_tupI ys) (by rw [dp_tupI]; omega) (by rw [dp_tupI]; omega), eqP_dec true (pl_tupI xs) (pl_tupI ys) (ok_tupI xs) (ok_tupI ys)]
  congr 1
  rw [Bool.eq_iff_iff, decide_eq_true_eq, decide_eq_true_eq]
  exact ⟨tupI_inj, fun h => by rw [h]⟩
/-- x in a list of plain data -/
theorem memE_lst {S : Store} {x : D} {t : T} {ds : List D} (hx : plD x = true) (dx : dpD x ≤ 64) (ht : lstR S t = some ds) (hd : plDs ds = true) (dd : dpDs ds ≤ 63) : memE S (.v x) t = some (ds.any fun z => eqP z x) := by
  have e : toPy S t = some (.list (pysOf ds)) := by
    cases t with
    | v d =>
      cases d with
      | ref n =>
        show (lstR S (.v (.ref n))).bind (fun ds => (toPysW (refPy 2 S) ds).map PyData.list) = _
        rw [ht]
        show (toPysW _ ds).map PyData.list = _
        rw [toPysW_pl _ ds hd]
        rfl
      | _ => simp [lstR, objR] at ht
    | t o =>
      cases o with
      | lst ds' =>
        have e : ds' = ds := Option.some.inj ht
        subst e
        show (toPysW _ ds').map PyData.list = _
        rw [toPysW_pl _ ds' hd]
        rfl
      | _ => simp [lstR, objR] at ht
  have eo : objR S t = some (.lst ds) := by
    unfold lstR at ht
    split at ht
    · rename_i ds' h
      cases ht
      exact h
    · cases ht
  have ea : ∀ zs : List D, ((pysOf zs).any fun z => PyData.eqv z (pyOf x)) = zs.any fun z => eqP z x := by
    intro zs
    induction zs with
    | nil => rfl
    | cons z zs ih => rw [pysOf, List.any_cons, List.any_cons, ih]; rfl
  have main : (match objR S t with
    | some (.lst _) => match toPy S (.v x), toPy S t with
      | some p, some (.list qs) => if SeqAt.shaped p ∧ SeqAt.shaped (.list qs) then some (qs.any fun z => PyData.eqv z p) else none
      | _, _ => if isDct S (.v x) && allTup S t then some false else none
    | some (.dK kvs) => match T.v x with
      | .v d => (keyOf d).map fun k => (valK k kvs).isSome
      | _ => none
    | _ => none) = some (ds.any fun z => eqP z x) := by
    rw [eo, toPy_pl hx, e]
    dsimp only
    rw [if_pos ⟨shaped_pl hx dx, shapedL_pl hd dd⟩, ea]
  cases t with
  | v d =>
    cases d with
    | ref n => exact main
    | _ => simp [lstR, objR] at ht
  | t o => exact main
end Ev
set_option Elab.async false
set_option linter.all false
set_option maxRecDepth 100000
set_option autoImplicit false
set_option maxHeartbeats 4000000

/-! Sp, part B: the small functions that many laws share, each once: what it gives. -/
namespace Ev
open PySem
/-- one call -/
theorem run_of {tb : Tb} {f : Nat} {fd : Fd} (h : tb.fs[f]? = some fd) (k : Nat) (ds : List D) (S : Store) (hl : ds.length = fd.ps) :
    runK tb (k + 1) f ds S = finE S (exSs (cxK tb k) fd.body (ds.map some ++ List.replicate (fd.ns - ds.length) none) S) := by
  rw [runK_succ]
  unfold stepK
  rw [h]
  dsimp only
  rw [if_pos hl]
  rfl
/-- its built-in type is known -/
def knw (S : Store) : D → Prop
  | .ref n => tyB S (.v (.ref n)) = some "list" ∨ tyB S (.v (.ref n)) = some "dict"
  | .fn _ => False | .cls _ => False | _ => True
/-- so of a tuple's items, too -/
def knT (S : Store) (d : D) : Prop := knw S d ∧ ∀ ds, d = .tup ds → ds.length ≤ 1000000 ∧ ∀ x ∈ ds, knw S x
def knTT (S : Store) (d : D) : Prop := knw S d ∧ ∀ ds, d = .tup ds → ds.length ≤ 1000001 ∧ ∀ x ∈ ds, knT S x
@[simp] theorem B64_2 : B64 2 = true := by decide
@[simp] theorem truth_bl (S : Store) (b : Bool) : truth S (.v (.bl b)) = some b := rfl
@[simp] theorem truth_int (S : Store) (i : Int) : truth S (.v (.int i)) = some (i != 0) := rfl
@[simp] theorem truth_tup (S : Store) (ds : List D) : truth S (.v (.tup ds)) = some (!ds.isEmpty) := rfl
@[simp] theorem truth_non (S : Store) : truth S (.v .non) = some false := rfl
/-! is_whole, is_below, are_below, are_flags -/
def isInt : D → Bool | .int _ => true | _ => false
def isBl : D → Bool | .bl _ => true | _ => false
def wholeF : Fd := ⟨1, 1, [.ret (.and (.nd (.isi (.b "int")) [(.var 0)]) (.not (.nd (.isi (.b "bool")) [(.var 0)])))]⟩
section
variable {tb : Tb} {i i1 i2 i3 : Nat}
theorem isiB_ref {cx : Cxt} {S : Store} {n : Nat} {u s : String} {c : Bool} (h : tyB S (.v (.ref n)) = some u) (hk : L2.kitB u s = some c) : app cx S (.isi (.b s)) [.v (.ref n)] = .ok (.v (.bl c)) S := isiB_of cx S h hk
theorem wholeS (h : tb.fs[i]? = some wholeF) (k : Nat) (d : D) (S : Store) (hk : knw S d) : runK tb (k + 1) i [d] S = .ok (.bl (isInt d)) S := by
  rw [run_of h k _ _ rfl]
  cases d with
  | ref n =>
    rcases hk with hk | hk
    · have e := fun c => isiB_ref (cx := cxK tb k) (s := "int") (c := c) hk
      simp [wholeF, isInt, e false (by simp)]
    · have e := fun c => isiB_ref (cx := cxK tb k) (s := "int") (c := c) hk
      simp [wholeF, isInt, e false (by simp)]
  | fn _ => exact hk.elim
  | cls _ => exact hk.elim
  | _ => simp [wholeF, isInt]
def belowF (i1 : Nat) : Fd := ⟨2, 2, [.ret (.and (.na (.call i1) [(.var 0)]) (.ch .le .lt (.cst (.int 0)) (.var 0) (.var 1)))]⟩
def belowB (b : Int) : D → Bool
  | .int i => decide (0 ≤ i) && decide (i < b)
  | _ => false
theorem belowS (h1 : tb.fs[i1]? = some wholeF) (h : tb.fs[i]? = some (belowF i1)) (k : Nat) (d : D) (b : Int) (S : Store) (hk : knw S d) : runK tb (k + 2) i [d, .int b] S = .ok (.bl (belowB b d)) S := by
  rw [run_of h (k + 1) _ _ rfl]
  have e := wholeS h1 k d S hk
  cases d with
  | int z =>
    simp [belowF, e, isInt, cmpE, cmpI, ltD, belowB]
    by_cases h0 : 0 ≤ z <;> simp [h0]
  | _ => simp [belowF, e, isInt, belowB]
def areBelowF (i2 : Nat) : Fd := ⟨2, 3, [.ret (.and (.nd (.isi (.b "tuple")) [(.var 0)]) (.nd (.bi .all) [(.lc (.var 2) .seq [(.var 0)] [] (.na (.call i2) [(.var 2), (.var 1)]) [2])]))]⟩
def areBelow (b : Int) : D → Bool
  | .tup ds => ds.all (belowB b)
  | _ => false
theorem blsOf_map (f : D → Bool) : ∀ ds : List D, blsOf (ds.map fun d => D.bl (f d)) = some (ds.map f)
  | [] => rfl
  | d :: ds => by
    show (blsOf (ds.map fun d => D.bl (f d))).map (f d :: ·) = _
    rw [blsOf_map f ds]
    rfl
theorem blsOf_bls : ∀ bs : List Bool, blsOf (bs.map D.bl) = some bs
  | [] => rfl
  | b :: bs => by
    show (blsOf (bs.map D.bl)).map (b :: ·) = _
    rw [blsOf_bls bs]
    rfl
theorem all_id (f : D → Bool) (ds : List D) : (ds.map f).all id = ds.all f := by
  rw [List.all_map]
  rfl
theorem bi_all {S : Store} {bs : List Bool} {ds : List D} (h : ds = bs.map D.bl) : biE S .all (.t (.lst ds)) = some (.v (.bl (bs.all id))) := by
  subst h
  show (some (bs.map D.bl)).bind (fun ds => (blsOf ds).map fun bs => T.v (.bl (bs.all id))) = _
  rw [Option.bind_some, blsOf_bls]
  rfl
theorem bi_any {S : Store} {bs : List Bool} {ds : List D} (h : ds = bs.map D.bl) : biE S .any (.t (.lst ds)) = some (.v (.bl (bs.any id))) := by
  subst h
  show (some (bs.map D.bl)).bind (fun ds => (blsOf ds).map fun bs => T.v (.bl (bs.any id))) = _
  rw [Option.bind_some, blsOf_bls]
  rfl
@[simp] theorem iter_tup (S : Store) (ds : List D) : iterOf S .seq [.v (.tup ds)] = some (ds, fun _ => true) := rfl
@[simp] theorem iter_t (S : Store) (ds : List D) : iterOf S .seq [.t (.lst ds)] = some (ds, fun _ => true) := rfl
theorem tyB_known {S : Store} {n : Nat} (h : knw S (.ref n)) : tyB S (.v (.ref n)) = some "list" ∨ tyB S (.v (.ref n)) = some "dict" := h
/-- isinstance(thing, tuple) -/
def isTp : D → Bool | .tup _ => true | _ => false
theorem isiTup {cx : Cxt} {S : Store} {d : D} (h : knw S d) : app cx S (.isi (.b "tuple")) [.v d] = .ok (.v (.bl (isTp d))) S := by
  cases d with
  | ref n =>
    rcases h with h | h
    · exact isiB_ref h (by simp [isTp, isBl])
    · exact isiB_ref h (by simp [isTp, isBl])
  | fn _ => exact h.elim
  | cls _ => exact h.elim
  | _ => simp [isTp]
theorem isiBl {cx : Cxt} {S : Store} {d : D} (h : knw S d) : app cx S (.isi (.b "bool")) [.v d] = .ok (.v (.bl (isBl d))) S := by
  cases d with
  | ref n =>
    rcases h with h | h
    · exact isiB_ref h (by simp [isTp, isBl])
    · exact isiB_ref h (by simp [isTp, isBl])
  | fn _ => exact h.elim
  | cls _ => exact h.elim
  | _ => simp [isBl]
theorem areBelowS (h1 : tb.fs[i1]? = some wholeF) (h2 : tb.fs[i2]? = some (belowF i1)) (h : tb.fs[i]? = some (areBelowF i2)) (k : Nat) (d : D) (b : Int) (S : Store) (hk : knT S d) : runK tb (k + 3) i [d, .int b] S = .ok (.bl (areBelow b d)) S := by
  rw [run_of h (k + 2) _ _ rfl]
  have e1 := isiTup (cx := cxK tb (k + 2)) hk.1
  cases d with
  | tup ds =>
    have hx := (hk.2 ds rfl).2
    have e2 : lcL (bindT (.var 2)) (dent (cxK tb (k + 2)) []) (elF (cxK tb (k + 2)) (.na (.call i2) [(.var 2), (.var 1)])) (fun _ => true) (wipeE [some (.tup ds), some (.int b), none] [2]) ds S = .ok (ds.map fun d => D.bl (belowB b d)) S :=
      lcL_all (fun d => D.bl (belowB b d)) rfl ds fun d hd => ⟨_, rfl, rfl, by simp [wipeE, belowS h1 h2 k d b S (hx d hd)]⟩
    have e3 := bi_all (S := S) (ds := ds.map fun d => D.bl (belowB b d)) (bs := ds.map (belowB b)) (by rw [List.map_map]; rfl)
    simp [areBelowF, isTp, e2, e3, areBelow, Function.comp_def]
  | _ => simp [areBelowF, e1, isTp, areBelow]
def areFlagsF : Fd := ⟨1, 2, [.ret (.and (.nd (.isi (.b "tuple")) [(.var 0)]) (.nd (.bi .all) [(.lc (.var 1) .seq [(.var 0)] [] (.nd (.isi (.b "bool")) [(.var 1)]) [1])]))]⟩
def areFlags : D → Bool
  | .tup ds => ds.all isBl
  | _ => false
theorem areFlagsS (h : tb.fs[i]? = some areFlagsF) (k : Nat) (d : D) (S : Store) (hk : knT S d) : runK tb (k + 1) i [d] S = .ok (.bl (areFlags d)) S := by
  rw [run_of h k _ _ rfl]
  have e1 := isiTup (cx := cxK tb k) hk.1
  cases d with
  | tup ds =>
    have hx := (hk.2 ds rfl).2
    have e2 : lcL (bindT (.var 1)) (dent (cxK tb k) []) (elF (cxK tb k) (.nd (.isi (.b "bool")) [(.var 1)])) (fun _ => true) (wipeE [some (.tup ds), none] [1]) ds S = .ok (ds.map fun d => D.bl (isBl d)) S :=
      lcL_all (fun d => D.bl (isBl d)) rfl ds fun d hd => ⟨_, rfl, rfl, by simp [wipeE, isiBl (hx d hd)]⟩
    have e3 := bi_all (S := S) (ds := ds.map fun d => D.bl (isBl d)) (bs := ds.map isBl) (by rw [List.map_map]; rfl)
    simp [areFlagsF, isTp, e2, e3, areFlags, Function.comp_def]
  | _ => simp [areFlagsF, e1, isTp, areFlags]
/-! is_ascending -/
def ascF : Fd := ⟨1, 2, [.ret (.nd (.bi .all) [(.lc (.var 1) .rng [(.cst (.int 1)), (.nd (.bi .len) [(.var 0)])] [] (.nd (.cmp .lt) [(.nd .idx [(.var 0), (.nd (.op .sub) [(.var 1), (.cst (.int 1))])]), (.nd .idx [(.var 0), (.var 1)])]) [1])])]⟩
/-- each smaller than the next -/
def asc {α : Type} (lt : α → α → Bool) : List α → Bool
  | a :: b :: r => lt a b && asc lt (b :: r)
  | _ => true
def ltAt {α : Type} (lt : α → α → Bool) (xs : List α) (j : Nat) : Bool := match xs[j]?, xs[j + 1]? with
  | some a, some b => lt a b
  | _, _ => true
theorem ltAt_of {α : Type} {lt : α → α → Bool} {xs : List α} {j : Nat} {a b : α} (h1 : xs[j]? = some a) (h2 : xs[j + 1]? = some b) : ltAt lt xs j = lt a b := by
  unfold ltAt
  rw [h1, h2]
theorem asc_at {α : Type} (lt : α → α → Bool) : ∀ xs : List α, asc lt xs = (List.range (xs.length - 1)).all (ltAt lt xs)
  | [] => rfl
  | [a] => rfl
  | a :: b :: r => by
    have ih := asc_at lt (b :: r)
    rw [asc, ih]
    have e : (a :: b :: r).length - 1 = ((b :: r).length - 1) + 1 := by simp
    rw [e, List.range_succ_eq_map, List.all_cons, List.all_map]
    rfl
theorem iter_rng1 (S : Store) (j : Int) : iterOf S .rng [.v (.int j)] = if -(2 ^ 62) ≤ j ∧ j ≤ 16777216 then some ((List.range j.toNat).map fun (i : Nat) => D.int (0 + (i : Int)), fun _ => true) else none := rfl
theorem iter_rng2 (S : Store) (i j : Int) : iterOf S .rng [.v (.int i), .v (.int j)] = if -(2 ^ 62) ≤ i ∧ i < 2 ^ 62 ∧ -(2 ^ 62) ≤ j ∧ j < 2 ^ 62 ∧ j - i ≤ 16777216 then some ((List.range (j - i).toNat).map fun (m : Nat) => D.int (i + (m : Int)), fun _ => true) else none := rfl
theorem iter_len1 (S : Store) (n : Nat) (h : n ≤ 16777216) : iterOf S .rng [.v (.int n)] = some ((List.range n).map fun (m : Nat) => D.int (m : Int), fun _ => true) := by
  rw [iter_rng1, if_pos (by omega)]
  have e : (n : Int).toNat = n := by omega
  rw [e]
  simp only [Int.zero_add]
theorem iter_from1 (S : Store) (n : Nat) (h : n ≤ 16777216) : iterOf S .rng [.v (.int 1), .v (.int n)] = some ((List.range (n - 1)).map fun (m : Nat) => D.int (1 + (m : Int)), fun _ => true) := by
  rw [iter_rng2, if_pos (by omega)]
  have e : ((n : Int) - 1).toNat = n - 1 := by omega
  rw [e]
theorem atI_nat {α : Type} (xs : List α) (j : Nat) (h : j < xs.length) : L2.atI xs (j : Int) = xs[j]? := by
  unfold L2.atI L2.ixN
  rw [if_pos (by omega), if_pos (by omega)]
  rfl
theorem atI_get {α : Type} (xs : List α) (j : Nat) (h : j < xs.length) : L2.atI xs (j : Int) = some xs[j] := by
  rw [atI_nat xs j h]
  exact List.getElem?_eq_getElem h
def ascEl : Ex := .nd (.cmp .lt) [(.nd .idx [(.var 0), (.nd (.op .sub) [(.var 1), (.cst (.int 1))])]), (.nd .idx [(.var 0), (.var 1)])]
def ascV (lt : D → D → Bool) (ds : List D) : D → Bool
  | .int z => ltAt lt ds (z - 1).toNat
  | _ => true
theorem asc_lc (cx : Cxt) (ds : List D) (S : Store) (lt : D → D → Bool) (hlt : ∀ a b, a ∈ ds → b ∈ ds → ltD a b = some (lt a b)) :
    lcL (bindT (.var 1)) (dent cx []) (elF cx ascEl) (fun _ => true) [some (.tup ds), none] ((List.range (ds.length - 1)).map fun (m : Nat) => D.int (1 + (m : Int))) S = .ok ((((List.range (ds.length - 1)).map fun (m : Nat) => D.int (1 + (m : Int))).map (ascV lt ds)).map D.bl) S := by
  rw [List.map_map]
  refine lcL_all (fun d => .bl (ascV lt ds d)) rfl _ fun d hd => ?_
  obtain ⟨m, hm, rfl⟩ := List.mem_map.mp hd
  have hm := List.mem_range.mp hm
  have h1 : m < ds.length := by omega
  have h2 : m + 1 < ds.length := by omega
  have a1 := atI_get ds m h1
  have a2 : L2.atI ds (1 + (m : Int)) = some ds[m + 1] := by
    have e : 1 + (m : Int) = ((m + 1 : Nat) : Int) := by omega
    rw [e, atI_get ds (m + 1) h2]
  have e1 : (1 + (m : Int) - 1) = (m : Int) := by omega
  have g1 : (1 + (m : Int) - 1).toNat = m := by omega
  have hb := hlt ds[m] ds[m + 1] (List.getElem_mem h1) (List.getElem_mem h2)
  have hq : ascV lt ds (.int (1 + (m : Int))) = lt ds[m] ds[m + 1] := by
    rw [ascV, g1]
    exact ltAt_of (List.getElem?_eq_getElem h1) (List.getElem?_eq_getElem h2)
  refine ⟨_, rfl, rfl, ?_⟩
  rw [hq]
  simp [ascEl, opE, opI, e1, idxE, seqR, a1, a2, cmpE, hb]
theorem asc_all (lt : D → D → Bool) (ds : List D) : (((List.range (ds.length - 1)).map fun (m : Nat) => D.int (1 + (m : Int))).map (ascV lt ds)).all id = asc lt ds := by
  rw [asc_at, List.map_map, List.all_map]
  congr 1
  funext m
  have g1 : (1 + (m : Int) - 1).toNat = m := by omega
  show ascV lt ds (.int (1 + (m : Int))) = _
  rw [ascV, g1]
theorem dens_1 {cx : Cxt} {e : Ex} {σ : Env} {S S' : Store} {t : T} (h : (den cx e).e σ S = .ok t S') : dens cx [e] σ S = .ok [t] S' := by
  simp [h]
theorem nd_1 {cx : Cxt} {k : Kd} {e : Ex} {σ : Env} {S S' : Store} {t : T} (h : (den cx e).e σ S = .ok t S') : (den cx (.nd k [e])).e σ S = app cx S' k [t] := by
  rw [den_nd, dens_1 h, bind_ok', kNd_ap]
theorem ret_1 {cx : Cxt} {e : Ex} {σ : Env} {S S' : Store} {d : D} (h : (den cx e).e σ S = .ok (.v d) S') : exSs cx [.ret e] σ S = .ok (.rt d) S' := by
  rw [exs_cons, ex_ret, h]
  rfl
theorem asc_den (cx : Cxt) (ds : List D) (S : Store) (hl : ds.length ≤ 16777216) (lt : D → D → Bool) (hlt : ∀ a b, a ∈ ds → b ∈ ds → ltD a b = some (lt a b)) :
    (den cx (.lc (.var 1) .rng [(.cst (.int 1)), (.nd (.bi .len) [(.var 0)])] [] ascEl [1])).e [some (.tup ds), none] S = .ok (.t (.lst ((((List.range (ds.length - 1)).map fun (m : Nat) => D.int (1 + (m : Int))).map (ascV lt ds)).map D.bl))) S := by
  have e2 := asc_lc cx ds S lt hlt
  have e5 := iter_from1 S ds.length hl
  have e6 : biE S .len (.v (.tup ds)) = some (.v (.int ds.length)) := rfl
  rw [den_lc]
  have e7 : dens cx [(.cst (.int 1)), (.nd (.bi .len) [(.var 0)])] [some (.tup ds), none] S = .ok [.v (.int 1), .v (.int ds.length)] S := by simp [e6]
  rw [e7, bind_ok', lcK_ap, e5, lcO_some, show wipeE [some (D.tup ds), none] [1] = [some (D.tup ds), none] from rfl, e2]
  rfl
theorem ascS (h : tb.fs[i]? = some ascF) (k : Nat) (ds : List D) (S : Store) (hl : ds.length ≤ 16777216) (lt : D → D → Bool) (hlt : ∀ a b, a ∈ ds → b ∈ ds → ltD a b = some (lt a b)) :
    runK tb (k + 1) i [.tup ds] S = .ok (.bl (asc lt ds)) S := by
  rw [run_of h k _ _ rfl]
  have e3 := bi_all (S := S) (bs := ((List.range (ds.length - 1)).map fun (m : Nat) => D.int (1 + (m : Int))).map (ascV lt ds)) rfl
  rw [asc_all] at e3
  have e8 : (den (cxK tb k) (.nd (.bi .all) [(.lc (.var 1) .rng [(.cst (.int 1)), (.nd (.bi .len) [(.var 0)])] [] ascEl [1])])).e [some (.tup ds), none] S = .ok (.v (.bl (asc lt ds))) S := by
    rw [nd_1 (asc_den (cxK tb k) ds S hl lt hlt), app_bi, e3]
    rfl
  have e9 := ret_1 e8
  show finE S (exSs (cxK tb k) [.ret (.nd (.bi .all) [(.lc (.var 1) .rng [(.cst (.int 1)), (.nd (.bi .len) [(.var 0)])] [] ascEl [1])])] [some (.tup ds), none] S) = _
  rw [e9, fin_rt, gc_same]
/-! comprehensions within all, any -/
theorem lc_gen {cx : Cxt} {σ σ' : Env} {S : Store} {v : Nat} {ik : Ik} {ia : List Ex} {el : Ex} {own : List Nat} {ts : List T} {ds : List D} {g : Store → Bool} (f : D → D) (hi : dens cx ia σ S = .ok ts S) (ht : iterOf S ik ts = some (ds, g)) (hg : g S = true)
    (hw : wipeE σ own = σ') (hv : v < σ'.length) (he : ∀ d ∈ ds, ((den cx el).e (σ'.set v (some d)) S).alloc = .ok (f d) S) : (den cx (.lc (.var v) ik ia [] el own)).e σ S = .ok (.t (.lst (ds.map f))) S := by
  have e2 : lcL (bindT (.var v)) (dent cx []) (elF cx el) g σ' ds S = .ok (ds.map f) S := by
    refine lcL_all f hg ds fun d hd => ⟨σ'.set v (some d), ?_, rfl, he d hd⟩
    show (if v < σ'.length then some (σ'.set v (some d)) else none) = _
    rw [if_pos hv]
  rw [den_lc, hi, bind_ok', lcK_ap, ht, lcO_some, hw, e2]
  rfl
theorem all_gen {cx : Cxt} {σ σ' : Env} {S : Store} {v : Nat} {ik : Ik} {ia : List Ex} {el : Ex} {own : List Nat} {ts : List T} {ds : List D} {g : Store → Bool} (f : D → Bool) (hi : dens cx ia σ S = .ok ts S) (ht : iterOf S ik ts = some (ds, g)) (hg : g S = true)
    (hw : wipeE σ own = σ') (hv : v < σ'.length) (he : ∀ d ∈ ds, (den cx el).e (σ'.set v (some d)) S = .ok (.v (.bl (f d))) S) : (den cx (.nd (.bi .all) [.lc (.var v) ik ia [] el own])).e σ S = .ok (.v (.bl (ds.all f))) S := by
  have e := lc_gen (cx := cx) (el := el) (fun d => D.bl (f d)) hi ht hg hw hv fun d hd => by rw [he d hd]; rfl
  have e3 := bi_all (S := S) (ds := ds.map fun d => D.bl (f d)) (bs := ds.map f) (by rw [List.map_map]; rfl)
  rw [nd_1 e, app_bi, e3, List.all_map]
  rfl
theorem any_gen {cx : Cxt} {σ σ' : Env} {S : Store} {v : Nat} {ik : Ik} {ia : List Ex} {el : Ex} {own : List Nat} {ts : List T} {ds : List D} {g : Store → Bool} (f : D → Bool) (hi : dens cx ia σ S = .ok ts S) (ht : iterOf S ik ts = some (ds, g)) (hg : g S = true)
    (hw : wipeE σ own = σ') (hv : v < σ'.length) (he : ∀ d ∈ ds, (den cx el).e (σ'.set v (some d)) S = .ok (.v (.bl (f d))) S) : (den cx (.nd (.bi .any) [.lc (.var v) ik ia [] el own])).e σ S = .ok (.v (.bl (ds.any f))) S := by
  have e := lc_gen (cx := cx) (el := el) (fun d => D.bl (f d)) hi ht hg hw hv fun d hd => by rw [he d hd]; rfl
  have e3 := bi_any (S := S) (ds := ds.map fun d => D.bl (f d)) (bs := ds.map f) (by rw [List.map_map]; rfl)
  rw [nd_1 e, app_bi, e3, List.any_map]
  rfl
/-- all([.. for at in range(1, n)]) -/
theorem all_from1 {cx : Cxt} {σ σ' : Env} {S : Store} {v : Nat} {ln el : Ex} {own : List Nat} {n : Nat} (f : Nat → Bool) (hn : (den cx ln).e σ S = .ok (.v (.int n)) S) (hl : n ≤ 16777216)
    (hw : wipeE σ own = σ') (hv : v < σ'.length) (he : ∀ m, m + 1 < n → (den cx el).e (σ'.set v (some (.int (1 + (m : Int))))) S = .ok (.v (.bl (f m))) S) :
    (den cx (.nd (.bi .all) [.lc (.var v) .rng [.cst (.int 1), ln] [] el own])).e σ S = .ok (.v (.bl ((List.range (n - 1)).all f))) S := by
  have hi : dens cx [.cst (.int 1), ln] σ S = .ok [.v (.int 1), .v (.int n)] S := by simp [hn]
  rw [all_gen (fun d => match d with | .int z => f (z - 1).toNat | _ => true) hi (iter_from1 S n hl) rfl hw hv fun d hd => ?_]
  · rw [List.all_map]
    have e : ((fun d => match d with | D.int z => f (z - 1).toNat | _ => true) ∘ fun (m : Nat) => D.int (1 + (m : Int))) = f := by
      funext m
      have g1 : (1 + (m : Int) - 1).toNat = m := by omega
      show f (1 + (m : Int) - 1).toNat = _
      rw [g1]
    rw [e]
  · obtain ⟨m, hm, rfl⟩ := List.mem_map.mp hd
    have hm := List.mem_range.mp hm
    have g1 : (1 + (m : Int) - 1).toNat = m := by omega
    rw [he m (by omega)]
    show _ = R.ok (T.v (D.bl (f (1 + (m : Int) - 1).toNat))) S
    rw [g1]
/-! is_clause -/
def halfEl : Ex := .nd (.cmp .lt) [(.nd (.op .fdiv) [(.nd .idx [(.var 0), (.nd (.op .sub) [(.var 2), (.cst (.int 1))])]), (.cst (.int 2))]), (.nd (.op .fdiv) [(.nd .idx [(.var 0), (.var 2)]), (.cst (.int 2))])]
def halfE : Ex := .nd (.bi .all) [(.lc (.var 2) .rng [(.cst (.int 1)), (.nd (.bi .len) [(.var 0)])] [] halfEl [2])]
def clauseF (i2 i3 : Nat) : Fd := ⟨2, 3, [.ite (.or (.not (.na (.call i2) [(.var 0), (.nd (.op .mul) [(.cst (.int 2)), (.var 1)])])) (.not (.na (.call i3) [(.var 0)]))) [.ret (.cst (.bl false))] [], .ret halfE]⟩
def ltI (a b : Int) : Bool := decide (a < b)
theorem asc_map {α β : Type} (f : α → β) (lt : β → β → Bool) (lt' : α → α → Bool) (h : ∀ a b, lt (f a) (f b) = lt' a b) : ∀ xs : List α, asc lt (xs.map f) = asc lt' xs
  | [] => rfl
  | [a] => rfl
  | a :: b :: r => by
    have ih := asc_map f lt lt' h (b :: r)
    rw [List.map_cons] at ih
    rw [List.map_cons, List.map_cons, asc, asc, h, ih]
/-- a clause over so many flags: ascending literals, of different flags -/
def clauseI (m : Int) (xs : List Int) : Bool := xs.all (fun i => decide (0 ≤ i) && decide (i < 2 * m)) && (asc ltI xs && asc ltI (xs.map (· / 2)))
def clauseB (m : Int) : D → Bool
  | .tup ds => match intsOf ds with
    | some xs => clauseI m xs
    | none => false
  | _ => false
theorem intsOf_cons (d : D) (ds : List D) : intsOf (d :: ds) = match d with | .int i => (intsOf ds).map (i :: ·) | _ => none := by
  cases d <;> rfl
theorem below_ints (b : Int) : ∀ ds : List D, ds.all (belowB b) = match intsOf ds with
    | some xs => xs.all fun i => decide (0 ≤ i) && decide (i < b)
    | none => false
  | [] => rfl
  | d :: ds => by
    rw [List.all_cons, below_ints b ds, intsOf_cons]
    cases d with
    | int z =>
      dsimp only
      cases hq : intsOf ds with
      | none => simp
      | some xs => rfl
    | _ => simp [belowB]
def dIn : D → Int | .int i => i | _ => 0
def ltV (a b : D) : Bool := decide (dIn a < dIn b)
theorem ltD_ints {xs : List Int} : ∀ a b, a ∈ xs.map D.int → b ∈ xs.map D.int → ltD a b = some (ltV a b) := by
  intro a b ha hb
  obtain ⟨x, _, rfl⟩ := List.mem_map.mp ha
  obtain ⟨y, _, rfl⟩ := List.mem_map.mp hb
  rfl
theorem halfS {cx : Cxt} {S : Store} {xs : List Int} {b : D} (hl : xs.length ≤ 16777216) : (den cx halfE).e [some (.tup (xs.map D.int)), some b, none] S = .ok (.v (.bl (asc ltI (xs.map (· / 2))))) S := by
  have hn : (den cx (.nd (.bi .len) [(.var 0)])).e [some (.tup (xs.map D.int)), some b, none] S = .ok (.v (.int xs.length)) S := by
    have e6 : biE S .len (.v (.tup (xs.map D.int))) = some (.v (.int (xs.map D.int).length)) := rfl
    rw [List.length_map] at e6
    simp [e6]
  unfold halfE
  rw [all_from1 (σ' := [some (.tup (xs.map D.int)), some b, none]) (ltAt ltI (xs.map (· / 2))) hn hl rfl (by simp) fun m hm => ?_]
  · have e := asc_at ltI (xs.map (· / 2))
    rw [List.length_map] at e
    rw [e]
  · have a1 : L2.atI (xs.map D.int) (m : Int) = some (.int xs[m]) := by
      rw [atI_get _ m (by rw [List.length_map]; omega), List.getElem_map]
    have a2 : L2.atI (xs.map D.int) (1 + (m : Int)) = some (.int xs[m + 1]) := by
      have e : 1 + (m : Int) = ((m + 1 : Nat) : Int) := by omega
      rw [e, atI_get _ (m + 1) (by rw [List.length_map]; omega), List.getElem_map]
    have e1 : (1 + (m : Int) - 1) = (m : Int) := by omega
    have hq : ltAt ltI (xs.map (· / 2)) m = decide (xs[m] / 2 < xs[m + 1] / 2) := by
      rw [ltAt_of (a := xs[m] / 2) (b := xs[m + 1] / 2) (by rw [List.getElem?_map, List.getElem?_eq_getElem (by omega)]; rfl) (by rw [List.getElem?_map, List.getElem?_eq_getElem (by omega)]; rfl)]
      rfl
    rw [hq]
    simp [halfEl, opE, opI, e1, idxE, seqR, a1, a2, cmpE, ltD]
theorem clauseS (h1 : tb.fs[i1]? = some wholeF) (h2 : tb.fs[i2]? = some (belowF i1)) {i4 : Nat} (h4 : tb.fs[i4]? = some (areBelowF i2)) (h3 : tb.fs[i3]? = some ascF) (h : tb.fs[i]? = some (clauseF i4 i3)) (k : Nat) (d : D) (m : Int) (S : Store) (hk : knT S d) :
    runK tb (k + 4) i [d, .int m] S = .ok (.bl (clauseB m d)) S := by
  rw [run_of h (k + 3) _ _ rfl]
  have e1 := areBelowS h1 h2 h4 k d (2 * m) S hk
  show finE S (exSs (cxK tb (k + 3)) (clauseF i4 i3).body [some d, some (.int m), none] S) = _
  cases hb : areBelow (2 * m) d with
  | false =>
    rw [hb] at e1
    have e0 : clauseB m d = false := by
      cases d with
      | tup ds =>
        have e := below_ints (2 * m) ds
        have hb : ds.all (belowB (2 * m)) = false := hb
        rw [hb] at e
        show (match intsOf ds with | some xs => clauseI m xs | none => false) = false
        cases hq : intsOf ds with
        | none => rfl
        | some xs =>
          rw [hq] at e
          dsimp only at e ⊢
          rw [clauseI, ← e, Bool.false_and]
      | _ => rfl
    rw [e0]
    simp [clauseF, opE, opI, e1]
  | true =>
    rw [hb] at e1
    cases d with
    | tup ds =>
      have e := below_ints (2 * m) ds
      have hb : ds.all (belowB (2 * m)) = true := hb
      rw [hb] at e
      cases hq : intsOf ds with
      | none => rw [hq] at e; cases e
      | some xs =>
        rw [hq] at e
        dsimp only at e
        have hd := intsOf_map hq
        subst hd
        have hlen : xs.length ≤ 16777216 := by
          have := (hk.2 _ rfl).1
          rw [List.length_map] at this
          omega
        have e2 : runK tb (k + 3) i3 [.tup (xs.map D.int)] S = .ok (.bl (asc ltV (xs.map D.int))) S := ascS h3 (k + 2) (xs.map D.int) S (by rw [List.length_map]; exact hlen) ltV ltD_ints
        rw [asc_map D.int ltV ltI (fun _ _ => rfl)] at e2
        have e0 : clauseB m (.tup (xs.map D.int)) = (asc ltI xs && asc ltI (xs.map (· / 2))) := by
          show (match intsOf (xs.map D.int) with | some xs => clauseI m xs | none => false) = _
          rw [hq]
          dsimp only
          rw [clauseI, ← e, Bool.true_and]
        rw [e0]
        cases ha : asc ltI xs with
        | false =>
          rw [ha] at e2
          simp [clauseF, opE, opI, e1, e2]
        | true =>
          rw [ha] at e2
          have e3 := halfS (cx := cxK tb (k + 3)) (S := S) (xs := xs) (b := .int m) hlen
          have e4 := ret_1 e3
          rw [Bool.true_and]
          simp only [clauseF]
          rw [exs_cons]
          have e5 : exS (cxK tb (k + 3)) (.ite (.or (.not (.na (.call i4) [(.var 0), (.nd (.op .mul) [(.cst (.int 2)), (.var 1)])])) (.not (.na (.call i3) [(.var 0)]))) [.ret (.cst (.bl false))] []) [some (.tup (xs.map D.int)), some (.int m), none] S = .ok (.nx [some (.tup (xs.map D.int)), some (.int m), none]) S := by
            simp [opE, opI, e1, e2]
          rw [e5, bind_ok', seqK_nx, e4, fin_rt, gc_same]
    | _ => cases hb
end
end Ev
set_option Elab.async false
set_option linter.all false
set_option maxRecDepth 100000
set_option autoImplicit false
set_option maxHeartbeats 4000000
/-! Sp, part C: clause books; the rows of digits that the laws draw. -/
namespace Ev
open PySem
section
variable {tb : Tb} {i i1 i2 i3 i4 i5 : Nat}
/-! are_clauses -/
def clausesF (i5 i3 : Nat) : Fd := ⟨2, 3, [.ite (.or (.not (.nd (.isi (.b "tuple")) [(.var 0)])) (.nd (.cmp .gt) [(.nd (.bi .len) [(.var 0)]), (.cst (.int 1000000))])) [.ret (.cst (.bl false))] [], .ret (.and (.nd (.bi .all) [(.lc (.var 2) .seq [(.var 0)] [] (.na (.call i5) [(.var 2), (.var 1)]) [2])]) (.na (.call i3) [(.var 0)]))]⟩
def clausesL (m : Int) (xs : List (List Int)) : Bool := xs.all (clauseI m) && asc HT.lexLt xs
def clausesB (m : Int) : D → Bool
  | .tup ds => decide (ds.length ≤ 1000000) && match tupsOf ds with
    | some xs => clausesL m xs
    | none => false
  | _ => false
theorem tupsOf_tups : ∀ xs : List (List Int), tupsOf (xs.map tupI) = some xs
  | [] => rfl
  | x :: xs => by
    rw [List.map_cons, tupI, tupsOf, intsOf_ints, tupsOf_tups xs]
    rfl
theorem clauseB_tupI (m : Int) (x : List Int) : clauseB m (tupI x) = clauseI m x := by
  show (match intsOf (x.map D.int) with | some xs => clauseI m xs | none => false) = _
  rw [intsOf_ints]
theorem clauses_tups (m : Int) : ∀ ds : List D, ds.all (clauseB m) = match tupsOf ds with
    | some xs => xs.all (clauseI m)
    | none => false
  | [] => rfl
  | d :: ds => by
    rw [List.all_cons, clauses_tups m ds]
    cases d with
    | tup es =>
      rw [tupsOf]
      cases hq : intsOf es with
      | none => simp [clauseB, hq]
      | some ys =>
        have e : clauseB m (.tup es) = clauseI m ys := by simp [clauseB, hq]
        rw [e, Option.bind_some]
        cases hr : tupsOf ds with
        | none => simp
        | some xs => rfl
    | _ => simp [clauseB, tupsOf]
def tIn : D → List Int
  | .tup ds => (intsOf ds).getD []
  | _ => []
def ltT (a b : D) : Bool := HT.lexLt (tIn a) (tIn b)
theorem tIn_tupI (x : List Int) : tIn (tupI x) = x := by
  rw [tupI, tIn, intsOf_ints]
  rfl
theorem ltD_tups {xs : List (List Int)} : ∀ a b, a ∈ xs.map tupI → b ∈ xs.map tupI → ltD a b = some (ltT a b) := by
  intro a b ha hb
  obtain ⟨x, _, rfl⟩ := List.mem_map.mp ha
  obtain ⟨y, _, rfl⟩ := List.mem_map.mp hb
  rw [ltT, tIn_tupI, tIn_tupI]
  rw [tupI, tupI, ltD, intsOf_ints, intsOf_ints]
theorem clausesS (h1 : tb.fs[i1]? = some wholeF) (h2 : tb.fs[i2]? = some (belowF i1)) (h4 : tb.fs[i4]? = some (areBelowF i2)) (h3 : tb.fs[i3]? = some ascF) (h5 : tb.fs[i5]? = some (clauseF i4 i3)) (h : tb.fs[i]? = some (clausesF i5 i3))
    (k : Nat) (d : D) (m : Int) (S : Store) (hk : knTT S d) : runK tb (k + 5) i [d, .int m] S = .ok (.bl (clausesB m d)) S := by
  rw [run_of h (k + 4) _ _ rfl]
  show finE S (exSs (cxK tb (k + 4)) (clausesF i5 i3).body [some d, some (.int m), none] S) = _
  have e1 := isiTup (cx := cxK tb (k + 4)) hk.1
  cases d with
  | tup ds =>
    obtain ⟨hl, hx⟩ := hk.2 ds rfl
    have e0 : clausesB m (.tup ds) = (decide (ds.length ≤ 1000000) && match tupsOf ds with
      | some xs => clausesL m xs
      | none => false) := rfl
    have e6 : biE S .len (.v (.tup ds)) = some (.v (.int ds.length)) := rfl
    by_cases hs : ds.length ≤ 1000000
    · have hd : decide ((1000000 : Int) < (ds.length : Int)) = false := decide_eq_false (by omega)
      have e2 : exS (cxK tb (k + 4)) (.ite (.or (.not (.nd (.isi (.b "tuple")) [(.var 0)])) (.nd (.cmp .gt) [(.nd (.bi .len) [(.var 0)]), (.cst (.int 1000000))])) [.ret (.cst (.bl false))] []) [some (.tup ds), some (.int m), none] S = .ok (.nx [some (.tup ds), some (.int m), none]) S := by
        simp [e6, cmpE, cmpI, hd]
      have e3 : (den (cxK tb (k + 4)) (.nd (.bi .all) [(.lc (.var 2) .seq [(.var 0)] [] (.na (.call i5) [(.var 2), (.var 1)]) [2])])).e [some (.tup ds), some (.int m), none] S = .ok (.v (.bl (ds.all (clauseB m)))) S :=
        all_gen (σ' := [some (.tup ds), some (.int m), none]) (ts := [.v (.tup ds)]) (ds := ds) (g := fun _ => true) (clauseB m) (by simp) rfl rfl rfl (by simp) fun d hd => by
          simp [clauseS h1 h2 h4 h3 h5 k d m S (hx d hd)]
      rw [clauses_tups m ds] at e3
      cases hq : tupsOf ds with
      | none =>
        rw [hq] at e3 e0
        rw [e0, Bool.and_false]
        simp only [clausesF]
        rw [exs_cons, e2, bind_ok', seqK_nx, ret_1 (d := .bl false) (by rw [den_and, e3]; rfl), fin_rt, gc_same]
      | some xs =>
        have hm := tupsOf_map hq
        subst hm
        rw [hq] at e3 e0
        dsimp only at e3 e0
        rw [e0, decide_eq_true hs, Bool.true_and, clausesL]
        simp only [clausesF]
        rw [exs_cons, e2, bind_ok', seqK_nx]
        cases ha : xs.all (clauseI m) with
        | false =>
          rw [ha] at e3
          rw [ret_1 (d := .bl false) (by rw [den_and, e3]; rfl), fin_rt, gc_same, Bool.false_and]
        | true =>
          rw [ha] at e3
          have e7 : runK tb (k + 4) i3 [.tup (xs.map tupI)] S = .ok (.bl (asc ltT (xs.map tupI))) S := ascS h3 (k + 3) (xs.map tupI) S (by omega) ltT ltD_tups
          rw [asc_map tupI ltT HT.lexLt (fun a b => by rw [ltT, tIn_tupI, tIn_tupI])] at e7
          have e8 : (den (cxK tb (k + 4)) (.and (.nd (.bi .all) [(.lc (.var 2) .seq [(.var 0)] [] (.na (.call i5) [(.var 2), (.var 1)]) [2])]) (.na (.call i3) [(.var 0)]))).e [some (.tup (xs.map tupI)), some (.int m), none] S = .ok (.v (.bl (asc HT.lexLt xs))) S := by
            rw [den_and, e3, bind_ok', andK_t]
            simp [e7]
          rw [ret_1 e8, fin_rt, gc_same, Bool.true_and]
    · have hd : decide ((1000000 : Int) < (ds.length : Int)) = true := decide_eq_true (by omega)
      rw [e0, decide_eq_false hs, Bool.false_and]
      simp [clausesF, e6, cmpE, cmpI, hd]
  | _ => simp [clausesF, e1, isTp, clausesB]
/-! ClauseBook -/
def cbIniF (iF iC ce f0 f1 : Nat) : Fd := ⟨3, 3, [.ite (.or (.not (.na (.call iF) [(.var 1)])) (.or (.nd (.cmp .gt) [(.nd (.bi .len) [(.var 1)]), (.cst (.int 500))]) (.not (.na (.call iC) [(.var 2), (.nd (.bi .len) [(.var 1)])])))) [.rse ce []] [], .fldS (.var 0) f0 (.var 1), .fldS (.var 0) f1 (.var 2)]⟩
def lenD : D → Nat | .tup ds => ds.length | _ => 0
/-- what ClauseBook takes -/
def cbB (a b : D) : Bool := areFlags a && (decide (lenD a ≤ 500) && clausesB (lenD a) b)
theorem gc_len {S S1 : Store} {d : D} (h : S1.length = S.length) : gc S d S1 = S1 := by
  unfold gc
  split
  · rename_i hc
    rw [← hc.1, ← h, List.take_length]
  · rfl
structure CbT (tb : Tb) (i1 i2 i3 i4 i5 iF iC iI ce f0 f1 c : Nat) : Prop where
  h1 : tb.fs[i1]? = some wholeF
  h2 : tb.fs[i2]? = some (belowF i1)
  h4 : tb.fs[i4]? = some (areBelowF i2)
  h3 : tb.fs[i3]? = some ascF
  h5 : tb.fs[i5]? = some (clauseF i4 i3)
  hF : tb.fs[iF]? = some areFlagsF
  hC : tb.fs[iC]? = some (clausesF i5 i3)
  hI : tb.fs[iI]? = some (cbIniF iF iC ce f0 f1)
  ini : tb.ini c = some iI
  at0 : tb.at_ c f0 = true
  at1 : tb.at_ c f1 = true
  rs : tb.rs ce = true
  ff : f0 ≠ f1
section
variable {iF iC iI ce f0 f1 c : Nat}
theorem cbIniS (B : CbT tb i1 i2 i3 i4 i5 iF iC iI ce f0 f1 c) (k n : Nat) (a b : D) (S : Store) (hn : S[n]? = some (.ins c [])) (ha : knT S a) (hb : knTT S b) :
    runK tb (k + 6) iI [.ref n, a, b] S = if cbB a b = true then .ok .non (S.set n (.ins c [(f0, a), (f1, b)])) else .ex ce [] S := by
  rw [run_of B.hI (k + 5) _ _ rfl]
  have e1 : runK tb (k + 5) iF [a] S = .ok (.bl (areFlags a)) S := areFlagsS B.hF (k + 4) a S ha
  have e2 : ∀ m, runK tb (k + 5) iC [b, .int m] S = .ok (.bl (clausesB m b)) S := fun m => clausesS B.h1 B.h2 B.h4 B.h3 B.h5 B.hC k b m S hb
  have ers : (cxK tb (k + 5)).rs ce = true := B.rs
  have eat0 : tb.at_ c f0 = true := B.at0
  have eat1 : tb.at_ c f1 = true := B.at1
  show finE S (exSs (cxK tb (k + 5)) (cbIniF iF iC ce f0 f1).body [some (.ref n), some a, some b] S) = _
  have er : exS (cxK tb (k + 5)) (.rse ce []) [some (.ref n), some a, some b] S = .ok (.xc [some (.ref n), some a, some b] ce []) S := by
    simp only [exS]
    rw [if_pos ers]
    rfl
  have egx : gcX S [] S = S := by unfold gcX; split <;> rfl
  have bad : cbB a b = false → (den (cxK tb (k + 5)) (.or (.not (.na (.call iF) [(.var 1)])) (.or (.nd (.cmp .gt) [(.nd (.bi .len) [(.var 1)]), (.cst (.int 500))]) (.not (.na (.call iC) [(.var 2), (.nd (.bi .len) [(.var 1)])]))))).b [some (.ref n), some a, some b] S = .ok true S := by
    intro h
    cases hf : areFlags a with
    | false =>
      rw [hf] at e1
      simp [e1]
    | true =>
      rw [hf] at e1
      cases a with
      | tup ds =>
        have e6 : biE S .len (.v (.tup ds)) = some (.v (.int ds.length)) := rfl
        by_cases hl : ds.length ≤ 500
        · have hd : decide ((500 : Int) < (ds.length : Int)) = false := decide_eq_false (by omega)
          have hc : clausesB (ds.length : Nat) b = false := by
            unfold cbB at h
            rw [hf, Bool.true_and] at h
            have hl2 : decide (lenD (.tup ds) ≤ 500) = true := decide_eq_true hl
            rw [hl2, Bool.true_and] at h
            exact h
          have e3 := e2 (ds.length : Nat)
          rw [hc] at e3
          simp [e1, e6, cmpE, cmpI, hd, e3]
        · have hd : decide ((500 : Int) < (ds.length : Int)) = true := decide_eq_true (by omega)
          simp [e1, e6, cmpE, cmpI, hd]
      | _ => cases hf
  have good : cbB a b = true → (den (cxK tb (k + 5)) (.or (.not (.na (.call iF) [(.var 1)])) (.or (.nd (.cmp .gt) [(.nd (.bi .len) [(.var 1)]), (.cst (.int 500))]) (.not (.na (.call iC) [(.var 2), (.nd (.bi .len) [(.var 1)])]))))).b [some (.ref n), some a, some b] S = .ok false S := by
    intro h
    unfold cbB at h
    rw [Bool.and_eq_true, Bool.and_eq_true] at h
    obtain ⟨hf, hl, hc⟩ := h
    rw [hf] at e1
    cases a with
    | tup ds =>
      have e6 : biE S .len (.v (.tup ds)) = some (.v (.int ds.length)) := rfl
      have hl' : ds.length ≤ 500 := of_decide_eq_true hl
      have hd : decide ((500 : Int) < (ds.length : Int)) = false := decide_eq_false (by omega)
      have hc' : clausesB (ds.length : Nat) b = true := hc
      have e3 := e2 (ds.length : Nat)
      rw [hc'] at e3
      simp [e1, e6, cmpE, cmpI, hd, e3]
    | _ => cases hf
  cases hc : cbB a b with
  | false =>
    rw [if_neg (by simp)]
    have e := bad hc
    simp only [cbIniF]
    rw [exs_cons, ex_ite, e, cat_ok', ifK_ap, if_pos rfl, exs_cons, er]
    simp only [bind_ok', seqK_xc, fin_xc, egx]
  | true =>
    rw [if_pos rfl]
    have e := good hc
    have h0 : n < S.length := (List.getElem?_eq_some_iff.mp hn).1
    simp only [cbIniF]
    rw [exs_cons, ex_ite, e, cat_ok', ifK_ap, if_neg (by simp), exs_nil, bind_ok', seqK_nx]
    have e4 : exS (cxK tb (k + 5)) (.fldS (.var 0) f0 (.var 1)) [some (.ref n), some a, some b] S = .ok (.nx [some (.ref n), some a, some b]) (S.set n (.ins c [(f0, a)])) := by
      simp only [exS]
      simp [hn, eat0, putN]
    have hn2 : (S.set n (.ins c [(f0, a)]))[n]? = some (.ins c [(f0, a)]) := by simp [h0]
    have e5 : exS (cxK tb (k + 5)) (.fldS (.var 0) f1 (.var 2)) [some (.ref n), some a, some b] (S.set n (.ins c [(f0, a)])) = .ok (.nx [some (.ref n), some a, some b]) (S.set n (.ins c [(f0, a), (f1, b)])) := by
      simp only [exS]
      simp [hn2, eat1, putN, B.ff]
    rw [exs_cons, e4, bind_ok', seqK_nx, exs_cons, e5, bind_ok', seqK_nx, exs_nil, fin_nx, gc_len (by simp)]
/-- ClauseBook(a, b) -/
theorem cbMakS (B : CbT tb i1 i2 i3 i4 i5 iF iC iI ce f0 f1 c) (k : Nat) (a b : D) (S : Store) (ha : knT (S ++ [.ins c []]) a) (hb : knTT (S ++ [.ins c []]) b) :
    mkE (runJ tb (k + 7)) tb.ini c [a, b] S = if cbB a b = true then .ok (.ref S.length) (S ++ [.ins c [(f0, a), (f1, b)]]) else .ex ce [] (S ++ [.ins c []]) := by
  unfold mkE
  rw [B.ini]
  dsimp only
  have hn : (S ++ [O.ins c []])[S.length]? = some (.ins c []) := by simp
  have e := cbIniS B k S.length a b (S ++ [.ins c []]) hn ha hb
  rw [show runJ tb (k + 7) iI = runK tb (k + 6) iI from rfl, e]
  split
  · simp
  · rfl
end
end
end Ev
set_option Elab.async false
set_option linter.all false
set_option maxRecDepth 100000
set_option autoImplicit false
set_option maxHeartbeats 4000000
/-! Sp, part D: what the laws draw: cells, rows of digits, flags; sameness. -/
namespace Ev
open PySem
section
variable {tb : Tb} {i i1 i2 i3 i4 i5 : Nat}
/-! _law_cell -/
def cellF : Fd := ⟨2, 2, [.ite (.nd (.cmp .lt) [(.var 1), (.nd (.bi .len) [(.var 0)])]) [.ret (.nd .idx [(.var 0), (.var 1)])] [], .ret (.cst (.int 0))]⟩
theorem cellS (h : tb.fs[i]? = some cellF) (k : Nat) (ns : List Int) (n c : Nat) (S : Store) (hn : S[n]? = some (.lk (.lst (ns.map D.int)))) : runK tb (k + 1) i [.ref n, .int c] S = .ok (.int (ns.getD c 0)) S := by
  rw [run_of h k _ _ rfl]
  have e1 : seqR S (.v (.ref n)) = some (ns.map D.int) := by simp [seqR, lstR, objR, unlk, hn]
  have e2 : biE S .len (.v (.ref n)) = some (.v (.int ns.length)) := by simp [biE, e1]
  by_cases hc : c < ns.length
  · have hd : decide ((c : Int) < (ns.length : Int)) = true := decide_eq_true (by omega)
    have e3 : L2.atI (ns.map D.int) (c : Int) = some (.int (ns.getD c 0)) := by
      rw [atI_get _ c (by rw [List.length_map]; exact hc), List.getElem_map, List.getD_eq_getElem?_getD, List.getElem?_eq_getElem hc]
      rfl
    rw [List.getD_eq_getElem?_getD] at e3 ⊢
    simp [cellF, e2, cmpE, ltD, hc, idxE, e1, e3]
  · have hd : decide ((c : Int) < (ns.length : Int)) = false := decide_eq_false (by omega)
    have e3 : ns.getD c 0 = 0 := by
      rw [List.getD_eq_getElem?_getD, List.getElem?_eq_none (by omega)]
      rfl
    rw [e3]
    simp [cellF, e2, cmpE, ltD, hc]
/-! _law_row -/
def rowB : List Sx := [.set (.var 4) (.nd (.op .mod) [(.nd (.bi .int) [(.nd (.op .add) [(.nd (.op .add) [(.nd (.op .mul) [(.var 4), (.cst (.int 48271))]), (.nd (.op .mul) [(.cst (.int 29)), (.var 6)])]), (.cst (.int 17))])]), (.cst (.int 2147483647))]), .set (.var 4) (.nd (.op .mod) [(.nd (.bi .int) [(.nd (.op .add) [(.nd (.op .add) [(.nd (.op .mul) [(.var 4), (.cst (.int 69621))]), (.nd (.op .mul) [(.cst (.int 13)), (.var 6)])]), (.cst (.int 5))])]), (.cst (.int 2147483629))]), .ite (.and (.var 3) (.nd (.cmp .gt) [(.var 2), (.cst (.int 0))])) [.ex (.meth .append (.var 5) [(.nd (.op .mod) [(.nd (.bi .int) [(.var 2)]), (.nd .idx [(.var 1), (.var 6)])])]), .set (.var 2) (.nd (.op .fdiv) [(.var 2), (.nd .idx [(.var 1), (.var 6)])])] [.ex (.meth .append (.var 5) [(.nd (.op .mod) [(.nd (.bi .int) [(.nd (.op .fdiv) [(.var 4), (.cst (.int 7))])]), (.nd .idx [(.var 1), (.var 6)])])])]]
def rowF : Fd := ⟨2, 7, [.set (.var 2) (.nd (.bi .abs) [(.var 0)]), .set (.var 3) (.nd (.cmp .ge) [(.var 2), (.nd (.op .pow) [(.cst (.int 10)), (.cst (.int 18))])]), .set (.var 4) (.nd (.op .mod) [(.nd (.bi .int) [(.var 2)]), (.cst (.int 2147483647))]), .set (.var 5) (.na .lst []), .fr (.var 6) .rng [(.nd (.bi .len) [(.var 1)])] rowB, .ret (.var 5)]⟩
/-- digits below their bounds -/
def Bnd : List Int → List Int → Prop
  | [], [] => True
  | r :: rs, b :: bs => (0 ≤ r ∧ r < b) ∧ Bnd rs bs
  | _, _ => False
theorem Bnd.len : ∀ {rs bs : List Int}, Bnd rs bs → rs.length = bs.length
  | [], [], _ => rfl
  | [], _ :: _, h => h.elim
  | _ :: _, [], h => h.elim
  | r :: rs, b :: bs, h => by simp [h.2.len]
theorem Bnd.snoc : ∀ {rs bs : List Int} {r b : Int}, Bnd rs bs → 0 ≤ r → r < b → Bnd (rs ++ [r]) (bs ++ [b])
  | [], [], r, b, _, h1, h2 => ⟨⟨h1, h2⟩, trivial⟩
  | [], _ :: _, _, _, h, _, _ => h.elim
  | _ :: _, [], _, _, h, _, _ => h.elim
  | _ :: rs, _ :: bs, r, b, h, h1, h2 => ⟨h.1, h.2.snoc h1 h2⟩
theorem B64_s (i : Int) (h1 : -(2 ^ 64) < i) (h2 : i < 2 ^ 64) : B64 i = true := by
  unfold B64
  rw [decide_eq_true h1, decide_eq_true h2]
  rfl
@[simp] theorem B64_a : B64 48271 = true := by decide
@[simp] theorem B64_b : B64 69621 = true := by decide
@[simp] theorem B64_c : B64 29 = true := by decide
@[simp] theorem B64_d : B64 13 = true := by decide
@[simp] theorem opE_int (S : Store) (o : Op2) (i j : Int) : opE S o (.v (.int i)) (.v (.int j)) = (opI o i j).map fun z => .v (.int z) := by cases o <;> rfl
@[simp] theorem bi_int (S : Store) (i : Int) : biE S .int (.v (.int i)) = some (.v (.int i)) := rfl
@[simp] theorem cmp_gt (S : Store) (i j : Int) : cmpE S .gt (.v (.int i)) (.v (.int j)) = some (decide (j < i)) := rfl
@[simp] theorem cmp_ge (S : Store) (i j : Int) : cmpE S .ge (.v (.int i)) (.v (.int j)) = some (decide (j ≤ i)) := rfl
@[simp] theorem cmp_lt (S : Store) (i j : Int) : cmpE S .lt (.v (.int i)) (.v (.int j)) = some (decide (i < j)) := rfl
@[simp] theorem cmp_le (S : Store) (i j : Int) : cmpE S .le (.v (.int i)) (.v (.int j)) = some (decide (i ≤ j)) := rfl
theorem opI_mod {i j : Int} (h : 0 < j) : opI .mod i j = some (i % j) := by
  show (if 0 < j then some (i % j) else none) = _
  rw [if_pos h]
theorem opI_fdiv {i j : Int} (h : 0 < j) (h2 : j < 1073741824) : opI .fdiv i j = some (i / j) := by
  show (if 0 < j ∧ j < 1073741824 then some (i / j) else none) = _
  rw [if_pos ⟨h, h2⟩]
@[simp] theorem opI_add (i j : Int) : opI .add i j = some (i + j) := rfl
@[simp] theorem opI_sub (i j : Int) : opI .sub i j = some (i - j) := rfl
@[simp] theorem opI_mulR (i j : Int) (h : B64 j = true) : opI .mul i j = some (i * j) := by
  show (if (B64 i || B64 j) = true then some (i * j) else none) = _
  rw [h, Bool.or_true, if_pos rfl]
@[simp] theorem opI_mulL (i j : Int) (h : B64 i = true) : opI .mul i j = some (i * j) := by
  show (if (B64 i || B64 j) = true then some (i * j) else none) = _
  rw [h, Bool.true_or, if_pos rfl]
theorem row_step (cx : Cxt) (S : Store) (b : Nat) (bs row : List Int) (j : Nat) (x0 x6 : Option D) (left mixed : Int) (great : Bool) (hb : S[b]? = some (.lst (bs.map D.int))) (hj : j < bs.length) (hp : ∀ x ∈ bs, 0 < x ∧ x < 1073741824) (hl : bs.length ≤ 1000) (hr : row.length = j) (h0 : 0 ≤ left) :
    ∃ left' mixed' r, 0 ≤ left' ∧ 0 ≤ r ∧ r < bs[j] ∧ exSs cx rowB [x0, some (.ref b), some (.int left), some (.bl great), some (.int mixed), some (.ref S.length), some (.int (j : Int))] (S ++ [.lst (row.map D.int)]) =
      .ok (.nx [x0, some (.ref b), some (.int left'), some (.bl great), some (.int mixed'), some (.ref S.length), some (.int (j : Int))]) (S ++ [.lst ((row ++ [r]).map D.int)]) := by
  obtain ⟨p1, p2⟩ := hp bs[j] (List.getElem_mem hj)
  have hb' := app_at hb [O.lst (row.map D.int)]
  have e1 : idxE (S ++ [.lst (row.map D.int)]) (.v (.ref b)) (.v (.int (j : Int))) = some (.int bs[j]) := by
    have e : L2.atI (bs.map D.int) (j : Int) = some (.int bs[j]) := by
      rw [atI_get _ j (by rw [List.length_map]; exact hj), List.getElem_map]
    simp [idxE, seqR, lstR, objR, unlk, hb', e]
  have hw : (S ++ [O.lst (row.map D.int)])[S.length]? = some (.lst (row.map D.int)) := by simp
  have e2 : meOk (S ++ [.lst (row.map D.int)]) .append (.v (.ref S.length)) = true := by simp [meOk, lstW, objW]
  have e3 : ∀ d, meE (S ++ [.lst (row.map D.int)]) .append (.v (.ref S.length)) [d] = .ok (.v .non) (S ++ [.lst (row.map D.int ++ [d])]) := fun d => by
    have hs : row.length < PySem.sizeLine := by rw [size_line]; omega
    simp [meE, hs]
  have m1 : ∀ z : Int, opI .mod z 2147483647 = some (z % 2147483647) := fun z => opI_mod (by omega)
  have m2 : ∀ z : Int, opI .mod z 2147483629 = some (z % 2147483629) := fun z => opI_mod (by omega)
  have m3 : ∀ z : Int, opI .mod z bs[j] = some (z % bs[j]) := fun z => opI_mod p1
  have m4 : ∀ z : Int, opI .fdiv z bs[j] = some (z / bs[j]) := fun z => opI_fdiv p1 p2
  have m5 : ∀ z : Int, opI .fdiv z 7 = some (z / 7) := fun z => opI_fdiv (by omega) (by omega)
  have hb2 := app_at hb
  have e4 : ∀ T, idxE (S ++ T) (.v (.ref b)) (.v (.int (j : Int))) = some (.int bs[j]) := fun T => by
    have e : L2.atI (bs.map D.int) (j : Int) = some (.int bs[j]) := by
      rw [atI_get _ j (by rw [List.length_map]; exact hj), List.getElem_map]
    simp [idxE, seqR, lstR, objR, unlk, hb2 T, e]
  by_cases hc : great = true ∧ 0 < left
  · refine ⟨left / bs[j], ((((mixed * 48271 + 29 * (j : Int) + 17) % 2147483647) * 69621 + 13 * (j : Int) + 5) % 2147483629), left % bs[j], Int.ediv_nonneg h0 (by omega), Int.emod_nonneg _ (by omega), Int.emod_lt_of_pos _ p1, ?_⟩
    have hd : decide (0 < left) = true := decide_eq_true hc.2
    rw [hc.1]
    simp [rowB, m1, m2, m3, m4, e4, e2, e3, hc.2]
  · refine ⟨left, ((((mixed * 48271 + 29 * (j : Int) + 17) % 2147483647) * 69621 + 13 * (j : Int) + 5) % 2147483629), ((((mixed * 48271 + 29 * (j : Int) + 17) % 2147483647) * 69621 + 13 * (j : Int) + 5) % 2147483629) / 7 % bs[j], h0, Int.emod_nonneg _ (by omega), Int.emod_lt_of_pos _ p1, ?_⟩
    have hd : (great = true → decide (0 < left) = false) := fun g => decide_eq_false fun h => hc ⟨g, h⟩
    cases great with
    | false =>
      simp [rowB, m1, m2, m3, m4, m5, e4, e2, e3]
    | true =>
      have hn : ¬ 0 < left := fun h => hc ⟨rfl, h⟩
      simp [rowB, m1, m2, m3, m4, m5, e4, e2, e3, hn]
theorem frL_ix {v : Nat} {body : Env → Store → R Fl} {g : Store → Bool} (ds : List D) (Pv : Nat → Env → Store → Prop)
    (step : ∀ (j : Nat) (hj : j < ds.length) (σ : Env) (S : Store), Pv j σ S → g S = true ∧ v < σ.length ∧ ∃ σ2 S2, (body (σ.set v (some ds[j])) S = .ok (.nx σ2) S2 ∨ body (σ.set v (some ds[j])) S = .ok (.ct σ2) S2) ∧ Pv (j + 1) σ2 S2)
    (last : ∀ σ S, Pv ds.length σ S → g S = true) (σ : Env) (S : Store) (h : Pv 0 σ S) : ∃ σ' S', frL (bindT (.var v)) body g ds σ S = .ok (.nx σ') S' ∧ Pv ds.length σ' S' := by
  obtain ⟨σ', S', h1, j, h2, h3, h4⟩ := frL_run (bnd := bindT (.var v)) (body := body) (gd := g) (fun rest σ S => ∃ j, rest = ds.drop j ∧ j ≤ ds.length ∧ Pv j σ S) (by
    rintro d rest σ S ⟨j, e, hj, hp⟩
    have hlt : j < ds.length := by
      rcases Nat.lt_or_ge j ds.length with q | q
      · exact q
      · rw [List.drop_eq_nil_of_le q] at e
        cases e
    rw [List.drop_eq_getElem_cons hlt] at e
    injection e with e1 e2
    obtain ⟨hg, hv, σ2, S2, h1, h2⟩ := step j hlt σ S hp
    subst e1
    refine ⟨hg, σ.set v (some ds[j]), σ2, S2, ?_, h1, j + 1, e2, hlt, h2⟩
    show (if v < σ.length then some (σ.set v (some ds[j])) else none) = _
    rw [if_pos hv]) (by
    rintro σ S ⟨j, e, hj, hp⟩
    have : j = ds.length := by
      have := congrArg List.length e
      simp at this
      omega
    subst this
    exact last σ S hp) ds σ S ⟨0, rfl, Nat.zero_le _, h⟩
  have : j = ds.length := by
    have := congrArg List.length h2
    simp at this
    omega
  subst this
  exact ⟨σ', S', h1, h4⟩
/-- for v in range(n) -/
theorem frL_rng {v : Nat} {body : Env → Store → R Fl} (n : Nat) (Pv : Nat → Env → Store → Prop)
    (step : ∀ (j : Nat) (_ : j < n) (σ : Env) (S : Store), Pv j σ S → v < σ.length ∧ ∃ σ2 S2, (body (σ.set v (some (.int (j : Int)))) S = .ok (.nx σ2) S2 ∨ body (σ.set v (some (.int (j : Int)))) S = .ok (.ct σ2) S2) ∧ Pv (j + 1) σ2 S2)
    (σ : Env) (S : Store) (h : Pv 0 σ S) : ∃ σ' S', frL (bindT (.var v)) body (fun _ => true) ((List.range n).map fun (m : Nat) => D.int (m : Int)) σ S = .ok (.nx σ') S' ∧ Pv n σ' S' := by
  obtain ⟨σ', S', h1, h2⟩ := frL_ix (v := v) (body := body) (g := fun _ => true) ((List.range n).map fun (m : Nat) => D.int (m : Int)) Pv (fun j hj σ S hp => by
    have hj' : j < n := by simpa using hj
    obtain ⟨a, σ2, S2, b, c⟩ := step j hj' σ S hp
    refine ⟨rfl, a, σ2, S2, ?_, c⟩
    rw [List.getElem_map, List.getElem_range]
    exact b) (fun _ _ _ => rfl) σ S h
  have e : ((List.range n).map fun (m : Nat) => D.int (m : Int)).length = n := by simp
  rw [e] at h2
  exact ⟨σ', S', h1, h2⟩
@[simp] theorem bi_abs (S : Store) (i : Int) : biE S .abs (.v (.int i)) = some (.v (.int (if i < 0 then -i else i))) := rfl
theorem opI_pow {i j : Int} (h0 : 0 ≤ j) (h1 : j ≤ 1000000) (h2 : i.natAbs < 2 ^ 64) : opI .pow i j = some (i ^ j.toNat) := by
  show (if 0 ≤ j ∧ j ≤ 1000000 ∧ i.natAbs < 2 ^ 64 then some (i ^ j.toNat) else none) = _
  rw [if_pos ⟨h0, h1, h2⟩]
theorem take_succ_eq (bs : List Int) (j : Nat) (h : j < bs.length) : bs.take (j + 1) = bs.take j ++ [bs[j]] := by
  rw [List.take_succ, List.getElem?_eq_getElem h]
  rfl
theorem rowS (h : tb.fs[i]? = some rowF) (k : Nat) (cell : Int) (b : Nat) (bs : List Int) (S : Store) (hb : S[b]? = some (.lst (bs.map D.int))) (hp : ∀ x ∈ bs, 0 < x ∧ x < 1073741824) (hl : bs.length ≤ 1000) :
    ∃ row, Bnd row bs ∧ runK tb (k + 1) i [.int cell, .ref b] S = .ok (.ref S.length) (S ++ [.lst (row.map D.int)]) := by
  rw [run_of h k _ _ rfl]
  have e1 : seqR S (.v (.ref b)) = some (bs.map D.int) := by simp [seqR, lstR, objR, unlk, hb]
  obtain ⟨left, hleft, h0⟩ : ∃ left, left = (if cell < 0 then -cell else cell) ∧ 0 ≤ left := ⟨_, rfl, by split <;> omega⟩
  have e2 : opI .pow 10 18 = some 1000000000000000000 := opI_pow (by omega) (by omega) (by decide)
  have e3 : opI .mod left 2147483647 = some (left % 2147483647) := opI_mod (by omega)
  have e4 := app_at hb [O.lst []]
  have e5 : biE (S ++ [O.lst []]) .len (.v (.ref b)) = some (.v (.int bs.length)) := by
    simp [biE, seqR, lstR, objR, unlk, e4]
  have e6 := iter_len1 (S ++ [O.lst []]) bs.length (by omega)
  obtain ⟨σ', S', e7, row, lf, mx, x6, q1, q2, q3, q4, q5⟩ := frL_rng (v := 6) (body := exSs (cxK tb k) rowB) bs.length (fun j σ S' => ∃ row lf mx x6, row.length = j ∧ Bnd row (bs.take j) ∧ 0 ≤ lf ∧ σ = [some (.int cell), some (.ref b), some (.int lf), some (.bl (decide (1000000000000000000 ≤ left))), some (.int mx), some (.ref S.length), x6] ∧ S' = S ++ [.lst (row.map D.int)]) (by
    rintro j hj σ S' ⟨row, lf, mx, x6, q1, q2, q3, rfl, rfl⟩
    obtain ⟨lf', mx', r, r1, r2, r3, r4⟩ := row_step (cxK tb k) S b bs row j (some (.int cell)) x6 lf mx (decide (1000000000000000000 ≤ left)) hb hj hp hl q1 q3
    refine ⟨by simp, _, _, .inl r4, row ++ [r], lf', mx', _, by simp [q1], ?_, r1, rfl, rfl⟩
    rw [take_succ_eq bs j hj]
    exact q2.snoc r2 r3) [some (.int cell), some (.ref b), some (.int left), some (.bl (decide (1000000000000000000 ≤ left))), some (.int (left % 2147483647)), some (.ref S.length), none] (S ++ [.lst []])
    ⟨[], left, left % 2147483647, none, rfl, trivial, h0, rfl, rfl⟩
  subst q4 q5
  rw [List.take_length] at q2
  refine ⟨row, q2, ?_⟩
  show finE S (exSs (cxK tb k) rowF.body [some (.int cell), some (.ref b), none, none, none, none, none] S) = _
  have hn : noRef S.length (.ref S.length) = false := by simp [noRef]
  simp only [rowF]
  have f1 : exS (cxK tb k) (.set (.var 2) (.nd (.bi .abs) [(.var 0)])) [some (.int cell), some (.ref b), none, none, none, none, none] S = .ok (.nx [some (.int cell), some (.ref b), some (.int left), none, none, none, none]) S := by
    simp [hleft]
  have f2 : exS (cxK tb k) (.set (.var 3) (.nd (.cmp .ge) [(.var 2), (.nd (.op .pow) [(.cst (.int 10)), (.cst (.int 18))])])) [some (.int cell), some (.ref b), some (.int left), none, none, none, none] S = .ok (.nx [some (.int cell), some (.ref b), some (.int left), some (.bl (decide (1000000000000000000 ≤ left))), none, none, none]) S := by
    simp [e2]
  have f3 : exS (cxK tb k) (.set (.var 4) (.nd (.op .mod) [(.nd (.bi .int) [(.var 2)]), (.cst (.int 2147483647))])) [some (.int cell), some (.ref b), some (.int left), some (.bl (decide (1000000000000000000 ≤ left))), none, none, none] S = .ok (.nx [some (.int cell), some (.ref b), some (.int left), some (.bl (decide (1000000000000000000 ≤ left))), some (.int (left % 2147483647)), none, none]) S := by
    simp [e3]
  have f4 : exS (cxK tb k) (.set (.var 5) (.na .lst [])) [some (.int cell), some (.ref b), some (.int left), some (.bl (decide (1000000000000000000 ≤ left))), some (.int (left % 2147483647)), none, none] S = .ok (.nx [some (.int cell), some (.ref b), some (.int left), some (.bl (decide (1000000000000000000 ≤ left))), some (.int (left % 2147483647)), some (.ref S.length), none]) (S ++ [.lst []]) := by
    simp
  have f5 : exS (cxK tb k) (.fr (.var 6) .rng [(.nd (.bi .len) [(.var 1)])] rowB) [some (.int cell), some (.ref b), some (.int left), some (.bl (decide (1000000000000000000 ≤ left))), some (.int (left % 2147483647)), some (.ref S.length), none] (S ++ [.lst []]) = .ok (.nx [some (.int cell), some (.ref b), some (.int lf), some (.bl (decide (1000000000000000000 ≤ left))), some (.int mx), some (.ref S.length), x6]) (S ++ [.lst (row.map D.int)]) := by
    rw [ex_fr, dens_1 (t := .v (.int bs.length)) (S' := S ++ [.lst []]) (by simp [e5]), cat_ok', frK_ap, e6, frO_some]
    exact e7
  rw [exs_cons, f1, bind_ok', seqK_nx, exs_cons, f2, bind_ok', seqK_nx, exs_cons, f3, bind_ok', seqK_nx, exs_cons, f4, bind_ok', seqK_nx, exs_cons, f5, bind_ok', seqK_nx, ret_1 (d := .ref S.length) (S' := S ++ [.lst (row.map D.int)]) (by simp), fin_rt, gc_app, hn]
  rfl
end
end Ev
set_option Elab.async false
set_option linter.all false
set_option maxRecDepth 100000
set_option autoImplicit false
set_option maxHeartbeats 4000000
/-! Sp, part E: flags drawn, clauses drawn, clause books drawn; sameness of data. -/
namespace Ev
open PySem
section
variable {tb : Tb} {i i1 i2 i3 i4 i5 : Nat}
/-! _law_bits -/
def bitsB : List Sx := [.ex (.meth .append (.var 2) [(.nd (.cmp .eq) [(.nd (.op .mod) [(.var 0), (.cst (.int 2))]), (.cst (.int 1))])]), .set (.var 0) (.nd (.op .fdiv) [(.var 0), (.cst (.int 2))])]
def bitsF : Fd := ⟨2, 4, [.set (.var 2) (.na .lst []), .fr (.var 3) .rng [(.var 1)] bitsB, .ret (.nd (.bi .tuple) [(.var 2)])]⟩
theorem noRefs_of : ∀ (n : Nat) (ds : List D), plDs ds = true → noRefs n ds = true
  | _, [], _ => by simp [noRefs]
  | n, d :: ds, h => by
    rw [plDs, Bool.and_eq_true] at h
    rw [noRefs, noRefs_of n ds h.2, Bool.and_true]
    cases d with
    | tup es =>
      have h1 := h.1
      rw [plD] at h1
      rw [noRef]
      exact noRefs_of n es h1
    | ref _ => have h1 := h.1; rw [plD] at h1; cases h1
    | _ => simp [noRef]
theorem noRef_of (n : Nat) (d : D) (h : plD d = true) : noRef n d = true := by
  have := noRefs_of n [d] (by rw [plDs, h]; rfl)
  rw [noRefs, Bool.and_eq_true] at this
  exact this.1
theorem bitsS (h : tb.fs[i]? = some bitsF) (k : Nat) (number : Int) (m : Nat) (S : Store) (hm : m ≤ 1000) :
    ∃ bs : List Bool, bs.length = m ∧ runK tb (k + 1) i [.int number, .int m] S = .ok (.tup (bs.map D.bl)) S := by
  rw [run_of h k _ _ rfl]
  have e6 := iter_len1 (S ++ [O.lst []]) m (by omega)
  obtain ⟨σ', S', e7, bs, nb, x3, q1, q2, q3⟩ := frL_rng (v := 3) (body := exSs (cxK tb k) bitsB) m (fun j σ S' => ∃ (bs : List Bool) (nb : Int) (x3 : Option D), bs.length = j ∧ σ = [some (.int nb), some (.int m), some (.ref S.length), x3] ∧ S' = S ++ [.lst (bs.map D.bl)]) (by
    rintro j hj σ S' ⟨bs, nb, x3, q1, rfl, rfl⟩
    have hw : (S ++ [O.lst (bs.map D.bl)])[S.length]? = some (.lst (bs.map D.bl)) := by simp
    have e2 : meOk (S ++ [.lst (bs.map D.bl)]) .append (.v (.ref S.length)) = true := by simp [meOk, lstW, objW]
    have e3 : ∀ d, meE (S ++ [.lst (bs.map D.bl)]) .append (.v (.ref S.length)) [d] = .ok (.v .non) (S ++ [.lst (bs.map D.bl ++ [d])]) := fun d => by
      have hs : bs.length < PySem.sizeLine := by rw [size_line]; omega
      simp [meE, hs]
    have m1 : opI .mod nb 2 = some (nb % 2) := opI_mod (by omega)
    have m2 : opI .fdiv nb 2 = some (nb / 2) := opI_fdiv (by omega) (by omega)
    refine ⟨by simp, [some (.int (nb / 2)), some (.int m), some (.ref S.length), some (.int (j : Int))], _, .inl ?_, bs ++ [decide (nb % 2 = 1)], nb / 2, _, by simp [q1], rfl, rfl⟩
    simp [bitsB, m1, m2, e2, e3, cmpE, eqE_int]) [some (.int number), some (.int m), some (.ref S.length), none] (S ++ [.lst []]) ⟨[], number, none, rfl, rfl, rfl⟩
  subst q2 q3
  refine ⟨bs, q1, ?_⟩
  show finE S (exSs (cxK tb k) bitsF.body [some (.int number), some (.int m), none, none] S) = _
  have hn : noRef S.length (.tup (bs.map D.bl)) = true := noRef_of _ _ (by rw [plD]; exact pl_bls bs)
  simp only [bitsF]
  have f1 : exS (cxK tb k) (.set (.var 2) (.na .lst [])) [some (.int number), some (.int m), none, none] S = .ok (.nx [some (.int number), some (.int m), some (.ref S.length), none]) (S ++ [.lst []]) := by simp
  have f2 : exS (cxK tb k) (.fr (.var 3) .rng [(.var 1)] bitsB) [some (.int number), some (.int m), some (.ref S.length), none] (S ++ [.lst []]) = .ok (.nx [some (.int nb), some (.int m), some (.ref S.length), x3]) (S ++ [.lst (bs.map D.bl)]) := by
    rw [ex_fr, dens_1 (t := .v (.int m)) (S' := S ++ [.lst []]) (by simp), cat_ok', frK_ap, e6, frO_some]
    exact e7
  have e8 : biE (S ++ [.lst (bs.map D.bl)]) .tuple (.v (.ref S.length)) = some (.v (.tup (bs.map D.bl))) := by
    simp [biE, seqR, lstR, objR, unlk]
  rw [exs_cons, f1, bind_ok', seqK_nx, exs_cons, f2, bind_ok', seqK_nx, ret_1 (d := .tup (bs.map D.bl)) (S' := S ++ [.lst (bs.map D.bl)]) (by simp [e8]), fin_rt, gc_app, hn]
  rfl
/-! _law_same -/
def sameEl (i : Nat) : Ex := .na (.call i) [(.nd .idx [(.var 0), (.var 2)]), (.nd .idx [(.var 1), (.var 2)])]
def sameT (s : String) (i : Nat) : List Sx := [.ite (.or (.not (.nd (.isi (.b s)) [(.var 0)])) (.nd (.cmp .ne) [(.nd (.bi .len) [(.var 0)]), (.nd (.bi .len) [(.var 1)])])) [.ret (.cst (.bl false))] [], .ret (.nd (.bi .all) [(.lc (.var 2) .rng [(.nd (.bi .len) [(.var 1)])] [] (sameEl i) [2])])]
def sameR : List Sx := [.ite (.nd (.cmp .is) [(.var 1), (.cst (.non))]) [.ret (.nd (.cmp .is) [(.var 0), (.cst (.non))])] [], .ite (.nd (.isi (.b "bool")) [(.var 1)]) [.ret (.and (.nd (.isi (.b "bool")) [(.var 0)]) (.nd (.cmp .eq) [(.var 0), (.var 1)]))] [], .ite (.nd (.isi (.b "int")) [(.var 1)]) [.ret (.and (.nd (.isi (.b "int")) [(.var 0)]) (.and (.not (.nd (.isi (.b "bool")) [(.var 0)])) (.nd (.cmp .eq) [(.var 0), (.var 1)])))] [], .ret (.and (.nd (.isi (.b "str")) [(.var 0)]) (.and (.nd (.isi (.b "str")) [(.var 1)]) (.nd (.cmp .eq) [(.var 0), (.var 1)])))]
def sameF (i : Nat) : Fd := ⟨2, 3, .ite (.nd (.isi (.b "tuple")) [(.var 1)]) (sameT "tuple" i) [] :: .ite (.nd (.isi (.b "list")) [(.var 1)]) (sameT "list" i) [] :: sameR⟩
mutual
/-- plain data, no tuple too long -/
def smD : D → Bool
  | .tup ds => decide (ds.length ≤ 1000000) && smDs ds
  | .non => true | .bl _ => true | .int _ => true | .str x => PyData.strOk x | .ref _ => false | .fn _ => false | .cls _ => false
def smDs : List D → Bool
  | [] => true
  | d :: ds => smD d && smDs ds
end
theorem smDs_mem : ∀ {ds : List D}, smDs ds = true → ∀ d ∈ ds, smD d = true
  | [], _, d, h => absurd h (by simp)
  | x :: xs, h, d, hd => by
    rw [smDs, Bool.and_eq_true] at h
    rcases List.mem_cons.mp hd with e | hd
    · rw [e]; exact h.1
    · exact smDs_mem h.2 d hd
theorem dpDs_mem : ∀ {ds : List D}, ∀ d ∈ ds, dpD d ≤ dpDs ds
  | [], d, h => absurd h (by simp)
  | x :: xs, d, hd => by
    rw [dpDs]
    rcases List.mem_cons.mp hd with e | hd
    · rw [e]; omega
    · have := dpDs_mem (ds := xs) d hd
      omega
theorem sameS (h : tb.fs[i]? = some (sameF i)) : ∀ (n k : Nat) (d : D) (S : Store), smD d = true → dpD d ≤ n → runK tb (k + n + 1) i [d, d] S = .ok (.bl true) S := by
  intro n
  induction n with
  | zero =>
    intro k d S hs hd
    rw [run_of h (k + 0) _ _ rfl]
    cases d with
    | tup ds => rw [dpD] at hd; omega
    | ref _ => rw [smD] at hs; cases hs
    | fn _ => rw [smD] at hs; cases hs
    | cls _ => rw [smD] at hs; cases hs
    | str x =>
      have hx : PyData.strOk x = true := by rw [smD] at hs; exact hs
      simp [sameF, sameR, cmpE, isE, eqE_str, hx]
    | non => simp [sameF, sameR, cmpE, isE]
    | bl b => simp [sameF, sameR, cmpE, isE, eqE_bl]
    | int z => simp [sameF, sameR, cmpE, isE, eqE_int]
  | succ n ih =>
    intro k d S hs hd
    cases d with
    | tup ds =>
      rw [run_of h (k + (n + 1)) _ _ rfl]
      rw [smD, Bool.and_eq_true, decide_eq_true_eq] at hs
      rw [dpD] at hd
      have e6 : biE S .len (.v (.tup ds)) = some (.v (.int ds.length)) := rfl
      have hi : dens (cxK tb (k + (n + 1))) [(.nd (.bi .len) [(.var 1)])] [some (.tup ds), some (.tup ds), none] S = .ok [.v (.int ds.length)] S := by simp [e6]
      have e3 : (den (cxK tb (k + (n + 1))) (.nd (.bi .all) [(.lc (.var 2) .rng [(.nd (.bi .len) [(.var 1)])] [] (sameEl i) [2])])).e [some (.tup ds), some (.tup ds), none] S = .ok (.v (.bl (((List.range ds.length).map fun (m : Nat) => D.int (m : Int)).all fun _ => true))) S :=
        all_gen (σ' := [some (.tup ds), some (.tup ds), none]) (fun _ => true) hi (iter_len1 S ds.length (by omega)) rfl rfl (by simp) fun d hd => by
          obtain ⟨m, hm, rfl⟩ := List.mem_map.mp hd
          have hm := List.mem_range.mp hm
          have a1 := atI_get ds m hm
          have a2 := ih k ds[m] S (smDs_mem hs.2 _ (List.getElem_mem hm)) (by
            have := dpDs_mem (ds := ds) ds[m] (List.getElem_mem hm)
            omega)
          have a3 : runK tb (k + (n + 1)) i [ds[m], ds[m]] S = .ok (.bl true) S := a2
          simp [sameEl, idxE, seqR, a1, a3]
      have e4 : (((List.range ds.length).map fun (m : Nat) => D.int (m : Int)).all fun _ => true) = true := by simp
      rw [e4] at e3
      have e5 : (den (cxK tb (k + (n + 1))) (.nd (.isi (.b "tuple")) [(.var 1)])).b [some (.tup ds), some (.tup ds), none] S = .ok true S := by simp
      have e7 : exS (cxK tb (k + (n + 1))) (.ite (.or (.not (.nd (.isi (.b "tuple")) [(.var 0)])) (.nd (.cmp .ne) [(.nd (.bi .len) [(.var 0)]), (.nd (.bi .len) [(.var 1)])])) [.ret (.cst (.bl false))] []) [some (.tup ds), some (.tup ds), none] S = .ok (.nx [some (.tup ds), some (.tup ds), none]) S := by
        simp [e6, cmpE, eqE_int]
      show finE S (exSs (cxK tb (k + (n + 1))) (sameF i).body [some (.tup ds), some (.tup ds), none] S) = _
      simp only [sameF]
      rw [exs_cons, ex_ite, e5, cat_ok', ifK_ap, if_pos rfl]
      simp only [sameT]
      rw [exs_cons, e7, bind_ok', seqK_nx, ret_1 e3]
      simp only [bind_ok', seqK_rt, fin_rt, gc_same]
    | ref _ => rw [smD] at hs; cases hs
    | fn _ => rw [smD] at hs; cases hs
    | cls _ => rw [smD] at hs; cases hs
    | non => exact (ih (k + 1) .non S hs (by rw [dpD]; omega)) ▸ (by rw [show k + (n + 1) + 1 = k + 1 + n + 1 by omega])
    | bl b => exact (ih (k + 1) (.bl b) S hs (by rw [dpD]; omega)) ▸ (by rw [show k + (n + 1) + 1 = k + 1 + n + 1 by omega])
    | int z => exact (ih (k + 1) (.int z) S hs (by rw [dpD]; omega)) ▸ (by rw [show k + (n + 1) + 1 = k + 1 + n + 1 by omega])
    | str x => exact (ih (k + 1) (.str x) S hs (by rw [dpD]; omega)) ▸ (by rw [show k + (n + 1) + 1 = k + 1 + n + 1 by omega])
theorem sm_ints : ∀ xs : List Int, smDs (xs.map D.int) = true
  | [] => by simp [smDs]
  | x :: xs => by rw [List.map_cons, smDs, sm_ints xs]; simp [smD]
theorem sm_bls : ∀ xs : List Bool, smDs (xs.map D.bl) = true
  | [] => by simp [smDs]
  | x :: xs => by rw [List.map_cons, smDs, sm_bls xs]; simp [smD]
theorem sm_tups : ∀ xs : List (List Int), (∀ x ∈ xs, x.length ≤ 1000000) → smDs (xs.map tupI) = true
  | [], _ => by simp [smDs]
  | x :: xs, h => by
    rw [List.map_cons, smDs, sm_tups xs fun y hy => h y (List.mem_cons_of_mem _ hy), tupI, smD, sm_ints, List.length_map, decide_eq_true (h x List.mem_cons_self)]
    rfl
end
end Ev
set_option Elab.async false
set_option linter.all false
set_option maxRecDepth 100000
set_option autoImplicit false
set_option maxHeartbeats 4000000
/-! Sp, part F: clauses drawn, clause books drawn. -/
namespace Ev
open PySem
theorem asc_pw {α : Type} {lt : α → α → Bool} : ∀ {xs : List α}, xs.Pairwise (fun a b => lt a b = true) → asc lt xs = true
  | [], _ => rfl
  | [_], _ => rfl
  | a :: b :: r, h => by
    obtain ⟨h1, h2⟩ := List.pairwise_cons.mp h
    rw [asc, h1 b List.mem_cons_self, asc_pw h2]
    rfl
theorem clause_sorted {m : Int} {xs : List Int} (hb : ∀ x ∈ xs, 0 ≤ x ∧ x < 2 * m) (hn : (xs.map (· / 2)).Nodup) : clauseI m (sortI xs) = true := by
  have hp := sortI_perm xs
  have hs := sortI_sorted xs
  have hn2 : ((sortI xs).map (· / 2)).Nodup := (hp.map (· / 2)).nodup_iff.mpr hn
  have hn3 : (sortI xs).Pairwise (fun a b => a / 2 ≠ b / 2) := List.pairwise_map.mp hn2
  have hq : (sortI xs).Pairwise (fun a b => a ≤ b ∧ a / 2 ≠ b / 2) := hs.and hn3
  have h1 : asc ltI (sortI xs) = true := asc_pw (hq.imp fun {a b} h => decide_eq_true (by omega))
  have h2 : asc ltI ((sortI xs).map (· / 2)) = true := asc_pw (List.pairwise_map.mpr (hq.imp fun {a b} h => decide_eq_true (by omega)))
  have h3 : (sortI xs).all (fun i => decide (0 ≤ i) && decide (i < 2 * m)) = true := List.all_eq_true.mpr fun x hx => by
    obtain ⟨a, b⟩ := hb x (hp.mem_iff.mp hx)
    rw [decide_eq_true a, decide_eq_true b]
    rfl
  rw [clauseI, h1, h2, h3]
  rfl
theorem clauses_sorted {m : Int} {xs : List (List Int)} (hb : ∀ x ∈ xs, clauseI m x = true) (hn : xs.Nodup) : clausesL m (sortL xs) = true := by
  have hp := sortL_perm xs
  have hs := sortL_sorted xs
  have hn2 : (sortL xs).Nodup := hp.nodup_iff.mpr hn
  have hq := hs.and hn2
  have h1 : asc HT.lexLt (sortL xs) = true := asc_pw (hq.imp fun {a b} h => by
    cases e : HT.lexLt a b with
    | true => rfl
    | false => exact absurd (lex_tot a b e h.1) h.2)
  have h2 : (sortL xs).all (clauseI m) = true := List.all_eq_true.mpr fun x hx => hb x (hp.mem_iff.mp hx)
  rw [clausesL, h1, h2]
  rfl
theorem sortD_ints (xs : List Int) : sortD (xs.map D.int) = some ((sortI xs).map D.int) := by
  unfold sortD
  rw [intsOf_ints]
theorem sortD_tups (xs : List (List Int)) : sortD (xs.map tupI) = some ((sortL xs).map tupI) := by
  cases xs with
  | nil => rfl
  | cons x xs =>
    have e : intsOf ((x :: xs).map tupI) = none := rfl
    unfold sortD
    rw [e]
    dsimp only
    rw [tupsOf_tups]
    rfl
theorem cut1 (d : D) (ds : List D) (h : Option Int) : ∃ q, cut (d :: ds) (some 1) h = ds.take q := by
  unfold cut
  have e : HT.sIx (d :: ds).length 0 (some 1) = 1 := by
    have := HT.sIx_nat (d :: ds).length 0 1
    rw [List.length_cons] at this ⊢
    have e2 : min 1 (ds.length + 1) = 1 := by omega
    rw [e2] at this
    exact this
  rw [e]
  exact ⟨_, rfl⟩
section
variable {tb : Tb} {i i1 i2 i3 i4 i5 : Nat}
/-! _law_clause -/
def clB : List Sx := [.ite (.nd (.bi .all) [(.lc (.var 6) .seq [(.var 4)] [] (.nd (.cmp .ne) [(.nd (.op .fdiv) [(.var 5), (.cst (.int 2))]), (.nd (.op .fdiv) [(.var 6), (.cst (.int 2))])]) [6])]) [.ex (.meth .append (.var 4) [(.var 5)])] []]
def clX (iR : Nat) : Sx := .set (.var 3) (.na (.call iR) [(.var 0), (.nd (.op .add) [(.na .lst [(.nd (.op .add) [(.var 2), (.cst (.int 1))])]), (.nd (.op .mul) [(.na .lst [(.nd (.op .mul) [(.cst (.int 2)), (.var 1)])]), (.var 2)])])])
def clF (iR : Nat) : Fd := ⟨3, 7, [clX iR, .set (.var 4) (.na .lst []), .fr (.var 5) .seq [(.sl (.var 3) (.cst (.int 1)) (.nd (.op .add) [(.cst (.int 1)), (.nd .idx [(.var 3), (.cst (.int 0))])]))] clB, .ret (.nd (.bi .tuple) [(.nd (.bi .sorted) [(.var 4)])])]⟩
theorem Bnd.rep : ∀ {rs : List Int} {n : Nat} {b : Int}, Bnd rs (List.replicate n b) → rs.length = n ∧ ∀ x ∈ rs, 0 ≤ x ∧ x < b
  | [], 0, _, _ => ⟨rfl, fun x h => absurd h (by simp)⟩
  | [], n + 1, _, h => h.elim
  | _ :: _, 0, _, h => h.elim
  | r :: rs, n + 1, b, h => by
    obtain ⟨h1, h2⟩ := h.2.rep
    refine ⟨by simp [h1], fun x hx => ?_⟩
    rcases List.mem_cons.mp hx with e | hx
    · rw [e]; exact h.1
    · exact h2 x hx
theorem cl_step (cx : Cxt) (S : Store) (kept : List Int) (x0 x1 x2 x3 x6 : Option D) (z : Int) (hl : kept.length ≤ 1000) :
    exSs cx clB [x0, x1, x2, x3, some (.ref S.length), some (.int z), x6] (S ++ [.lst (kept.map D.int)]) =
      .ok (.nx [x0, x1, x2, x3, some (.ref S.length), some (.int z), x6]) (S ++ [.lst ((if kept.all (fun y => decide (z / 2 ≠ y / 2)) then kept ++ [z] else kept).map D.int)]) := by
  have hw : (S ++ [O.lst (kept.map D.int)])[S.length]? = some (.lst (kept.map D.int)) := by simp
  have e1 : dens cx [(.var 4)] [x0, x1, x2, x3, some (.ref S.length), some (.int z), x6] (S ++ [.lst (kept.map D.int)]) = .ok [.v (.ref S.length)] (S ++ [.lst (kept.map D.int)]) := by simp
  have e2 : iterOf (S ++ [.lst (kept.map D.int)]) .seq [.v (.ref S.length)] = some (kept.map D.int, fun S' => decide (S'[S.length]? = (S ++ [O.lst (kept.map D.int)])[S.length]?)) := by
    show (lstR (S ++ [.lst (kept.map D.int)]) (.v (.ref S.length))).map _ = _
    have e : lstR (S ++ [.lst (kept.map D.int)]) (.v (.ref S.length)) = some (kept.map D.int) := by simp [lstR, objR, unlk]
    rw [e]
    rfl
  have m5 : ∀ z : Int, opI .fdiv z 2 = some (z / 2) := fun z => opI_fdiv (by omega) (by omega)
  have e3 := all_gen (cx := cx) (σ' := [x0, x1, x2, x3, some (.ref S.length), some (.int z), none]) (v := 6) (own := [6]) (el := .nd (.cmp .ne) [(.nd (.op .fdiv) [(.var 5), (.cst (.int 2))]), (.nd (.op .fdiv) [(.var 6), (.cst (.int 2))])]) (fun d => decide (z / 2 ≠ dIn d / 2)) e1 e2 (by simp) (by rfl) (by simp) (fun d hd => by
    obtain ⟨y, _, rfl⟩ := List.mem_map.mp hd
    simp [m5, cmpE, eqE_int, dIn]
    by_cases hh : z / 2 = y / 2 <;> simp [hh])
  have e4 : (kept.map D.int).all (fun d => decide (z / 2 ≠ dIn d / 2)) = kept.all fun y => decide (z / 2 ≠ y / 2) := by
    rw [List.all_map]
    rfl
  rw [e4] at e3
  have e5 : meOk (S ++ [.lst (kept.map D.int)]) .append (.v (.ref S.length)) = true := by simp [meOk, lstW, objW]
  have e6 : ∀ d, meE (S ++ [.lst (kept.map D.int)]) .append (.v (.ref S.length)) [d] = .ok (.v .non) (S ++ [.lst (kept.map D.int ++ [d])]) := fun d => by
    have hs : kept.length < PySem.sizeLine := by rw [size_line]; omega
    simp [meE, hs]
  simp only [clB]
  rw [exs_cons, ex_ite, denb_nd, e3]
  cases hc : kept.all fun y => decide (z / 2 ≠ y / 2) with
  | true => simp [e5, e6]
  | false => simp
theorem rep_one (S : Store) (d : D) (n : Nat) (h : n ≤ 900) : opE S .mul (.t (.lst [d])) (.v (.int n)) = some (.t (.lst (List.replicate n d))) := by
  show (match lstW S (.t (.lst [d])) with
    | some xs => if -(2 ^ 63) ≤ (n : Int) ∧ (n : Int) < 2 ^ 63 ∧ xs.length * (n : Int).toNat ≤ sizeLine then some (T.t (.lst (List.replicate (n : Int).toNat xs).flatten)) else none
    | _ => none) = _
  have e : lstW S (.t (.lst [d])) = some [d] := rfl
  rw [e]
  dsimp only
  rw [if_pos ⟨by omega, by omega, by rw [size_line]; simp; omega⟩]
  simp
theorem cat_lst (S : Store) (xs ys : List D) (h : xs.length + ys.length ≤ 1000) : opE S .add (.t (.lst xs)) (.t (.lst ys)) = some (.t (.lst (xs ++ ys))) := by
  show (match lstW S (.t (.lst xs)), lstW S (.t (.lst ys)) with
    | some xs, some ys => if xs.length + ys.length ≤ sizeLine then some (T.t (.lst (xs ++ ys))) else none
    | _, _ => none) = _
  have e : ∀ zs, lstW S (.t (.lst zs)) = some zs := fun zs => rfl
  rw [e, e]
  dsimp only
  rw [if_pos (by rw [size_line]; omega)]
theorem nd_2 {cx : Cxt} {k : Kd} {e e' : Ex} {σ : Env} {S S1 S2 : Store} {t t' : T} (h : (den cx e).e σ S = .ok t S1) (h' : (den cx e').e σ S1 = .ok t' S2) : (den cx (.nd k [e, e'])).e σ S = app cx S2 k [t, t'] := by
  rw [den_nd, dens_cons, h, bind_ok', cons1_ap, dens_1 h', bind_ok', cons2_ap, bind_ok', kNd_ap]
theorem op_2 {cx : Cxt} {o : Op2} {e e' : Ex} {σ : Env} {S S1 S2 : Store} {t t' r : T} (h : (den cx e).e σ S = .ok t S1) (h' : (den cx e').e σ S1 = .ok t' S2) (hr : opE S2 o t t' = some r) : (den cx (.nd (.op o) [e, e'])).e σ S = .ok r S2 := by
  rw [nd_2 h h', app_op, hr, ofO_some]
theorem ded_1 {cx : Cxt} {e : Ex} {σ : Env} {S S1 : Store} {t : T} (h : (den cx e).e σ S = .ok t S1) : ded cx [e] σ S = .ok [(alloc t S1).1] (alloc t S1).2 := by
  rw [ded_cons, h, ralloc, bind_ok', con1_ap, ded_nil', bind_ok', cons2_ap]
theorem ded_c {cx : Cxt} {e : Ex} {es : List Ex} {σ : Env} {S S1 S2 : Store} {t : T} {ds : List D} (h : (den cx e).e σ S = .ok t S1) (h' : ded cx es σ (alloc t S1).2 = .ok ds S2) : ded cx (e :: es) σ S = .ok ((alloc t S1).1 :: ds) S2 := by
  rw [ded_cons, h, ralloc, bind_ok', con1_ap, h', bind_ok', cons2_ap]
theorem call_d {cx : Cxt} {f : Nat} {es : List Ex} {σ : Env} {S S1 S2 : Store} {ds : List D} {d : D} (h : ded cx es σ S = .ok ds S1) (h' : cx.call f ds S1 = .ok d S2) : (den cx (.na (.call f) es)).e σ S = .ok (.v d) S2 := by
  rw [den_na, h, bind_ok', kNa_ap, appA_call, h', bind_ok', valK1_ap]
theorem set_v {cx : Cxt} {j : Nat} {e : Ex} {σ : Env} {S S1 : Store} {t : T} (h : (den cx e).e σ S = .ok t S1) (hj : j < σ.length) : exS cx (.set (.var j) e) σ S = .ok (.nx (σ.set j (some (alloc t S1).1))) (alloc t S1).2 := by
  rw [ex_set, h, cat_ok', setK_ap, if_pos hj]
theorem cl_f1 (cx : Cxt) (S : Store) (cell m : Int) (most : Nat) (hq : most ≤ 900) (d : D) (S2 : Store)
    (eR : cx.call i1 [.int cell, .ref S.length] (S ++ [.lst (D.int ((most : Int) + 1) :: List.replicate most (D.int (2 * m)))]) = .ok d S2) :
    exS cx (clX i1) [some (.int cell), some (.int m), some (.int most), none, none, none, none] S = .ok (.nx [some (.int cell), some (.int m), some (.int most), some d, none, none, none]) S2 := by
  have e1 := rep_one S (D.int (2 * m)) most hq
  have e2 := cat_lst S [D.int ((most : Int) + 1)] (List.replicate most (D.int (2 * m))) (by simp; omega)
  rw [List.singleton_append] at e2
  have t1 : (den cx (.na .lst [(.nd (.op .add) [(.var 2), (.cst (.int 1))])])).e [some (.int cell), some (.int m), some (.int most), none, none, none, none] S = .ok (.t (.lst [D.int ((most : Int) + 1)])) S := by simp [size_line]
  have t2 : (den cx (.na .lst [(.nd (.op .mul) [(.cst (.int 2)), (.var 1)])])).e [some (.int cell), some (.int m), some (.int most), none, none, none, none] S = .ok (.t (.lst [D.int (2 * m)])) S := by simp [size_line]
  have t3 := op_2 t1 (op_2 t2 (show (den cx (.var 2)).e [some (.int cell), some (.int m), some (.int most), none, none, none, none] S = .ok (.v (.int most)) S from rfl) e1) e2
  have t4 := ded_c (cx := cx) (show (den cx (.var 0)).e [some (.int cell), some (.int m), some (.int most), none, none, none, none] S = .ok (.v (.int cell)) S from rfl) (ded_1 t3)
  exact set_v (call_d t4 eR) (by simp)
theorem cl_sl (cx : Cxt) (S : Store) (n : Nat) (r0 : Int) (rest : List Int) (x0 x1 x2 x4 x5 x6 : Option D) (hr : S[n]? = some (.lst ((r0 :: rest).map D.int))) :
    ∃ q, dens cx [(.sl (.var 3) (.cst (.int 1)) (.nd (.op .add) [(.cst (.int 1)), (.nd .idx [(.var 3), (.cst (.int 0))])]))] [x0, x1, x2, some (.ref n), x4, x5, x6] S = .ok [.t (.lst ((rest.take q).map D.int))] S := by
  obtain ⟨q, hcut⟩ := cut1 (.int r0) (rest.map D.int) (some (1 + r0))
  refine ⟨q, ?_⟩
  have e4 : idxE S (.v (.ref n)) (.v (.int 0)) = some (.int r0) := by
    have e0 : seqR S (.v (.ref n)) = some ((r0 :: rest).map D.int) := by simp [seqR, lstR, objR, unlk, hr]
    have e1 := atI_get ((r0 :: rest).map D.int) 0 (by simp)
    show (match seqR S (.v (.ref n)) with
      | some ds => L2.atI ds 0
      | none => match objR S (.v (.ref n)) with
        | some (.dK kvs) => valK (Sum.inl 0 : L2.Key) kvs
        | _ => none) = _
    rw [e0]
    exact e1
  have e5 : slcE S (.v (.ref n)) (some 1) (some (1 + r0)) = some (.t (.lst ((rest.take q).map D.int))) := by
    have e0 : lstR S (.v (.ref n)) = some ((r0 :: rest).map D.int) := by simp [lstR, objR, unlk, hr]
    show (lstR S (.v (.ref n))).map _ = _
    rw [e0, Option.map_some, List.map_cons, hcut, List.map_take]
  refine dens_1 ?_
  simp [e4, e5, intO]
theorem clS (hR : tb.fs[i1]? = some rowF) (h : tb.fs[i]? = some (clF i1)) (k : Nat) (cell : Int) (m : Int) (most : Nat) (S : Store) (hm : 1 ≤ m ∧ m ≤ 1000) (hq : most ≤ 900) :
    ∃ xs : List Int, clauseI m xs = true ∧ xs.length ≤ most ∧ runK tb (k + 2) i [.int cell, .int m, .int most] S = .ok (.tup (xs.map D.int)) S := by
  rw [run_of h (k + 1) _ _ rfl]
  have hbs : ∀ x ∈ ((most : Int) + 1) :: List.replicate most (2 * m), 0 < x ∧ x < 1073741824 := fun x hx => by
    rcases List.mem_cons.mp hx with e | hx
    · rw [e]; omega
    · rw [(List.mem_replicate.mp hx).2]; omega
  obtain ⟨row, hB, eR⟩ := rowS hR k cell S.length (((most : Int) + 1) :: List.replicate most (2 * m)) (S ++ [.lst ((((most : Int) + 1) :: List.replicate most (2 * m)).map D.int)]) (by simp) hbs (by simp; omega)
  cases row with
  | nil => exact hB.elim
  | cons r0 rest =>
    obtain ⟨hr0, hB2⟩ := hB
    obtain ⟨hl, hrest⟩ := hB2.rep
    obtain ⟨S1, hS1⟩ : ∃ S1, S1 = S ++ [O.lst ((((most : Int) + 1) :: List.replicate most (2 * m)).map D.int)] := ⟨_, rfl⟩
    obtain ⟨S2, hS2⟩ : ∃ S2, S2 = S1 ++ [O.lst ((r0 :: rest).map D.int)] := ⟨_, rfl⟩
    rw [← hS1] at eR
    have hrow : S2[S1.length]? = some (.lst ((r0 :: rest).map D.int)) := by rw [hS2]; simp
    have f1 : exS (cxK tb (k + 1)) (clX i1) [some (.int cell), some (.int m), some (.int most), none, none, none, none] S = .ok (.nx [some (.int cell), some (.int m), some (.int most), some (.ref S1.length), none, none, none]) S2 := by
      refine cl_f1 (cxK tb (k + 1)) S cell m most hq (.ref S1.length) S2 ?_
      rw [hS2]
      rw [hS1] at eR ⊢
      simp only [List.map_cons, List.map_replicate] at eR ⊢
      exact eR
    have f2 : exS (cxK tb (k + 1)) (.set (.var 4) (.na .lst [])) [some (.int cell), some (.int m), some (.int most), some (.ref S1.length), none, none, none] S2 = .ok (.nx [some (.int cell), some (.int m), some (.int most), some (.ref S1.length), some (.ref S2.length), none, none]) (S2 ++ [.lst []]) := by simp
    obtain ⟨q, e3⟩ := cl_sl (cxK tb (k + 1)) (S2 ++ [.lst []]) S1.length r0 rest (some (.int cell)) (some (.int m)) (some (.int most)) (some (.ref S2.length)) none none (app_at hrow [O.lst []])
    obtain ⟨σ', S', e7, kept, x5, q1, q2, q3, q4, q5⟩ := frL_ix (v := 5) (body := exSs (cxK tb (k + 1)) clB) (g := fun _ => true) ((rest.take q).map D.int) (fun j σ S' => ∃ (kept : List Int) (x5 : Option D), kept.length ≤ j ∧ (∀ x ∈ kept, 0 ≤ x ∧ x < 2 * m) ∧ (kept.map (· / 2)).Nodup ∧ σ = [some (.int cell), some (.int m), some (.int most), some (.ref S1.length), some (.ref S2.length), x5, none] ∧ S' = S2 ++ [.lst (kept.map D.int)]) (by
      rintro j hj σ S' ⟨kept, x5, q1, q2, q3, rfl, rfl⟩
      rw [List.length_map, List.length_take] at hj
      have hz : ((rest.take q).map D.int)[j]'(by rw [List.length_map, List.length_take]; exact hj) = D.int ((rest.take q)[j]'(by rw [List.length_take]; exact hj)) := List.getElem_map ..
      have hmem : (rest.take q)[j]'(by rw [List.length_take]; exact hj) ∈ rest := List.mem_of_mem_take (List.getElem_mem _)
      generalize (rest.take q)[j]'(by rw [List.length_take]; exact hj) = z at hz hmem
      have hk := cl_step (cxK tb (k + 1)) S2 kept (some (.int cell)) (some (.int m)) (some (.int most)) (some (.ref S1.length)) none z (by omega)
      refine ⟨rfl, by simp, _, _, .inl (by rw [hz]; exact hk), _, _, ?_, ?_, ?_, rfl, rfl⟩
      · split
        · simp; omega
        · omega
      · intro x hx
        split at hx
        · rcases List.mem_append.mp hx with hx | hx
          · exact q2 x hx
          · rw [List.mem_singleton.mp hx]; exact hrest z hmem
        · exact q2 x hx
      · split
        · rename_i hc
          rw [List.map_append, List.map_singleton]
          refine List.nodup_append.mpr ⟨q3, (by simp), fun a ha b hb => ?_⟩
          obtain ⟨y, hy, rfl⟩ := List.mem_map.mp ha
          rw [List.mem_singleton.mp hb]
          have := of_decide_eq_true (List.all_eq_true.mp hc y hy)
          exact fun e => this e.symm
        · exact q3) (fun _ _ _ => rfl) [some (.int cell), some (.int m), some (.int most), some (.ref S1.length), some (.ref S2.length), none, none] (S2 ++ [.lst []]) ⟨[], none, Nat.zero_le _, fun x h => absurd h (by simp), List.nodup_nil, rfl, rfl⟩
    subst q4 q5
    rw [List.length_map, List.length_take] at q1
    refine ⟨sortI kept, clause_sorted q2 q3, ?_, ?_⟩
    · have := (sortI_perm kept).length_eq
      omega
    · show finE S (exSs (cxK tb (k + 1)) (clF i1).body [some (.int cell), some (.int m), some (.int most), none, none, none, none] S) = _
      have f3 : exS (cxK tb (k + 1)) (.fr (.var 5) .seq [(.sl (.var 3) (.cst (.int 1)) (.nd (.op .add) [(.cst (.int 1)), (.nd .idx [(.var 3), (.cst (.int 0))])]))] clB) [some (.int cell), some (.int m), some (.int most), some (.ref S1.length), some (.ref S2.length), none, none] (S2 ++ [.lst []]) = .ok (.nx [some (.int cell), some (.int m), some (.int most), some (.ref S1.length), some (.ref S2.length), x5, none]) (S2 ++ [.lst (kept.map D.int)]) := by
        rw [ex_fr, e3, cat_ok', frK_ap, iter_t, frO_some]
        exact e7
      have e8 : biE (S2 ++ [.lst (kept.map D.int)]) .sorted (.v (.ref S2.length)) = some (.t (.lst ((sortI kept).map D.int))) := by
        have e : lstR (S2 ++ [.lst (kept.map D.int)]) (.v (.ref S2.length)) = some (kept.map D.int) := by simp [lstR, objR, unlk]
        show (lstR _ _).bind _ = _
        rw [e, Option.bind_some, sortD_ints]
        rfl
      have e9 : biE (S2 ++ [.lst (kept.map D.int)]) .tuple (.t (.lst ((sortI kept).map D.int))) = some (.v (.tup ((sortI kept).map D.int))) := rfl
      simp only [clF]
      rw [exs_cons, f1, bind_ok', seqK_nx, exs_cons, f2, bind_ok', seqK_nx, exs_cons, f3, bind_ok', seqK_nx, ret_1 (d := .tup ((sortI kept).map D.int)) (S' := S2 ++ [.lst (kept.map D.int)]) (by simp [e8, e9]), fin_rt, hS2, hS1]
      simp only [List.append_assoc]
      rw [gc_app, if_pos (noRef_of _ _ (by rw [plD]; exact pl_ints _))]
end
end Ev
set_option Elab.async false
set_option linter.all false
set_option maxRecDepth 100000
set_option autoImplicit false
set_option maxHeartbeats 4000000
/-! Sp, part G: rows of clauses drawn, clause books drawn. -/
namespace Ev
open PySem
section
variable {tb : Tb} {i i1 i2 i3 i4 i5 : Nat}
theorem var_v {cx : Cxt} {j : Nat} {σ : Env} {S : Store} {d : D} (h : σ[j]? = some (some d)) : (den cx (.var j)).e σ S = .ok (.v d) S := by
  rw [den_var, h]
  rfl
theorem cst_v {cx : Cxt} {σ : Env} {S : Store} {d : D} : (den cx (.cst d)).e σ S = .ok (.v d) S := rfl
theorem idx_2 {cx : Cxt} {e e' : Ex} {σ : Env} {S S1 S2 : Store} {t t' : T} {d : D} (h : (den cx e).e σ S = .ok t S1) (h' : (den cx e').e σ S1 = .ok t' S2) (hr : idxE S2 t t' = some d) : (den cx (.nd .idx [e, e'])).e σ S = .ok (.v d) S2 := by
  rw [nd_2 h h', app_idx, hr]
  rfl
theorem lst_1 {cx : Cxt} {es : List Ex} {σ : Env} {S S1 : Store} {ds : List D} (h : ded cx es σ S = .ok ds S1) (hl : ds.length ≤ 1000) : (den cx (.na .lst es)).e σ S = .ok (.t (.lst ds)) S1 := by
  rw [den_na, h, bind_ok', kNa_ap, appA_lst, if_pos (by rw [size_line]; omega)]
theorem tup_1 {cx : Cxt} {es : List Ex} {σ : Env} {S S1 : Store} {ds : List D} (h : ded cx es σ S = .ok ds S1) (hl : ds.length ≤ 1000) : (den cx (.na .tup es)).e σ S = .ok (.v (.tup ds)) S1 := by
  rw [den_na, h, bind_ok', kNa_ap, appA_tup, if_pos (by rw [size_line]; omega)]
theorem idx_lst {S : Store} {n : Nat} {ds : List D} {j : Int} {d : D} (hn : S[n]? = some (.lst ds)) (h : L2.atI ds j = some d) : idxE S (.v (.ref n)) (.v (.int j)) = some d := by
  have e0 : seqR S (.v (.ref n)) = some ds := by simp [seqR, lstR, objR, unlk, hn]
  show (match seqR S (.v (.ref n)) with
    | some ds => L2.atI ds j
    | none => match objR S (.v (.ref n)) with
      | some (.dK kvs) => valK (Sum.inl j : L2.Key) kvs
      | _ => none) = _
  rw [e0]
  exact h
/-! _law_clauses -/
def csB (iC : Nat) : List Sx := [.set (.var 7) (.na (.call iC) [(.nd .idx [(.var 4), (.nd (.op .add) [(.cst (.int 1)), (.var 6)])]), (.var 1), (.var 3)]), .ite (.and (.nd (.cmp .nmem) [(.var 7), (.var 5)]) (.or (.nd (.cmp .ne) [(.var 7), (.na .tup [])]) (.nd (.cmp .eq) [(.nd (.op .mod) [(.nd .idx [(.var 4), (.nd (.op .add) [(.cst (.int 1)), (.var 6)])]), (.cst (.int 11))]), (.cst (.int 0))]))) [.ex (.meth .append (.var 5) [(.var 7)])] []]
def csF (iR iC : Nat) : Fd := ⟨4, 8, [.set (.var 4) (.na (.call iR) [(.var 0), (.nd (.op .add) [(.na .lst [(.nd (.op .add) [(.var 2), (.cst (.int 1))])]), (.nd (.op .mul) [(.na .lst [(.nd (.op .pow) [(.cst (.int 10)), (.cst (.int 9))])]), (.var 2)])])]), .set (.var 5) (.na .lst []), .fr (.var 6) .rng [(.nd .idx [(.var 4), (.cst (.int 0))])] (csB iC), .ret (.nd (.bi .tuple) [(.nd (.bi .sorted) [(.var 5)])])]⟩
theorem app_ref (S : Store) (ds : List D) (d : D) (h : ds.length ≤ 1000) : meE (S ++ [.lst ds]) .append (.v (.ref S.length)) [d] = .ok (.v .non) (S ++ [.lst (ds ++ [d])]) := by
  have hs : ds.length < PySem.sizeLine := by rw [size_line]; omega
  simp [meE, hs]
theorem app_stm {cx : Cxt} {j q : Nat} {σ : Env} {S : Store} {ds : List D} {d : D} (h : ds.length ≤ 1000) (h1 : σ[j]? = some (some (.ref S.length))) (h2 : σ[q]? = some (some d)) :
    exS cx (.ex (.meth .append (.var j) [(.var q)])) σ (S ++ [.lst ds]) = .ok (.nx σ) (S ++ [.lst (ds ++ [d])]) := by
  have e2 : meOk (S ++ [.lst ds]) .append (.v (.ref S.length)) = true := by simp [meOk, lstW, objW]
  rw [ex_ex, den_meth, var_v h1, bind_ok', met1_ap, if_pos e2, ded_1 (var_v h2), bind_ok', met2_ap, alloc_v, app_ref S ds d h, cat_ok', exK_ap]
theorem cs_step (hR : tb.fs[i1]? = some rowF) (hC : tb.fs[i2]? = some (clF i1)) (k : Nat) (S : Store) (found : List (List Int)) (x0 x2 x7 : Option D) (m : Int) (size dg : Nat) (row : List Int) (j : Nat) (hm : 1 ≤ m ∧ m ≤ 1000) (hq : size ≤ 900) (hl : found.length ≤ 1000)
    (hdg : S[dg]? = some (.lst (row.map D.int))) (hj : 1 + j < row.length) :
    ∃ c : List Int, clauseI m c = true ∧ c.length ≤ size ∧ ∃ b : Bool, (b = true → c ∉ found) ∧ exSs (cxK tb (k + 2)) (csB i2) [x0, some (.int m), x2, some (.int size), some (.ref dg), some (.ref S.length), some (.int (j : Int)), x7] (S ++ [.lst (found.map tupI)]) =
      .ok (.nx [x0, some (.int m), x2, some (.int size), some (.ref dg), some (.ref S.length), some (.int (j : Int)), some (tupI c)]) (S ++ [.lst ((if b = true then found ++ [c] else found).map tupI)]) := by
  have hdg' := app_at hdg [O.lst (found.map tupI)]
  have e1 : idxE (S ++ [.lst (found.map tupI)]) (.v (.ref dg)) (.v (.int (1 + (j : Int)))) = some (.int row[1 + j]) := idx_lst hdg' (by
    have e : (1 + (j : Int)) = ((1 + j : Nat) : Int) := by omega
    rw [e, atI_get _ (1 + j) (by rw [List.length_map]; exact hj), List.getElem_map])
  obtain ⟨c, hc1, hc2, hc3⟩ := clS hR hC k row[1 + j] m size (S ++ [.lst (found.map tupI)]) hm hq
  refine ⟨c, hc1, hc2, ?_⟩
  have e2 : ∀ (σ : Env), σ[4]? = some (some (.ref dg)) → σ[6]? = some (some (.int (j : Int))) → (den (cxK tb (k + 2)) (.nd .idx [(.var 4), (.nd (.op .add) [(.cst (.int 1)), (.var 6)])])).e σ (S ++ [.lst (found.map tupI)]) = .ok (.v (.int row[1 + j])) (S ++ [.lst (found.map tupI)]) := fun σ h4 h6 =>
    idx_2 (var_v h4) (op_2 cst_v (var_v h6) (r := .v (.int (1 + (j : Int)))) (by rw [opE_int, opI_add]; rfl)) e1
  have f1 : exS (cxK tb (k + 2)) (.set (.var 7) (.na (.call i2) [(.nd .idx [(.var 4), (.nd (.op .add) [(.cst (.int 1)), (.var 6)])]), (.var 1), (.var 3)])) [x0, some (.int m), x2, some (.int size), some (.ref dg), some (.ref S.length), some (.int (j : Int)), x7] (S ++ [.lst (found.map tupI)]) =
      .ok (.nx [x0, some (.int m), x2, some (.int size), some (.ref dg), some (.ref S.length), some (.int (j : Int)), some (tupI c)]) (S ++ [.lst (found.map tupI)]) :=
    set_v (call_d (ds := [.int row[1 + j], .int m, .int size]) (ded_c (e2 _ rfl rfl) (ded_c (var_v rfl) (ded_1 (var_v rfl)))) hc3) (by simp)
  have hmem : lstR (S ++ [.lst (found.map tupI)]) (.v (.ref S.length)) = some (found.map tupI) := by simp [lstR, objR, unlk]
  have e3 : memE (S ++ [.lst (found.map tupI)]) (.v (tupI c)) (.v (.ref S.length)) = some ((found.map tupI).any fun z => eqP z (tupI c)) := memE_lst (pl_tupI c) (by rw [dp_tupI]; omega) hmem (pl_tups found) (by have := dp_tups found; omega)
  have e4 : ((found.map tupI).any fun z => eqP z (tupI c)) = decide (c ∈ found) := by
    rw [Bool.eq_iff_iff, List.any_eq_true, decide_eq_true_eq]
    constructor
    · rintro ⟨z, hz, he⟩
      obtain ⟨y, hy, rfl⟩ := List.mem_map.mp hz
      have := (eqP_eq true _ _ (pl_tupI y) (pl_tupI c) (ok_tupI y) (ok_tupI c)).mp he
      rw [← tupI_inj this]
      exact hy
    · intro h
      exact ⟨tupI c, List.mem_map.mpr ⟨c, h, rfl⟩, eqP_self (pl_tupI c)⟩
  rw [e4] at e3
  have e5 : (den (cxK tb (k + 2)) (.nd (.cmp .nmem) [(.var 7), (.var 5)])).b [x0, some (.int m), x2, some (.int size), some (.ref dg), some (.ref S.length), some (.int (j : Int)), some (tupI c)] (S ++ [.lst (found.map tupI)]) = .ok (!decide (c ∈ found)) (S ++ [.lst (found.map tupI)]) := by
    rw [denb_nd, nd_2 (var_v rfl) (var_v rfl), app_cmp, own_nmem, cmpF_none]
    show (ofO (S ++ [.lst (found.map tupI)]) (((memE (S ++ [.lst (found.map tupI)]) (.v (tupI c)) (.v (.ref S.length))).map (!·)).map fun c => T.v (.bl c))).bind truK = _
    rw [e3]
    rfl
  have e6 : ∃ b, (den (cxK tb (k + 2)) (.or (.nd (.cmp .ne) [(.var 7), (.na .tup [])]) (.nd (.cmp .eq) [(.nd (.op .mod) [(.nd .idx [(.var 4), (.nd (.op .add) [(.cst (.int 1)), (.var 6)])]), (.cst (.int 11))]), (.cst (.int 0))]))).b [x0, some (.int m), x2, some (.int size), some (.ref dg), some (.ref S.length), some (.int (j : Int)), some (tupI c)] (S ++ [.lst (found.map tupI)]) = .ok b (S ++ [.lst (found.map tupI)]) := by
    have g1 : (den (cxK tb (k + 2)) (.nd (.cmp .ne) [(.var 7), (.na .tup [])])).b [x0, some (.int m), x2, some (.int size), some (.ref dg), some (.ref S.length), some (.int (j : Int)), some (tupI c)] (S ++ [.lst (found.map tupI)]) = .ok (!decide (c = [])) (S ++ [.lst (found.map tupI)]) := by
      rw [denb_nd, nd_2 (var_v rfl) (tup_1 (ds := []) rfl (by simp)), app_cmp, show (T.v (tupI c)) = .v (.tup (c.map D.int)) from rfl, own_tup, cmpF_none]
      show (ofO (S ++ [.lst (found.map tupI)]) (((eqE (S ++ [.lst (found.map tupI)]) (.v (tupI c)) (.v (tupI []))).map (!·)).map fun c => T.v (.bl c))).bind truK = _
      rw [eqE_tupI]
      rfl
    have g2 : (den (cxK tb (k + 2)) (.nd (.cmp .eq) [(.nd (.op .mod) [(.nd .idx [(.var 4), (.nd (.op .add) [(.cst (.int 1)), (.var 6)])]), (.cst (.int 11))]), (.cst (.int 0))])).b [x0, some (.int m), x2, some (.int size), some (.ref dg), some (.ref S.length), some (.int (j : Int)), some (tupI c)] (S ++ [.lst (found.map tupI)]) = .ok (decide (row[1 + j] % 11 = 0)) (S ++ [.lst (found.map tupI)]) := by
      rw [denb_nd, nd_2 (op_2 (e2 _ rfl rfl) cst_v (r := .v (.int (row[1 + j] % 11))) (by rw [opE_int, opI_mod (by omega)]; rfl)) cst_v, app_cmp, own_int, cmpF_none]
      show (ofO (S ++ [.lst (found.map tupI)]) ((eqE (S ++ [.lst (found.map tupI)]) (.v (.int (row[1 + j] % 11))) (.v (.int 0))).map fun c => T.v (.bl c))).bind truK = _
      rw [eqE_int]
      rfl
    rw [denb_or, g1, bind_ok', bOr_ap, g2]
    split
    · exact ⟨_, rfl⟩
    · exact ⟨_, rfl⟩
  obtain ⟨b, e6⟩ := e6
  refine ⟨!decide (c ∈ found) && b, fun hb => ?_, ?_⟩
  · rw [Bool.and_eq_true] at hb
    have := hb.1
    simp at this
    exact this
  · simp only [csB]
    rw [exs_cons, f1, bind_ok', seqK_nx, exs_cons, ex_ite, denb_and, e5, bind_ok', bAnd_ap]
    cases hd : decide (c ∈ found) with
    | true => simp
    | false =>
      rw [Bool.not_false, if_pos rfl, e6, cat_ok', ifK_ap]
      cases b with
      | true =>
        rw [if_pos rfl, exs_cons, app_stm (by rw [List.length_map]; exact hl) rfl rfl, bind_ok', seqK_nx, exs_nil, bind_ok', seqK_nx, exs_nil]
        simp
      | false => simp
end
end Ev
set_option Elab.async false
set_option linter.all false
set_option maxRecDepth 100000
set_option autoImplicit false
set_option maxHeartbeats 4000000
/-! Sp, part H: rows of clauses drawn (2), clause books drawn. -/
namespace Ev
open PySem
section
variable {tb : Tb} {i i1 i2 i3 i4 i5 : Nat}
theorem set_stm {cx : Cxt} {r : List Sx} {st : Sx} {σ σ' : Env} {S S' : Store} (h : exS cx st σ S = .ok (.nx σ') S') : exSs cx (st :: r) σ S = exSs cx r σ' S' := by
  rw [exs_cons, h, bind_ok', seqK_nx]
theorem fr_stm {cx : Cxt} {v : Nat} {ik : Ik} {ia : List Ex} {b : List Sx} {σ σ' : Env} {S S1 S' : Store} {ts : List T} {ds : List D} {g : Store → Bool} (h : dens cx ia σ S = .ok ts S1) (hi : iterOf S1 ik ts = some (ds, g)) (hf : frL (bindT (.var v)) (exSs cx b) g ds σ S1 = .ok (.nx σ') S') :
    exS cx (.fr (.var v) ik ia b) σ S = .ok (.nx σ') S' := by
  rw [ex_fr, h, cat_ok', frK_ap, hi, frO_some]
  exact hf
theorem bi_1 {cx : Cxt} {b : Bi} {e : Ex} {σ : Env} {S S1 : Store} {t r : T} (h : (den cx e).e σ S = .ok t S1) (hr : biE S1 b t = some r) : (den cx (.nd (.bi b) [e])).e σ S = .ok r S1 := by
  rw [nd_1' h, app_bi, hr, ofO_some]
where
  nd_1' {cx : Cxt} {k : Kd} {e : Ex} {σ : Env} {S S' : Store} {t : T} (h : (den cx e).e σ S = .ok t S') : (den cx (.nd k [e])).e σ S = app cx S' k [t] := nd_1 h
theorem csS (hR : tb.fs[i1]? = some rowF) (hC : tb.fs[i2]? = some (clF i1)) (h : tb.fs[i]? = some (csF i1 i2)) (k : Nat) (cell m : Int) (most size : Nat) (S : Store) (hm : 1 ≤ m ∧ m ≤ 1000) (hs : size ≤ 900) (hq : most ≤ 900) :
    ∃ xs : List (List Int), clausesL m xs = true ∧ xs.length ≤ most ∧ (∀ x ∈ xs, x.length ≤ size) ∧ runK tb (k + 3) i [.int cell, .int m, .int most, .int size] S = .ok (.tup (xs.map tupI)) S := by
  rw [run_of h (k + 2) _ _ rfl]
  have hbs : ∀ x ∈ ((most : Int) + 1) :: List.replicate most (1000000000 : Int), 0 < x ∧ x < 1073741824 := fun x hx => by
    rcases List.mem_cons.mp hx with e | hx
    · rw [e]; omega
    · rw [(List.mem_replicate.mp hx).2]; omega
  obtain ⟨S1, hS1⟩ : ∃ S1, S1 = S ++ [O.lst ((((most : Int) + 1) :: List.replicate most (1000000000 : Int)).map D.int)] := ⟨_, rfl⟩
  obtain ⟨row, hB, eR⟩ := rowS hR (k + 1) cell S.length (((most : Int) + 1) :: List.replicate most (1000000000 : Int)) S1 (by rw [hS1]; simp) hbs (by simp; omega)
  cases row with
  | nil => exact hB.elim
  | cons r0 rest =>
    obtain ⟨hr0, hB2⟩ := hB
    obtain ⟨hl, hrest⟩ := hB2.rep
    obtain ⟨S2, hS2⟩ : ∃ S2, S2 = S1 ++ [O.lst ((r0 :: rest).map D.int)] := ⟨_, rfl⟩
    have hrow : S2[S1.length]? = some (.lst ((r0 :: rest).map D.int)) := by rw [hS2]; simp
    have f1 : exS (cxK tb (k + 2)) (.set (.var 4) (.na (.call i1) [(.var 0), (.nd (.op .add) [(.na .lst [(.nd (.op .add) [(.var 2), (.cst (.int 1))])]), (.nd (.op .mul) [(.na .lst [(.nd (.op .pow) [(.cst (.int 10)), (.cst (.int 9))])]), (.var 2)])])])) [some (.int cell), some (.int m), some (.int most), some (.int size), none, none, none, none] S = .ok (.nx [some (.int cell), some (.int m), some (.int most), some (.int size), some (.ref S1.length), none, none, none]) S2 := by
      have e1 := rep_one S (D.int 1000000000) most hq
      have e2 := cat_lst S [D.int ((most : Int) + 1)] (List.replicate most (D.int 1000000000)) (by simp; omega)
      rw [List.singleton_append] at e2
      have t1 := lst_1 (cx := cxK tb (k + 2)) (ded_1 (op_2 (σ := [some (.int cell), some (.int m), some (.int most), some (.int size), none, none, none, none]) (S := S) (e := .var 2) (e' := .cst (.int 1)) (o := .add) (var_v rfl) cst_v (r := .v (.int ((most : Int) + 1))) (by rw [opE_int, opI_add]; rfl))) (by simp)
      have t2 := lst_1 (cx := cxK tb (k + 2)) (ded_1 (op_2 (σ := [some (.int cell), some (.int m), some (.int most), some (.int size), none, none, none, none]) (S := S) (e := .cst (.int 10)) (e' := .cst (.int 9)) (o := .pow) cst_v cst_v (r := .v (.int 1000000000)) (by rw [opE_int, opI_pow (by omega) (by omega) (by decide)]; rfl))) (by simp)
      have t3 := op_2 t1 (op_2 t2 (var_v (j := 2) rfl) e1) e2
      have t4 := ded_c (cx := cxK tb (k + 2)) (var_v (j := 0) (σ := [some (.int cell), some (.int m), some (.int most), some (.int size), none, none, none, none]) rfl) (ded_1 t3)
      refine set_v (call_d (d := .ref S1.length) (S2 := S2) t4 ?_) (by simp)
      rw [hS2]
      rw [hS1] at eR ⊢
      simp only [List.map_cons, List.map_replicate] at eR ⊢
      exact eR
    have f2 : exS (cxK tb (k + 2)) (.set (.var 5) (.na .lst [])) [some (.int cell), some (.int m), some (.int most), some (.int size), some (.ref S1.length), none, none, none] S2 = .ok (.nx [some (.int cell), some (.int m), some (.int most), some (.int size), some (.ref S1.length), some (.ref S2.length), none, none]) (S2 ++ [.lst []]) :=
      set_v (lst_1 (ds := []) rfl (by simp)) (by simp)
    obtain ⟨n0, hn0⟩ : ∃ n0 : Nat, r0 = (n0 : Int) := ⟨r0.toNat, by omega⟩
    subst hn0
    have e3 : dens (cxK tb (k + 2)) [(.nd .idx [(.var 4), (.cst (.int 0))])] [some (.int cell), some (.int m), some (.int most), some (.int size), some (.ref S1.length), some (.ref S2.length), none, none] (S2 ++ [.lst []]) = .ok [.v (.int n0)] (S2 ++ [.lst []]) :=
      dens_1 (idx_2 (var_v rfl) cst_v (idx_lst (app_at hrow _) (atI_get (((n0 : Int) :: rest).map D.int) 0 (by simp))))
    obtain ⟨σ', S', e7, found, x7, x6, q1, q2, q3, q4, q5, q6⟩ := frL_rng (v := 6) (body := exSs (cxK tb (k + 2)) (csB i2)) n0 (fun j σ S' => ∃ (found : List (List Int)) (x7 x6 : Option D), found.length ≤ j ∧ (∀ x ∈ found, clauseI m x = true ∧ x.length ≤ size) ∧ found.Nodup ∧ True ∧ σ = [some (.int cell), some (.int m), some (.int most), some (.int size), some (.ref S1.length), some (.ref S2.length), x6, x7] ∧ S' = S2 ++ [.lst (found.map tupI)]) (by
      rintro j hj σ S' ⟨found, x7, x6, q1, q2, q3, q4, rfl, rfl⟩
      obtain ⟨c, c1, c2, b, c3, c4⟩ := cs_step hR hC k S2 found (some (.int cell)) (some (.int most)) x7 m size S1.length ((n0 : Int) :: rest) j hm hs (by omega) hrow (by simp; omega)
      refine ⟨by simp, _, _, .inl c4, _, _, _, ?_, ?_, ?_, trivial, rfl, rfl⟩
      · split
        · simp; omega
        · omega
      · intro x hx
        split at hx
        · rcases List.mem_append.mp hx with hx | hx
          · exact q2 x hx
          · rw [List.mem_singleton.mp hx]; exact ⟨c1, c2⟩
        · exact q2 x hx
      · split
        · rename_i hb
          refine List.nodup_append.mpr ⟨q3, by simp, fun a ha b' hb' => ?_⟩
          rw [List.mem_singleton.mp hb']
          exact fun e => c3 hb (e ▸ ha)
        · exact q3) [some (.int cell), some (.int m), some (.int most), some (.int size), some (.ref S1.length), some (.ref S2.length), none, none] (S2 ++ [.lst []]) ⟨[], none, none, Nat.zero_le _, fun x h => absurd h (by simp), List.nodup_nil, trivial, rfl, rfl⟩
    subst q5 q6
    have hp := sortL_perm found
    refine ⟨sortL found, clauses_sorted (fun x hx => (q2 x hx).1) q3, ?_, fun x hx => (q2 x (hp.mem_iff.mp hx)).2, ?_⟩
    · have := hp.length_eq
      omega
    · show finE S (exSs (cxK tb (k + 2)) (csF i1 i2).body [some (.int cell), some (.int m), some (.int most), some (.int size), none, none, none, none] S) = _
      have e8 : biE (S2 ++ [.lst (found.map tupI)]) .sorted (.v (.ref S2.length)) = some (.t (.lst ((sortL found).map tupI))) := by
        have e : lstR (S2 ++ [.lst (found.map tupI)]) (.v (.ref S2.length)) = some (found.map tupI) := by simp [lstR, objR, unlk]
        show (lstR _ _).bind _ = _
        rw [e, Option.bind_some, sortD_tups]
        rfl
      have e9 : biE (S2 ++ [.lst (found.map tupI)]) .tuple (.t (.lst ((sortL found).map tupI))) = some (.v (.tup ((sortL found).map tupI))) := rfl
      have e10 : (den (cxK tb (k + 2)) (.nd (.bi .tuple) [(.nd (.bi .sorted) [(.var 5)])])).e [some (.int cell), some (.int m), some (.int most), some (.int size), some (.ref S1.length), some (.ref S2.length), x6, x7] (S2 ++ [.lst (found.map tupI)]) = .ok (.v (.tup ((sortL found).map tupI))) (S2 ++ [.lst (found.map tupI)]) := bi_1 (bi_1 (var_v rfl) e8) e9
      simp only [csF]
      rw [set_stm f1, set_stm f2, set_stm (fr_stm e3 (iter_len1 _ n0 (by omega)) e7), ret_1 e10, fin_rt, hS2, hS1]
      simp only [List.append_assoc]
      rw [gc_app, if_pos (noRef_of _ _ (by rw [plD]; exact pl_tups _))]
/-! _law_clause_book -/
def cbkF (iR iB iC : Nat) : Fd := ⟨4, 5, [.set (.var 4) (.na (.call iR) [(.var 0), (.na .lst [(.cst (.int 256)), (.nd (.op .pow) [(.cst (.int 10)), (.cst (.int 9))])])]), .ret (.na .tup [(.na (.call iB) [(.nd .idx [(.var 4), (.cst (.int 0))]), (.var 1)]), (.na (.call iC) [(.nd .idx [(.var 4), (.cst (.int 1))]), (.var 1), (.var 2), (.var 3)])])]⟩
theorem cbkS (hR : tb.fs[i1]? = some rowF) (hC : tb.fs[i2]? = some (clF i1)) (hB : tb.fs[i3]? = some bitsF) (hK : tb.fs[i4]? = some (csF i1 i2)) (h : tb.fs[i]? = some (cbkF i1 i3 i4)) (k : Nat) (cell : Int) (m most size : Nat) (S : Store) (hm : 1 ≤ m ∧ m ≤ 1000) (hs : size ≤ 900) (hq : most ≤ 900) :
    ∃ (bs : List Bool) (xs : List (List Int)), bs.length = m ∧ clausesL m xs = true ∧ xs.length ≤ most ∧ (∀ x ∈ xs, x.length ≤ size) ∧ runK tb (k + 4) i [.int cell, .int m, .int most, .int size] S = .ok (.tup [.tup (bs.map D.bl), .tup (xs.map tupI)]) S := by
  rw [run_of h (k + 3) _ _ rfl]
  obtain ⟨S1, hS1⟩ : ∃ S1, S1 = S ++ [O.lst (([256, 1000000000] : List Int).map D.int)] := ⟨_, rfl⟩
  obtain ⟨row, hBd, eR⟩ := rowS hR (k + 2) cell S.length [256, 1000000000] S1 (by rw [hS1]; simp) (fun x hx => by
    simp at hx
    rcases hx with rfl | rfl <;> omega) (by simp)
  match row, hBd with
  | [r0, r1], ⟨h0, h1, _⟩ =>
    obtain ⟨S2, hS2⟩ : ∃ S2, S2 = S1 ++ [O.lst (([r0, r1] : List Int).map D.int)] := ⟨_, rfl⟩
    have hrow : S2[S1.length]? = some (.lst [.int r0, .int r1]) := by rw [hS2]; simp
    obtain ⟨bs, hb1, hb2⟩ := bitsS hB (k + 2) r0 m S2 hm.2
    obtain ⟨xs, hx1, hx2, hx3, hx4⟩ := csS hR hC hK k r1 (m : Int) most size S2 (by omega) hs hq
    refine ⟨bs, xs, hb1, hx1, hx2, hx3, ?_⟩
    show finE S (exSs (cxK tb (k + 3)) (cbkF i1 i3 i4).body [some (.int cell), some (.int m), some (.int most), some (.int size), none] S) = _
    have f1 : exS (cxK tb (k + 3)) (.set (.var 4) (.na (.call i1) [(.var 0), (.na .lst [(.cst (.int 256)), (.nd (.op .pow) [(.cst (.int 10)), (.cst (.int 9))])])])) [some (.int cell), some (.int m), some (.int most), some (.int size), none] S = .ok (.nx [some (.int cell), some (.int m), some (.int most), some (.int size), some (.ref S1.length)]) S2 := by
      have t2 := lst_1 (cx := cxK tb (k + 3)) (ded_c (e := .cst (.int 256)) (σ := [some (.int cell), some (.int m), some (.int most), some (.int size), none]) (S := S) cst_v (ded_1 (op_2 (e := .cst (.int 10)) (e' := .cst (.int 9)) (o := .pow) cst_v cst_v (r := .v (.int 1000000000)) (by rw [opE_int, opI_pow (by omega) (by omega) (by decide)]; rfl)))) (by simp)
      have t4 := ded_c (cx := cxK tb (k + 3)) (var_v (j := 0) (σ := [some (.int cell), some (.int m), some (.int most), some (.int size), none]) rfl) (ded_1 t2)
      refine set_v (call_d (d := .ref S1.length) (S2 := S2) t4 ?_) (by simp)
      rw [hS2]
      rw [hS1] at eR ⊢
      exact eR
    have g0 : idxE S2 (.v (.ref S1.length)) (.v (.int 0)) = some (.int r0) := idx_lst hrow (atI_get [D.int r0, .int r1] 0 (by simp))
    have g1 : idxE S2 (.v (.ref S1.length)) (.v (.int 1)) = some (.int r1) := idx_lst hrow (atI_get [D.int r0, .int r1] 1 (by simp))
    have f2 : (den (cxK tb (k + 3)) (.na .tup [(.na (.call i3) [(.nd .idx [(.var 4), (.cst (.int 0))]), (.var 1)]), (.na (.call i4) [(.nd .idx [(.var 4), (.cst (.int 1))]), (.var 1), (.var 2), (.var 3)])])).e [some (.int cell), some (.int m), some (.int most), some (.int size), some (.ref S1.length)] S2 = .ok (.v (.tup [.tup (bs.map D.bl), .tup (xs.map tupI)])) S2 :=
      tup_1 (ded_c (call_d (ded_c (idx_2 (var_v rfl) cst_v g0) (ded_1 (var_v rfl))) hb2) (ded_1 (call_d (ded_c (idx_2 (var_v rfl) cst_v g1) (ded_c (var_v rfl) (ded_c (var_v rfl) (ded_1 (var_v rfl))))) hx4))) (by simp)
    simp only [cbkF]
    rw [set_stm f1, ret_1 f2, fin_rt, hS2, hS1]
    simp only [List.append_assoc]
    rw [gc_app, if_pos (noRef_of _ _ (by
      rw [plD, plDs, plDs, plDs, plD, plD, pl_bls, pl_tups]
      rfl))]
end
end Ev
set_option Elab.async false
set_option linter.all false
set_option maxRecDepth 100000
set_option autoImplicit false
set_option maxHeartbeats 4000000
/-! Sp, part I: things that are refused; clause books compared. -/
namespace Ev
open PySem
section
variable {tb : Tb} {i i1 i2 i3 i4 i5 : Nat}
theorem b_nd {cx : Cxt} {k : Kd} {es : List Ex} {σ : Env} {S S' : Store} {c : Bool} (h : (den cx (.nd k es)).e σ S = .ok (.v (.bl c)) S') : (den cx (.nd k es)).b σ S = .ok c S' := by
  rw [denb_nd, h, bind_ok', truK_ap, truth_bl, ofO_some]
theorem b_na {cx : Cxt} {k : Ka} {es : List Ex} {σ : Env} {S S' : Store} {c : Bool} (h : (den cx (.na k es)).e σ S = .ok (.v (.bl c)) S') : (den cx (.na k es)).b σ S = .ok c S' := by
  rw [denb_na, h, bind_ok', truK_ap, truth_bl, ofO_some]
theorem b_not {cx : Cxt} {e : Ex} {σ : Env} {S S' : Store} {c : Bool} (h : (den cx e).b σ S = .ok c S') : (den cx (.not e)).b σ S = .ok (!c) S' := by
  rw [denb_not, h, bind_ok', bNot_ap]
theorem b_or {cx : Cxt} {e e' : Ex} {σ : Env} {S S' S2 : Store} {c : Bool} (h : (den cx e).b σ S = .ok false S') (h' : (den cx e').b σ S' = .ok c S2) : (den cx (.or e e')).b σ S = .ok c S2 := by
  rw [denb_or, h, bind_ok', bOr_ap, if_neg (by simp), h']
theorem b_and {cx : Cxt} {e e' : Ex} {σ : Env} {S S' S2 : Store} {c : Bool} (h : (den cx e).b σ S = .ok true S') (h' : (den cx e').b σ S' = .ok c S2) : (den cx (.and e e')).b σ S = .ok c S2 := by
  rw [denb_and, h, bind_ok', bAnd_ap, if_pos rfl, h']
theorem b_and0 {cx : Cxt} {e e' : Ex} {σ : Env} {S S' : Store} (h : (den cx e).b σ S = .ok false S') : (den cx (.and e e')).b σ S = .ok false S' := by
  rw [denb_and, h, bind_ok', bAnd_ap, if_neg (by simp)]
theorem ite_no {cx : Cxt} {c : Ex} {a : List Sx} {σ : Env} {S S' : Store} (h : (den cx c).b σ S = .ok false S') : exS cx (.ite c a []) σ S = .ok (.nx σ) S' := by
  rw [ex_ite, h, cat_ok', ifK_ap, if_neg (by simp), exs_nil]
theorem e_and {cx : Cxt} {e e' : Ex} {σ : Env} {S S' S2 : Store} {t : T} (h : (den cx e).e σ S = .ok (.v (.bl true)) S') (h' : (den cx e').e σ S' = .ok t S2) : (den cx (.and e e')).e σ S = .ok t S2 := by
  rw [den_and, h, bind_ok', andK_t, h']
theorem e_not {cx : Cxt} {e : Ex} {σ : Env} {S S' : Store} {c : Bool} (h : (den cx e).e σ S = .ok (.v (.bl c)) S') : (den cx (.not e)).e σ S = .ok (.v (.bl (!c))) S' := by
  rw [den_not, h, bind_ok', notK_b]
theorem mk_d {cx : Cxt} {c : Nat} {es : List Ex} {σ : Env} {S S1 S2 : Store} {ds : List D} {d : D} (h : ded cx es σ S = .ok ds S1) (h' : cx.mak c ds S1 = .ok d S2) : (den cx (.na (.mk c) es)).e σ S = .ok (.v d) S2 := by
  rw [den_na, h, bind_ok', kNa_ap, appA_mk, h', bind_ok', valK1_ap]
/-- == and != of what is no instance -/
theorem cmp_2 {cx : Cxt} {o : Cm} {e e' : Ex} {σ : Env} {S S1 S2 : Store} {t t' : T} {c : Bool} (h : (den cx e).e σ S = .ok t S1) (h' : (den cx e').e σ S1 = .ok t' S2) (hq : ownQ cx S2 o t t' = none) (hr : cmpE S2 o t t' = some c) : (den cx (.nd (.cmp o) [e, e'])).e σ S = .ok (.v (.bl c)) S2 := by
  rw [nd_2 h h', app_cmp, hq, cmpF_none, hr]
  rfl
theorem own_2 {cx : Cxt} {o : Cm} {e e' : Ex} {σ : Env} {S S1 S2 : Store} {t t' : T} {q : Nat × D × D} {c : Bool} (h : (den cx e).e σ S = .ok t S1) (h' : (den cx e').e σ S1 = .ok t' S2) (hq : ownQ cx S2 o t t' = some q) (hr : cx.cj q.1 [q.2.1, q.2.2] S2 = .ok (.bl c) S2) : (den cx (.nd (.cmp o) [e, e'])).e σ S = .ok (.v (.bl (negB o c))) S2 := by
  rw [nd_2 h h', app_cmp, hq, cmpF_some, hr]
  rfl
/-! _law_refused -/
def refF (c ce cr : Nat) : Fd := ⟨2, 3, [.tr [.ex (.na (.mk c) [(.var 0), (.var 1)])] cr 2 [ce, 1000], .ret (.cst (.bl false))]⟩
section
variable {iF iC iI ce f0 f1 c cr : Nat}
theorem refS (B : CbT tb i1 i2 i3 i4 i5 iF iC iI ce f0 f1 c) (h : tb.fs[i]? = some (refF c ce cr)) (hx : tb.xi cr = true) (h1 : tb.sb ce cr = true) (h2 : tb.sb ce ce = true) (h3 : tb.sb ce 1000 = true) (k : Nat) (a b : D) (S : Store) (ha : knT (S ++ [.ins c []]) a) (hb : knTT (S ++ [.ins c []]) b) :
    runK tb (k + 8) i [a, b] S = .ok (.bl (!cbB a b)) S := by
  rw [run_of h (k + 7) _ _ rfl]
  have e := cbMakS B k a b S ha hb
  have e0 : ∀ d, ((cxK tb (k + 7)).mak c [a, b] S = d) ↔ (mkE (runJ tb (k + 7)) tb.ini c [a, b] S = d) := fun d => Iff.rfl
  show finE S (exSs (cxK tb (k + 7)) (refF c ce cr).body [some a, some b, none] S) = _
  simp only [refF]
  cases hc : cbB a b with
  | true =>
    rw [hc, if_pos rfl] at e
    have q1 : exSs (cxK tb (k + 7)) [.ex (.na (.mk c) [(.var 0), (.var 1)])] [some a, some b, none] S = .ok (.nx [some a, some b, none]) (S ++ [.ins c [(f0, a), (f1, b)]]) := by
      have g : (den (cxK tb (k + 7)) (.na (.mk c) [(.var 0), (.var 1)])).e [some a, some b, none] S = .ok (.v (.ref S.length)) (S ++ [.ins c [(f0, a), (f1, b)]]) := mk_d (ded_c (var_v rfl) (ded_1 (var_v rfl))) ((e0 _).mpr e)
      rw [exs_cons, ex_ex, g, cat_ok', exK_ap, bind_ok', seqK_nx, exs_nil]
    have q2 : exS (cxK tb (k + 7)) (.tr [.ex (.na (.mk c) [(.var 0), (.var 1)])] cr 2 [ce, 1000]) [some a, some b, none] S = .ok (.nx [some a, some b, none]) (S ++ [.ins c [(f0, a), (f1, b)]]) := by
      simp only [exS]
      rw [q1]
    rw [set_stm q2, ret_1 (cst_v (d := .bl false)), fin_rt, gc_app, if_pos (by simp [noRef])]
    rfl
  | false =>
    rw [hc, if_neg (by simp)] at e
    have q1 : exSs (cxK tb (k + 7)) [.ex (.na (.mk c) [(.var 0), (.var 1)])] [some a, some b, none] S = .ok (.xc [some a, some b, none] ce []) (S ++ [.ins c []]) := by
      have g : (den (cxK tb (k + 7)) (.na (.mk c) [(.var 0), (.var 1)])).e [some a, some b, none] S = .ex ce [] (S ++ [.ins c []]) := by
        have z : ded (cxK tb (k + 7)) [(.var 0), (.var 1)] [some a, some b, none] S = .ok [a, b] S := ded_c (var_v rfl) (ded_1 (var_v rfl))
        rw [den_na, z, bind_ok', kNa_ap, appA_mk, (e0 _).mpr e]
        rfl
      rw [exs_cons, ex_ex, g, cat_ex', bind_ok', seqK_xc]
    have q2 : exS (cxK tb (k + 7)) (.tr [.ex (.na (.mk c) [(.var 0), (.var 1)])] cr 2 [ce, 1000]) [some a, some b, none] S = .ok (.rt (.bl true)) (S ++ [.ins c []]) := by
      have z : ¬ ((cxK tb (k + 7)).rs ce = false ∨ (cxK tb (k + 7)).xi cr = false ∨ ([some a, some b, none] : Env).length ≤ 2) := by
        rw [cxK_rs, cxK_xi, B.rs, hx]
        simp
      simp only [exS]
      rw [q1]
      dsimp only
      rw [if_neg z, if_pos (by rw [cxK_sb]; exact h1)]
      simp [h2, h3]
    rw [exs_cons, q2, bind_ok', seqK_rt, fin_rt, gc_app, if_pos (by simp [noRef])]
    rfl
/-! __eq__ of clause books -/
def cbEqF (c f0 f1 : Nat) : Fd := ⟨2, 2, [.ret (.and (.nd (.isi (.c c)) [(.var 1)]) (.and (.nd (.cmp .eq) [(.nd (.fld f0) [(.var 0)]), (.nd (.fld f0) [(.var 1)])]) (.nd (.cmp .eq) [(.nd (.fld f1) [(.var 0)]), (.nd (.fld f1) [(.var 1)])])))]⟩
theorem fld_v {cx : Cxt} {e : Ex} {σ : Env} {S S1 : Store} {f n c : Nat} {fs : List (Nat × D)} {d : D} (h : (den cx e).e σ S = .ok (.v (.ref n)) S1) (hn : S1[n]? = some (.ins c fs)) (ha : cx.at_ c f = true) (hl : fs.lookup f = some d) : (den cx (.nd (.fld f) [e])).e σ S = .ok (.v d) S1 := by
  have e1 : objW S1 (.v (.ref n)) = some (.ins c fs) := hn
  rw [nd_1 h, app_fld, e1]
  show (if cx.at_ c f = true then _ else _) = _
  rw [if_pos ha, hl]
  rfl
theorem isiC_ins {cx : Cxt} {S : Store} {n c : Nat} {fs : List (Nat × D)} (m : Nat) (hn : S[n]? = some (.ins c fs)) (hi : cx.ic c = true) : app cx S (.isi (.c m)) [.v (.ref n)] = .ok (.v (.bl (cx.sb c m))) S := by
  have e : tyC S (.v (.ref n)) = some c := by
    unfold tyC objW
    dsimp only
    rw [hn]
  rw [app_isiC, e]
  dsimp only
  rw [if_pos hi]
theorem plD_data {S : Store} {o : Cm} {cx : Cxt} {a b : D} (ha : plD a = true) : ownQ cx S o (.v a) (.v b) = none := by
  cases a with
  | ref _ => rw [plD] at ha; cases ha
  | fn _ => rw [plD] at ha; cases ha
  | cls _ => rw [plD] at ha; cases ha
  | non => exact own_non cx S o _
  | bl x => exact own_bl cx S o x _
  | int x => exact own_int cx S o x _
  | str x => exact own_str cx S o x _
  | tup x => exact own_tup cx S o x _
theorem cbEqS (h : tb.fs[i]? = some (cbEqF c f0 f1)) (a0 : tb.at_ c f0 = true) (a1 : tb.at_ c f1 = true) (hi : tb.ic c = true) (hs : tb.sb c c = true) (hf : f0 ≠ f1) (k n m : Nat) (a b a' b' : D) (S : Store)
    (hn : S[n]? = some (.ins c [(f0, a), (f1, b)])) (hm : S[m]? = some (.ins c [(f0, a'), (f1, b')])) (pa : plD a = true) (pb : plD b = true) (pa' : plD a' = true) (pb' : plD b' = true) (da : dpD a ≤ 64) (db : dpD b ≤ 64) (da' : dpD a' ≤ 64) (db' : dpD b' ≤ 64) :
    runK tb (k + 1) i [.ref n, .ref m] S = .ok (.bl (eqP a a' && eqP b b')) S := by
  rw [run_of h k _ _ rfl]
  show finE S (exSs (cxK tb k) (cbEqF c f0 f1).body [some (.ref n), some (.ref m)] S) = _
  have l0 : ∀ x y : D, ([(f0, x), (f1, y)] : List (Nat × D)).lookup f0 = some x := fun x y => by simp [List.lookup]
  have l1 : ∀ x y : D, ([(f0, x), (f1, y)] : List (Nat × D)).lookup f1 = some y := fun x y => by
    have : (f1 == f0) = false := by simp [Ne.symm hf]
    simp [List.lookup, this]
  have g0 : (den (cxK tb k) (.nd (.isi (.c c)) [(.var 1)])).e [some (.ref n), some (.ref m)] S = .ok (.v (.bl true)) S := by
    rw [nd_1 (var_v rfl), isiC_ins c hm hi, cxK_sb, hs]
  have g1 : (den (cxK tb k) (.nd (.cmp .eq) [(.nd (.fld f0) [(.var 0)]), (.nd (.fld f0) [(.var 1)])])).e [some (.ref n), some (.ref m)] S = .ok (.v (.bl (eqP a a'))) S :=
    cmp_2 (fld_v (var_v rfl) hn a0 (l0 _ _)) (fld_v (var_v rfl) hm a0 (l0 _ _)) (plD_data pa) (eqE_pl pa pa' da da')
  have g2 : (den (cxK tb k) (.nd (.cmp .eq) [(.nd (.fld f1) [(.var 0)]), (.nd (.fld f1) [(.var 1)])])).e [some (.ref n), some (.ref m)] S = .ok (.v (.bl (eqP b b'))) S :=
    cmp_2 (fld_v (var_v rfl) hn a1 (l1 _ _)) (fld_v (var_v rfl) hm a1 (l1 _ _)) (plD_data pb) (eqE_pl pb pb' db db')
  simp only [cbEqF]
  have g3 : (den (cxK tb k) (.and (.nd (.isi (.c c)) [(.var 1)]) (.and (.nd (.cmp .eq) [(.nd (.fld f0) [(.var 0)]), (.nd (.fld f0) [(.var 1)])]) (.nd (.cmp .eq) [(.nd (.fld f1) [(.var 0)]), (.nd (.fld f1) [(.var 1)])])))).e [some (.ref n), some (.ref m)] S = .ok (.v (.bl (eqP a a' && eqP b b'))) S := by
    refine e_and g0 ?_
    cases hq : eqP a a' with
    | true => rw [hq] at g1; exact e_and g1 g2
    | false =>
      rw [hq] at g1
      rw [den_and, g1]
      rfl
  rw [ret_1 g3, fin_rt, gc_same]
theorem cbEqN (h : tb.fs[i]? = some (cbEqF c f0 f1)) (k n : Nat) (z : Int) (S : Store) : runK tb (k + 1) i [.ref n, .int z] S = .ok (.bl false) S := by
  rw [run_of h k _ _ rfl]
  show finE S (exSs (cxK tb k) (cbEqF c f0 f1).body [some (.ref n), some (.int z)] S) = _
  have g0 : (den (cxK tb k) (.nd (.isi (.c c)) [(.var 1)])).e [some (.ref n), some (.int z)] S = .ok (.v (.bl false)) S := by
    rw [nd_1 (var_v rfl)]
    rfl
  simp only [cbEqF]
  rw [ret_1 (d := .bl false) (S' := S) (by rw [den_and, g0]; rfl), fin_rt, gc_same]
end
/-! what is known of data -/
theorem knw_pl {S : Store} {d : D} (h : plD d = true) : knw S d := by
  cases d with
  | ref _ => rw [plD] at h; cases h
  | fn _ => rw [plD] at h; cases h
  | cls _ => rw [plD] at h; cases h
  | _ => trivial
theorem plDs_mem : ∀ {ds : List D}, plDs ds = true → ∀ d ∈ ds, plD d = true
  | [], _, d, h => absurd h (by simp)
  | x :: xs, h, d, hd => by
    rw [plDs, Bool.and_eq_true] at h
    rcases List.mem_cons.mp hd with e | hd
    · rw [e]; exact h.1
    · exact plDs_mem h.2 d hd
theorem sm_pl : ∀ d : D, smD d = true → plD d = true := by
  intro d
  exact D.rec (motive_1 := fun d => smD d = true → plD d = true) (motive_2 := fun ds => smDs ds = true → plDs ds = true)
    (fun _ => by rw [plD]) (fun _ _ => by rw [plD]) (fun _ _ => by rw [plD]) (fun x h => by rw [smD] at h; rw [plD]; exact h)
    (fun ds ih h => by rw [smD, Bool.and_eq_true] at h; rw [plD]; exact ih h.2) (fun _ h => by rw [smD] at h; cases h) (fun _ h => by rw [smD] at h; cases h) (fun _ h => by rw [smD] at h; cases h)
    (fun _ => by rw [plDs]) (fun d ds i1 i2 h => by rw [smDs, Bool.and_eq_true] at h; rw [plDs, i1 h.1, i2 h.2]; rfl) d
theorem knT_sm {S : Store} {d : D} (h : smD d = true) : knT S d := by
  refine ⟨knw_pl (sm_pl d h), fun ds e => ?_⟩
  subst e
  rw [smD, Bool.and_eq_true, decide_eq_true_eq] at h
  exact ⟨h.1, fun x hx => knw_pl (sm_pl x (smDs_mem h.2 x hx))⟩
theorem knTT_sm {S : Store} {d : D} (h : smD d = true) : knTT S d := by
  refine ⟨knw_pl (sm_pl d h), fun ds e => ?_⟩
  subst e
  rw [smD, Bool.and_eq_true, decide_eq_true_eq] at h
  exact ⟨by omega, fun x hx => knT_sm (smDs_mem h.2 x hx)⟩
theorem areFlags_bls (bs : List Bool) : areFlags (.tup (bs.map D.bl)) = true := by
  show (bs.map D.bl).all isBl = true
  rw [List.all_map]
  exact List.all_eq_true.mpr fun _ _ => rfl
theorem clausesB_tups (m : Int) (xs : List (List Int)) (h : xs.length ≤ 1000000) : clausesB m (.tup (xs.map tupI)) = clausesL m xs := by
  show (decide ((xs.map tupI).length ≤ 1000000) && match tupsOf (xs.map tupI) with | some xs => clausesL m xs | none => false) = _
  rw [List.length_map, decide_eq_true h, tupsOf_tups, Bool.true_and]
theorem clausesB_bad {m : Int} {ds : List D} {d : D} (hd : d ∈ ds) (h : clauseB m d = false) : clausesB m (.tup ds) = false := by
  show (decide (ds.length ≤ 1000000) && match tupsOf ds with | some xs => clausesL m xs | none => false) = false
  have e := clauses_tups m ds
  have e2 : ds.all (clauseB m) = false := by
    rw [Bool.eq_false_iff]
    intro h2
    have := List.all_eq_true.mp h2 d hd
    rw [h] at this
    cases this
  rw [e2] at e
  cases hq : tupsOf ds with
  | none => simp
  | some xs =>
    rw [hq] at e
    dsimp only at e ⊢
    rw [clausesL, ← e, Bool.false_and, Bool.and_false]
theorem asc_no {α : Type} (lt : α → α → Bool) {a b : α} (h : lt a b = false) (r : List α) : ∀ l : List α, asc lt (l ++ a :: b :: r) = false
  | [] => by
    rw [List.nil_append, asc, h]
    rfl
  | [x] => by
    have := asc_no lt h r []
    rw [List.nil_append] at this
    rw [List.singleton_append, asc, this, Bool.and_false]
  | x :: y :: l => by
    have := asc_no lt h r (y :: l)
    rw [List.cons_append] at this
    rw [List.cons_append, List.cons_append, asc, this, Bool.and_false]
end
end Ev
set_option Elab.async false
set_option linter.all false
set_option maxRecDepth 100000
set_option autoImplicit false
set_option maxHeartbeats 8000000
namespace Lk50
open Ev PySem
theorem t0 : tb.fs[0]? = some wholeF := by simp only [tb]; rfl
theorem t1 : tb.fs[1]? = some (belowF 0) := by simp only [tb]; rfl
theorem t2 : tb.fs[2]? = some (areBelowF 1) := by simp only [tb]; rfl
theorem t3 : tb.fs[3]? = some areFlagsF := by simp only [tb]; rfl
theorem t4 : tb.fs[4]? = some ascF := by simp only [tb]; rfl
theorem t5 : tb.fs[5]? = some (clauseF 2 4) := by simp only [tb]; rfl
theorem t6 : tb.fs[6]? = some (clausesF 5 4) := by simp only [tb]; rfl
theorem t7 : tb.fs[7]? = some (cbIniF 3 6 1 0 1) := by simp only [tb]; rfl
theorem t8 : tb.fs[8]? = some (cbEqF 2 0 1) := by simp only [tb]; rfl
theorem t9 : tb.fs[9]? = some cellF := by simp only [tb]; rfl
theorem t10 : tb.fs[10]? = some rowF := by simp only [tb]; rfl
theorem t11 : tb.fs[11]? = some (sameF 11) := by simp only [tb]; rfl
theorem t12 : tb.fs[12]? = some d12 := by simp only [tb]; rfl
theorem t13 : tb.fs[13]? = some bitsF := by simp only [tb]; rfl
theorem t14 : tb.fs[14]? = some (clF 10) := by simp only [tb]; rfl
theorem t15 : tb.fs[15]? = some (csF 10 14) := by simp only [tb]; rfl
theorem t16 : tb.fs[16]? = some (cbkF 10 13 15) := by simp only [tb]; rfl
theorem t17 : tb.fs[17]? = some (refF 2 1 0) := by simp only [tb]; rfl
theorem t18 : tb.fs[18]? = some d18 := by simp only [tb]; rfl
theorem B : CbT tb 0 1 4 2 5 3 6 7 1 0 1 2 where
  h1 := t0
  h2 := t1
  h4 := t2
  h3 := t4
  h5 := t5
  hF := t3
  hC := t6
  hI := t7
  ini := by simp only [tb]; rfl
  at0 := by simp only [tb]; rfl
  at1 := by simp only [tb]; rfl
  rs := by simp only [tb]; rfl
  ff := by decide
theorem refused (k : Nat) (a b : D) (S : Store) (ha : knT (S ++ [.ins 2 []]) a) (hb : knTT (S ++ [.ins 2 []]) b) : runK tb (k + 8) 17 [a, b] S = .ok (.bl (!cbB a b)) S :=
  refS B t17 (by simp only [tb]; rfl) (by simp only [tb]; rfl) (by simp only [tb]; rfl) (by simp only [tb]; rfl) k a b S ha hb
/-! the spoiled things -/
def spl (L : Nat) : List D := [.non, .bl true, .int (-1), .str "0", .tup [], .ref L, .tup [.int 0, .bl true], .ref (L + 1), .tup [.tup []], .str "and", .int 1000000000000000000000000000000, .tup [.ref (L + 3)], .tup [.non], .tup [.tup [.int 0]]]
def splT (L : Nat) : List O := [.lst [], .dK [], .lst ((spl L).take 8), .lst [], .lst (spl L)]
theorem spoiled (k : Nat) (b : Nat) (S : Store) (hb : b < 14) : runK tb (k + 1) 12 [.int b] S = .ok ((spl S.length)[b]'hb) (gc S ((spl S.length)[b]'hb) (S ++ splT S.length)) := by
  rw [run_of t12 k _ _ rfl]
  have m1 : opI .mod (b : Int) 14 = some (b : Int) := by
    rw [opI_mod (by omega), Int.emod_eq_of_lt (by omega) (by omega)]
  have m2 : opI .pow 10 30 = some 1000000000000000000000000000000 := by
    rw [opI_pow (by omega) (by omega) (by decide)]
    rfl
  have a1 : L2.atI (spl S.length) (b : Int) = some ((spl S.length)[b]'hb) := atI_get (spl S.length) b hb
  generalize (spl S.length)[b]'hb = d at a1
  show finE S (exSs (cxK tb k) d12.body [some (.int b), none] S) = _
  have f1 : exSs (cxK tb k) d12.body [some (.int b), none] S = .ok (.rt d) (S ++ splT S.length) := by
    have e1 : opE (S ++ [.lst [], .dK [], .lst ((spl S.length).take 8), .lst []]) .add (.v (.ref (S.length + 2))) (.t (.lst ((spl S.length).drop 8))) = some (.t (.lst (spl S.length))) := by
      have g1 : lstW (S ++ [.lst [], .dK [], .lst ((spl S.length).take 8), .lst []]) (.v (.ref (S.length + 2))) = some ((spl S.length).take 8) := by simp [lstW, objW, List.getElem?_append]
      have g2 : lstW (S ++ [.lst [], .dK [], .lst ((spl S.length).take 8), .lst []]) (.t (.lst ((spl S.length).drop 8))) = some ((spl S.length).drop 8) := rfl
      show (match lstW _ _, lstW _ _ with
        | some xs, some ys => if xs.length + ys.length ≤ sizeLine then some (T.t (.lst (xs ++ ys))) else none
        | _, _ => none) = _
      rw [g1, g2]
      dsimp only
      rw [List.take_append_drop, if_pos (by rw [size_line]; simp [spl])]
    have e2 : idxE (S ++ splT S.length) (.v (.ref (S.length + 4))) (.v (.int b)) = some d := idx_lst (by simp [splT, List.getElem?_append]) a1
    have e3 : biE (S ++ splT S.length) .len (.v (.ref (S.length + 4))) = some (.v (.int 14)) := by
      simp [biE, seqR, lstR, objR, unlk, splT, List.getElem?_append, spl]
    have x1 : (den (cxK tb k) (.na .lst [(.cst (.non)), (.cst (.bl true)), (.nd .neg [(.cst (.int 1))]), (.cst (.str "0")), (.na .tup []), (.na .lst []), (.na .tup [(.cst (.int 0)), (.cst (.bl true))]), (.nd .dct [])])).e [some (.int b), none] S = .ok (.t (.lst ((spl S.length).take 8))) (S ++ [.lst [], .dK []]) := by
      simp [size_line, spl]
    have x2 : (den (cxK tb k) (.na .lst [(.na .tup [(.na .tup [])]), (.cst (.str "and")), (.nd (.op .pow) [(.cst (.int 10)), (.cst (.int 30))]), (.na .tup [(.na .lst [])]), (.na .tup [(.cst (.non))]), (.na .tup [(.na .tup [(.cst (.int 0))])])])).e [some (.int b), some (.ref (S.length + 2))] (S ++ [.lst [], .dK [], .lst ((spl S.length).take 8)]) = .ok (.t (.lst ((spl S.length).drop 8))) (S ++ [.lst [], .dK [], .lst ((spl S.length).take 8), .lst []]) := by
      simp [size_line, spl, m2]
    have s1 := set_v (j := 1) x1 (by simp)
    have s2 := set_v (j := 1) (op_2 (e := .var 1) (var_v rfl) x2 e1) (by simp)
    have s3 : (den (cxK tb k) (.nd .idx [(.var 1), (.nd (.op .mod) [(.nd (.bi .int) [(.var 0)]), (.nd (.bi .len) [(.var 1)])])])).e [some (.int b), some (.ref (S.length + 4))] (S ++ splT S.length) = .ok (.v d) (S ++ splT S.length) :=
      idx_2 (var_v rfl) (op_2 (bi_1 (var_v rfl) (bi_int _ _)) (bi_1 (var_v rfl) e3) (r := .v (.int b)) (by rw [opE_int, m1]; rfl)) e2
    have n1 : (S ++ [O.lst [], .dK []]).length = S.length + 2 := by simp
    have n2 : (S ++ [O.lst [], .dK [], .lst ((spl S.length).take 8), .lst []]).length = S.length + 4 := by simp
    have c1 : (S ++ [O.lst [], .dK []]) ++ [.lst ((spl S.length).take 8)] = S ++ [O.lst [], .dK [], .lst ((spl S.length).take 8)] := by simp
    have c2 : (S ++ [O.lst [], .dK [], .lst ((spl S.length).take 8), .lst []]) ++ [.lst (spl S.length)] = S ++ splT S.length := by simp [splT]
    rw [alloc_t] at s1 s2
    dsimp only at s1 s2
    rw [n1, c1] at s1
    rw [n2, c2] at s2
    simp only [d12]
    rw [set_stm s1]
    show exSs _ _ [some (D.int b), some (.ref (S.length + 2))] _ = _
    rw [set_stm s2]
    show exSs _ _ [some (D.int b), some (.ref (S.length + 4))] _ = _
    rw [ret_1 s3]
  rw [f1, fin_rt]
/-! the law -/
theorem tup_add (S : Store) (xs ys : List D) (h : xs.length + ys.length ≤ 1000) : opE S .add (.v (.tup xs)) (.v (.tup ys)) = some (.v (.tup (xs ++ ys))) := by
  show (if xs.length + ys.length ≤ sizeLine then some (T.v (.tup (xs ++ ys))) else none) = _
  rw [if_pos (by rw [size_line]; omega)]
theorem tup_mul (S : Store) (d : D) (n : Nat) (h : 2 ≤ n) (h2 : n ≤ 1000) : opE S .mul (.v (.tup [d])) (.v (.int n)) = some (.v (.tup (List.replicate n d))) := by
  show (if [d] ≠ [] ∧ 2 ≤ (n : Int) ∧ (n : Int) ≤ 1000 ∧ [d].length ≤ 1000 then some (T.v (.tup (List.replicate (n : Int).toNat [d]).flatten)) else none) = _
  rw [if_pos ⟨by simp, by omega, by omega, by simp⟩]
  simp
theorem sm_bad (a : Nat) (L : Nat) : ∀ d ∈ [D.tup [.int (2 * (a : Int))], .tup [.int (-1)], .tup [.bl true], .tup [.int 1, .int 0], .tup [.int 0, .int 0], .tup [.str "0"], .non, .tup [.int 0, .int 1]], smD d = true ∧ clauseB a d = false := by
  intro d hd
  simp only [List.mem_cons, List.not_mem_nil, or_false] at hd
  have hs : PyData.strOk "0" = true := strOk_of "0"
  rcases hd with rfl | rfl | rfl | rfl | rfl | rfl | rfl | rfl <;> refine ⟨by simp [smD, smDs, hs], ?_⟩ <;> simp [clauseB, intsOf, clauseI, asc, ltI]
theorem cbB_no {a b : D} {n : Nat} (h1 : lenD a = n) (h2 : clausesB n b = false) : cbB a b = false := by
  unfold cbB
  rw [h1, h2, Bool.and_false, Bool.and_false]
theorem cbB_ok (bs : List Bool) (xs : List (List Int)) (h1 : bs.length ≤ 500) (h2 : clausesL bs.length xs = true) (h3 : xs.length ≤ 1000000) : cbB (.tup (bs.map D.bl)) (.tup (xs.map tupI)) = true := by
  unfold cbB
  have e : lenD (.tup (bs.map D.bl)) = bs.length := by simp [lenD]
  rw [areFlags_bls, e, decide_eq_true h1, clausesB_tups _ _ h3, h2]
  rfl
theorem knT_app {S : Store} {d : D} (T : List O) (h : knT S d) : knT (S ++ T) d := by
  have w : ∀ x, knw S x → knw (S ++ T) x := fun x hx => by
    cases x with
    | ref n =>
      have g : ∀ s, tyB S (.v (.ref n)) = some s → tyB (S ++ T) (.v (.ref n)) = some s := fun s hs => by
        unfold tyB objR at hs ⊢
        dsimp only at hs ⊢
        cases hn : S[n]? with
        | none => rw [hn] at hs; cases hs
        | some o =>
          rw [hn] at hs
          rw [app_at hn T]
          exact hs
      rcases hx with hx | hx
      · exact .inl (g _ hx)
      · exact .inr (g _ hx)
    | fn _ => exact hx
    | cls _ => exact hx
    | _ => trivial
  exact ⟨w d h.1, fun ds e => ⟨(h.2 ds e).1, fun x hx => w x ((h.2 ds e).2 x hx)⟩⟩
def bads (a : Nat) (L : Nat) : List D := [.tup [.int (2 * (a : Int))], .tup [.int (-1)], .tup [.bl true], .ref L, .tup [.int 1, .int 0], .tup [.int 0, .int 0], .tup [.str "0"], .non, .tup [.int 0, .int 1]]
theorem badOk (a L : Nat) (S : Store) (hL : S[L]? = some (.lst [.int 0])) : ∀ d ∈ bads a L, knT S d ∧ clauseB a d = false := by
  intro d hd
  have h := sm_bad a L
  simp only [bads, List.mem_cons, List.not_mem_nil, or_false] at hd
  have hr : knT S (.ref L) := by
    refine ⟨.inl ?_, fun ds e => by cases e⟩
    unfold tyB objR
    dsimp only
    rw [hL]
    rfl
  rcases hd with rfl | rfl | rfl | rfl | rfl | rfl | rfl | rfl | rfl
  · exact ⟨knT_sm (h _ (by simp)).1, (h _ (by simp)).2⟩
  · exact ⟨knT_sm (h _ (by simp)).1, (h _ (by simp)).2⟩
  · exact ⟨knT_sm (h _ (by simp)).1, (h _ (by simp)).2⟩
  · exact ⟨hr, rfl⟩
  · exact ⟨knT_sm (h _ (by simp)).1, (h _ (by simp)).2⟩
  · exact ⟨knT_sm (h _ (by simp)).1, (h _ (by simp)).2⟩
  · exact ⟨knT_sm (h _ (by simp)).1, (h _ (by simp)).2⟩
  · exact ⟨knT_sm (h _ (by simp)).1, (h _ (by simp)).2⟩
  · exact ⟨knT_sm (h _ (by simp)).1, (h _ (by simp)).2⟩
end Lk50
set_option Elab.async false
set_option linter.all false
set_option maxRecDepth 100000
set_option autoImplicit false
set_option maxHeartbeats 8000000
namespace Lk50
open Ev PySem
abbrev fls : List Sx := [.ret (.cst (.bl false))]
def w1 : Sx := .set (.var 1) (.na (.call 10) [(.na (.call 9) [(.var 0), (.cst (.int 0))]), (.na .lst [(.cst (.int 9)), (.cst (.int 14)), (.cst (.int 9)), (.cst (.int 7))])])
def w2 : Sx := .set (.var 2) (.nd .idx [(.var 1), (.cst (.int 0))])
def w3 : Sx := .set (.tup [(.var 3), (.var 4)]) (.na (.call 16) [(.na (.call 9) [(.var 0), (.cst (.int 1))]), (.nd .max2 [(.cst (.int 1)), (.var 2)]), (.cst (.int 12)), (.cst (.int 4))])
def w4 : Sx := .ite (.nd (.cmp .eq) [(.var 2), (.cst (.int 0))]) [.set (.var 4) (.nd (.slc 2) [(.var 4), (.cst (.int 0))]), .set (.var 3) (.na .tup [])] []
def w5 : Sx := .set (.var 5) (.na (.mk 2) [(.var 3), (.var 4)])
def w6 : Sx := .ite (.or (.not (.na (.call 11) [(.nd (.fld 0) [(.var 5)]), (.var 3)])) (.not (.na (.call 11) [(.nd (.fld 1) [(.var 5)]), (.var 4)]))) fls []
def w7 : Sx := .set (.var 6) (.nd .idx [(.na .lst [(.na .tup [(.nd (.op .mul) [(.cst (.int 2)), (.var 2)])]), (.na .tup [(.nd .neg [(.cst (.int 1))])]), (.na .tup [(.cst (.bl true))]), (.na .lst [(.cst (.int 0))]), (.na .tup [(.cst (.int 1)), (.cst (.int 0))]), (.na .tup [(.cst (.int 0)), (.cst (.int 0))]), (.na .tup [(.cst (.str "0"))]), (.cst (.non)), (.na .tup [(.cst (.int 0)), (.cst (.int 1))])]), (.nd .idx [(.var 1), (.cst (.int 2))])])
def w8 : Sx := .ite (.not (.na (.call 17) [(.var 3), (.nd (.op .add) [(.var 4), (.na .tup [(.var 6)])])])) fls []
def w9 : Sx := .set (.var 7) (.na (.call 12) [(.nd .idx [(.var 1), (.cst (.int 1))])])
def three : Ex := .na .lst [(.na .tup []), (.na .tup [(.na .tup [])]), (.na .tup [(.na .tup [(.cst (.int 0))])])]
def w10 : Sx := .ite (.and (.nd (.cmp .nmem) [(.var 7), three]) (.not (.na (.call 17) [(.var 3), (.var 7)]))) fls []
def w11 : Sx := .set (.var 8) (.nd .idx [(.na .lst [(.nd (.bi .list) [(.var 4)]), (.nd (.op .add) [(.var 4), (.nd (.op .mul) [(.na .tup [(.na .tup [])]), (.cst (.int 2))])]), (.nd (.op .add) [(.nd .bk [(.var 4)]), (.var 4)]), (.cst (.non)), (.cst (.int 5)), (.na .tup [(.cst (.non))]), (.cst (.str "0"))]), (.nd .idx [(.var 1), (.cst (.int 3))])])
def w12 : Sx := .ite (.and (.nd (.cmp .ne) [(.var 8), (.na .tup [])]) (.not (.na (.call 17) [(.var 3), (.var 8)]))) fls []
def w13 : Sx := .ite (.or (.not (.na (.call 17) [(.na .lst [(.cst (.bl true))]), (.na .tup [])])) (.or (.not (.na (.call 17) [(.na .tup [(.cst (.int 1))]), (.na .tup [])])) (.not (.na (.call 17) [(.nd (.op .mul) [(.na .tup [(.cst (.bl true))]), (.cst (.int 501))]), (.na .tup [])])))) fls []
def w14 : Sx := .set (.var 9) (.na (.mk 2) [(.nd (.op .add) [(.na .tup [(.cst (.bl true))]), (.var 3)]), (.na .tup [])])
def w15 : Sx := .set (.var 10) (.na (.mk 2) [(.nd (.bi .tuple) [(.lc (.var 11) .seq [(.var 3)] [] (.var 11) [11])]), (.nd (.bi .tuple) [(.lc (.var 12) .seq [(.var 4)] [] (.var 12) [12])])])
def w16 : Sx := .ret (.and (.nd (.cmp .eq) [(.var 5), (.var 10)]) (.and (.not (.nd (.cmp .eq) [(.var 5), (.var 9)])) (.and (.not (.nd (.cmp .ne) [(.var 5), (.var 10)])) (.nd (.cmp .ne) [(.var 5), (.cst (.int 5))]))))
theorem cmp_eq (S : Store) (a b : Ev.T) : cmpE S .eq a b = eqE S a b := rfl
theorem cmp_ne (S : Store) (a b : Ev.T) : cmpE S .ne a b = (eqE S a b).map (!·) := rfl
theorem cmp_nmem (S : Store) (a b : Ev.T) : cmpE S .nmem a b = (memE S a b).map (!·) := rfl
theorem lawB : d18.body = [w1, w2, w3, w4, w5, w6, w7, w8, w9, w10, w11, w12, w13, w14, w15, w16] := rfl
section
variable (cx : Cxt) (S : Store) (a : Nat) (bs : List Bool) (cs : List (List Int))
abbrev SD : D := .tup (bs.map D.bl)
abbrev CD : D := .tup (cs.map tupI)
/-- w1 to w4: sides and clauses -/
theorem begin_ (k : Nat) (ns : List Int) : ∃ (a b c d : Nat) (bs : List Bool) (cs : List (List Int)) (S : Store), a < 9 ∧ b < 14 ∧ c < 9 ∧ d < 7 ∧ bs.length = a ∧ clausesL a cs = true ∧ cs.length ≤ 12 ∧ (∀ x ∈ cs, x.length ≤ 4) ∧ S[2]? = some (.lst [.int a, .int b, .int c, .int d]) ∧
    ∀ r, exSs (cxK tb (k + 10)) (w1 :: w2 :: w3 :: w4 :: r) [some (.ref 0), none, none, none, none, none, none, none, none, none, none, none, none] (scr ns) =
      exSs (cxK tb (k + 10)) r [some (.ref 0), some (.ref 2), some (.int a), some (SD bs), some (CD cs), none, none, none, none, none, none, none, none] S := by
  have c0 : runK tb (k + 10) 9 [.ref 0, .int 0] (scr ns) = .ok (.int (ns.getD 0 0)) (scr ns) := cellS t9 (k + 9) ns 0 0 (scr ns) rfl
  obtain ⟨row, hB, eR⟩ := rowS t10 (k + 9) (ns.getD 0 0) 1 [9, 14, 9, 7] (scr ns ++ [.lst (([9, 14, 9, 7] : List Int).map D.int)]) rfl (fun x hx => by
    simp at hx
    rcases hx with rfl | rfl | rfl | rfl <;> omega) (by simp)
  match row, hB with
  | [a, b, c, d], ⟨h0, h1, h2, h3, _⟩ =>
    obtain ⟨a, rfl⟩ : ∃ n : Nat, a = (n : Int) := ⟨a.toNat, by omega⟩
    obtain ⟨b, rfl⟩ : ∃ n : Nat, b = (n : Int) := ⟨b.toNat, by omega⟩
    obtain ⟨c, rfl⟩ : ∃ n : Nat, c = (n : Int) := ⟨c.toNat, by omega⟩
    obtain ⟨d, rfl⟩ : ∃ n : Nat, d = (n : Int) := ⟨d.toNat, by omega⟩
    obtain ⟨S, hS⟩ : ∃ S, S = scr ns ++ [O.lst (([9, 14, 9, 7] : List Int).map D.int)] ++ [.lst (([(a : Int), b, c, d] : List Int).map D.int)] := ⟨_, rfl⟩
    have hS2 : S[2]? = some (.lst [.int a, .int b, .int c, .int d]) := by rw [hS]; rfl
    have hS0 : S[0]? = some (.lk (.lst (ns.map D.int))) := by rw [hS]; rfl
    have c1 : runK tb (k + 10) 9 [.ref 0, .int 1] S = .ok (.int (ns.getD 1 0)) S := cellS t9 (k + 9) ns 0 1 S hS0
    obtain ⟨bs, cs, q1, q2, q3, q4, q5⟩ := cbkS t10 t14 t13 t15 t16 (k + 6) (ns.getD 1 0) (max 1 a) 12 4 S (by omega) (by omega) (by omega)
    have f1 : exS (cxK tb (k + 10)) w1 [some (.ref 0), none, none, none, none, none, none, none, none, none, none, none, none] (scr ns) = .ok (.nx [some (.ref 0), some (.ref 2), none, none, none, none, none, none, none, none, none, none, none]) S := by
      have x1 := lst_1 (cx := cxK tb (k + 10)) (es := [(.cst (.int 9)), (.cst (.int 14)), (.cst (.int 9)), (.cst (.int 7))]) (σ := [some (.ref 0), none, none, none, none, none, none, none, none, none, none, none, none]) (S := scr ns) (ded_c cst_v (ded_c cst_v (ded_c cst_v (ded_1 cst_v)))) (by simp)
      have x2 := call_d (cx := cxK tb (k + 10)) (f := 9) (es := [(.var 0), (.cst (.int 0))]) (σ := [some (.ref 0), none, none, none, none, none, none, none, none, none, none, none, none]) (ded_c (var_v rfl) (ded_1 cst_v)) c0
      have hlen : (scr ns ++ [O.lst (([9, 14, 9, 7] : List Int).map D.int)]).length = 2 := rfl
      rw [hlen, ← hS] at eR
      exact set_v (call_d (cx := cxK tb (k + 10)) (f := 10) (ds := [.int (ns.getD 0 0), .ref 1]) (S1 := scr ns ++ [O.lst (([9, 14, 9, 7] : List Int).map D.int)]) (d := .ref 2) (S2 := S) (ded_c x2 (ded_1 x1)) eR) (by simp)
    have f2 : exS (cxK tb (k + 10)) w2 [some (.ref 0), some (.ref 2), none, none, none, none, none, none, none, none, none, none, none] S = .ok (.nx [some (.ref 0), some (.ref 2), some (.int a), none, none, none, none, none, none, none, none, none, none]) S :=
      set_v (idx_2 (var_v rfl) cst_v (idx_lst hS2 (atI_get [D.int a, .int b, .int c, .int d] 0 (by simp)))) (by simp)
    have f3 : exS (cxK tb (k + 10)) w3 [some (.ref 0), some (.ref 2), some (.int a), none, none, none, none, none, none, none, none, none, none] S = .ok (.nx [some (.ref 0), some (.ref 2), some (.int a), some (SD bs), some (CD cs), none, none, none, none, none, none, none, none]) S := by
      have x2 := call_d (cx := cxK tb (k + 10)) (f := 9) (es := [(.var 0), (.cst (.int 1))]) (σ := [some (.ref 0), some (.ref 2), some (.int a), none, none, none, none, none, none, none, none, none, none]) (ded_c (var_v rfl) (ded_1 cst_v)) c1
      have x3 : (den (cxK tb (k + 10)) (.nd .max2 [(.cst (.int 1)), (.var 2)])).e [some (.ref 0), some (.ref 2), some (.int a), none, none, none, none, none, none, none, none, none, none] S = .ok (.v (.int ((max 1 a : Nat) : Int))) S := by
        rw [nd_2 cst_v (var_v rfl), app_max]
        have : (if (a : Int) > 1 then (a : Int) else 1) = ((max 1 a : Nat) : Int) := by split <;> omega
        rw [this]
      have x4 := call_d (d := .tup [SD bs, CD cs]) (S2 := S) (cx := cxK tb (k + 10)) (f := 16) (ded_c x2 (ded_c x3 (ded_c (cst_v (d := .int 12)) (ded_1 (cst_v (d := .int 4)))))) q5
      simp only [w3, exS]
      rw [x4]
      rfl
    have hcase : a = 0 ∨ 1 ≤ a := by omega
    rcases hcase with rfl | ha
    · refine ⟨0, b, c, d, [], [], S, by omega, by omega, by omega, by omega, rfl, rfl, by simp, fun x h => absurd h (by simp), hS2, fun r => ?_⟩
      have f4 : exS (cxK tb (k + 10)) w4 [some (.ref 0), some (.ref 2), some (.int (0 : Nat)), some (SD bs), some (CD cs), none, none, none, none, none, none, none, none] S = .ok (.nx [some (.ref 0), some (.ref 2), some (.int (0 : Nat)), some (SD []), some (CD []), none, none, none, none, none, none, none, none]) S := by
        have x1 : (den (cxK tb (k + 10)) (.nd (.cmp .eq) [(.var 2), (.cst (.int 0))])).b [some (.ref 0), some (.ref 2), some (.int (0 : Nat)), some (SD bs), some (CD cs), none, none, none, none, none, none, none, none] S = .ok true S :=
          b_nd (cmp_2 (var_v rfl) cst_v (own_int _ _ _ _ _) (by rw [cmp_eq, eqE_int]; rfl))
        have x2 : (den (cxK tb (k + 10)) (.nd (.slc 2) [(.var 4), (.cst (.int 0))])).e [some (.ref 0), some (.ref 2), some (.int (0 : Nat)), some (SD bs), some (CD cs), none, none, none, none, none, none, none, none] S = .ok (.v (CD [])) S := by
          rw [nd_2 (var_v rfl) cst_v, app_slc2]
          show ofO S (some (T.v (.tup (cut (cs.map tupI) none (some 0))))) = _
          have : cut (cs.map tupI) none (some 0) = [] := by
            unfold cut
            have e := HT.sIx_nat (cs.map tupI).length (cs.map tupI).length 0
            rw [Nat.zero_min] at e
            have e2 : HT.sIx (cs.map tupI).length (cs.map tupI).length (some 0) = 0 := e
            rw [e2]
            simp
          rw [this]
          rfl
        simp only [w4]
        rw [ex_ite, x1, cat_ok', ifK_ap, if_pos rfl, set_stm (set_v x2 (by simp))]
        rw [set_stm (set_v (tup_1 (ds := []) rfl (by simp)) (by simp))]
        rw [exs_nil]
        rfl
      rw [set_stm f1, set_stm f2, set_stm f3, set_stm f4]
    · have hm : max 1 a = a := by omega
      rw [hm] at q1 q2
      refine ⟨a, b, c, d, bs, cs, S, by omega, by omega, by omega, by omega, q1, q2, q3, q4, hS2, fun r => ?_⟩
      have f4 : exS (cxK tb (k + 10)) w4 [some (.ref 0), some (.ref 2), some (.int a), some (SD bs), some (CD cs), none, none, none, none, none, none, none, none] S = .ok (.nx [some (.ref 0), some (.ref 2), some (.int a), some (SD bs), some (CD cs), none, none, none, none, none, none, none, none]) S := by
        refine ite_no (b_nd (cmp_2 (var_v rfl) cst_v (own_int _ _ _ _ _) ?_))
        rw [cmp_eq, eqE_int, decide_eq_false (by omega)]
      rw [set_stm f1, set_stm f2, set_stm f3, set_stm f4]
end
end Lk50
set_option Elab.async false
set_option linter.all false
set_option maxRecDepth 100000
set_option autoImplicit false
set_option maxHeartbeats 8000000
namespace Lk50
open Ev PySem
theorem idx_t {S : Store} {ds : List D} {j : Int} {d : D} (h : L2.atI ds j = some d) : idxE S (.t (.lst ds)) (.v (.int j)) = some d := by
  show (match seqR S (.t (.lst ds)) with
    | some ds => L2.atI ds j
    | none => match objR S (.t (.lst ds)) with
      | some (.dK kvs) => valK (Sum.inl j : L2.Key) kvs
      | _ => none) = _
  exact h
theorem sm_SD (bs : List Bool) (h : bs.length ≤ 1000) : smD (SD bs) = true := by
  rw [smD, sm_bls, List.length_map, decide_eq_true (by omega)]
  rfl
theorem sm_CD (cs : List (List Int)) (h : cs.length ≤ 1000) (h2 : ∀ x ∈ cs, x.length ≤ 1000) : smD (CD cs) = true := by
  rw [smD, sm_tups _ fun x hx => by have := h2 x hx; omega, List.length_map, decide_eq_true (by omega)]
  rfl
theorem dp_SD (bs : List Bool) : dpD (SD bs) = 1 := by rw [dpD, dp_bls]
theorem dp_CD (cs : List (List Int)) : dpD (CD cs) ≤ 2 := by
  rw [dpD]
  have := dp_tups cs
  omega
def thr : List D := [.tup [], .tup [.tup []], .tup [.tup [.int 0]]]
theorem thr_e (cx : Cxt) (σ : Ev.Env) (S : Store) : (den cx three).e σ S = .ok (.t (.lst thr)) S := by
  simp [three, thr, size_line]
theorem memT {S : Store} {d : D} (h : plD d = true) (hd : dpD d ≤ 64) : memE S (.v d) (.t (.lst thr)) = some (thr.any fun z => eqP z d) :=
  memE_lst h hd rfl (by simp [thr, plDs, plD]) (by simp [thr, dpDs, dpD])
theorem knT_ref {S : Store} {n : Nat} {o : O} (h : S[n]? = some o) (ho : (∃ ds, o = .lst ds) ∨ ∃ k, o = .dK k) : knT S (.ref n) := by
  refine ⟨?_, fun ds e => by cases e⟩
  rcases ho with ⟨ds, rfl⟩ | ⟨kv, rfl⟩
  · refine .inl ?_
    unfold tyB objR
    dsimp only
    rw [h]
    rfl
  · refine .inr ?_
    unfold tyB objR
    dsimp only
    rw [h]
    rfl
theorem knTT_ref {S : Store} {n : Nat} (h : knT S (.ref n)) : knTT S (.ref n) := ⟨h.1, fun ds e => by cases e⟩
theorem spl10 (b : Nat) (hb : b < 14) (S : Store) : ∃ T, gc S ((spl S.length)[b]'hb) (S ++ splT S.length) = S ++ T ∧
    (memE (S ++ T) (.v ((spl S.length)[b]'hb)) (.t (.lst thr)) = some true ∨ (memE (S ++ T) (.v ((spl S.length)[b]'hb)) (.t (.lst thr)) = some false ∧ knTT ((S ++ T) ++ [.ins 2 []]) ((spl S.length)[b]'hb) ∧ ∀ m, clausesB m ((spl S.length)[b]'hb) = false)) := by
  have pl : ∀ d : D, smD d = true → dpD d ≤ 3 → ((thr.any fun z => eqP z d) = true ∨ ((thr.any fun z => eqP z d) = false ∧ ∀ m, clausesB m d = false)) → ∃ T, gc S d (S ++ splT S.length) = S ++ T ∧ (memE (S ++ T) (.v d) (.t (.lst thr)) = some true ∨ (memE (S ++ T) (.v d) (.t (.lst thr)) = some false ∧ knTT ((S ++ T) ++ [.ins 2 []]) d ∧ ∀ m, clausesB m d = false)) := by
    intro d h1 h2 h3
    refine ⟨[], ?_, ?_⟩
    · rw [gc_app, if_pos (noRef_of _ _ (sm_pl d h1)), List.append_nil]
    · rw [memT (sm_pl d h1) (by omega)]
      rcases h3 with h3 | ⟨h3, h4⟩
      · exact .inl (by rw [h3])
      · exact .inr ⟨by rw [h3], knTT_sm h1, h4⟩
  have big : ∀ d : D, noRef S.length d = false → gc S d (S ++ splT S.length) = S ++ splT S.length := fun d h => by
    rw [gc_app, if_neg (by rw [h]; simp)]
  have o0 : (S ++ splT S.length)[S.length]? = some (.lst []) := by simp [splT]
  have o1 : (S ++ splT S.length)[S.length + 1]? = some (.dK []) := by simp [splT, List.getElem?_append]
  have o3 : (S ++ splT S.length)[S.length + 3]? = some (.lst []) := by simp [splT, List.getElem?_append]
  have hs0 : PyData.strOk "0" = true := strOk_of "0"
  have hs1 : PyData.strOk "and" = true := strOk_of "and"
  match b, hb with
  | 0, _ => exact pl .non rfl (by simp [dpD]) (.inr ⟨by simp [thr, eqP, pyOf, pysOf, PyData.eqv], fun m => rfl⟩)
  | 1, _ => exact pl (.bl true) rfl (by simp [dpD]) (.inr ⟨by simp [thr, eqP, pyOf, pysOf, PyData.eqv], fun m => rfl⟩)
  | 2, _ => exact pl (.int (-1)) rfl (by simp [dpD]) (.inr ⟨by simp [thr, eqP, pyOf, pysOf, PyData.eqv], fun m => rfl⟩)
  | 3, _ => exact pl (.str "0") (by simp [smD, hs0]) (by simp [dpD]) (.inr ⟨by simp [thr, eqP, pyOf, pysOf, PyData.eqv], fun m => rfl⟩)
  | 4, _ => exact pl (.tup []) (by simp [smD, smDs]) (by simp [dpD, dpDs]) (.inl (by simp [thr, eqP, pyOf, pysOf, PyData.eqv, PyData.eqvAll]))
  | 5, _ =>
    refine ⟨splT S.length, big _ (by simp [spl, noRef]), .inr ⟨?_, knTT_ref (knT_ref (app_at o0 _) (.inl ⟨_, rfl⟩)), fun m => rfl⟩⟩
    have e : toPy (S ++ splT S.length) (.v (.ref S.length)) = some (.list []) := by
      simp [toPy, toPyW, refPy, lstR, objR, unlk, o0, toPysW]
    show memE (S ++ splT S.length) (.v (.ref S.length)) (.t (.lst thr)) = some false
    have e2 : toPy (S ++ splT S.length) (.t (.lst thr)) = some (.list (pysOf thr)) := by
      show (toPysW (refPy 3 (S ++ splT S.length)) thr).map PyData.list = _
      rw [toPysW_pl (refPy 3 (S ++ splT S.length)) thr (by simp [thr, plDs, plD])]
      rfl
    have h1 : SeqAt.shaped (.list []) = true := by simp [SeqAt.shaped, PyData.canLay0, PyData.canLayAll0, PyData.depth, PyData.depthAll]
    have h2 : SeqAt.shaped (.list (pysOf thr)) = true := shapedL_pl (by simp [thr, plDs, plD]) (by simp [thr, dpDs, dpD])
    show (match objR (S ++ splT S.length) (.t (.lst thr)) with
      | some (.lst _) => match toPy (S ++ splT S.length) (.v (.ref S.length)), toPy (S ++ splT S.length) (.t (.lst thr)) with
        | some p, some (.list qs) => if SeqAt.shaped p ∧ SeqAt.shaped (.list qs) then some (qs.any fun z => PyData.eqv z p) else none
        | _, _ => if isDct (S ++ splT S.length) (.v (.ref S.length)) && allTup (S ++ splT S.length) (.t (.lst thr)) then some false else none
      | _ => none) = _
    rw [e, e2]
    show (if SeqAt.shaped (.list []) ∧ SeqAt.shaped (.list (pysOf thr)) then some ((pysOf thr).any fun z => PyData.eqv z (.list [])) else none) = _
    rw [if_pos ⟨h1, h2⟩]
    simp [thr, pysOf, pyOf, PyData.eqv]
  | 6, _ => exact pl (.tup [.int 0, .bl true]) (by simp [smD, smDs]) (by simp [dpD, dpDs]) (.inr ⟨by simp [thr, eqP, pyOf, pysOf, PyData.eqv, PyData.eqvAll], fun m => rfl⟩)
  | 7, _ =>
    refine ⟨splT S.length, big _ (by simp [spl, noRef]), .inr ⟨?_, knTT_ref (knT_ref (app_at o1 _) (.inr ⟨_, rfl⟩)), fun m => rfl⟩⟩
    have e : toPy (S ++ splT S.length) (.v (.ref (S.length + 1))) = none := by
      simp [toPy, toPyW, refPy, lstR, objR, unlk, o1]
    have e3 : isDct (S ++ splT S.length) (.v (.ref (S.length + 1))) = true := by
      simp [isDct, objR, unlk, o1]
    have e4 : allTup (S ++ splT S.length) (.t (.lst thr)) = true := rfl
    show (match objR (S ++ splT S.length) (.t (.lst thr)) with
      | some (.lst _) => match toPy (S ++ splT S.length) (.v (.ref (S.length + 1))), toPy (S ++ splT S.length) (.t (.lst thr)) with
        | some p, some (.list qs) => if SeqAt.shaped p ∧ SeqAt.shaped (.list qs) then some (qs.any fun z => PyData.eqv z p) else none
        | _, _ => if isDct (S ++ splT S.length) (.v (.ref (S.length + 1))) && allTup (S ++ splT S.length) (.t (.lst thr)) then some false else none
      | _ => none) = some false
    rw [e, e3, e4]
    rfl
  | 8, _ => exact pl (.tup [.tup []]) (by simp [smD, smDs]) (by simp [dpD, dpDs]) (.inl (by simp [thr, eqP, pyOf, pysOf, PyData.eqv, PyData.eqvAll]))
  | 9, _ => exact pl (.str "and") (by simp [smD, hs1]) (by simp [dpD]) (.inr ⟨by simp [thr, eqP, pyOf, pysOf, PyData.eqv], fun m => rfl⟩)
  | 10, _ => exact pl (.int 1000000000000000000000000000000) rfl (by simp [dpD]) (.inr ⟨by simp [thr, eqP, pyOf, pysOf, PyData.eqv], fun m => rfl⟩)
  | 11, _ =>
    have hr := knT_ref (app_at o3 [O.ins 2 []]) (.inl ⟨_, rfl⟩)
    refine ⟨splT S.length, big _ (by simp [spl, noRef, noRefs]), .inr ⟨?_, ⟨trivial, fun ds e => ?_⟩, fun m => rfl⟩⟩
    · have e : toPy (S ++ splT S.length) (.v (.tup [.ref (S.length + 3)])) = some (.tuple [.list []]) := by
        simp [toPy, toPyW, refPy, lstR, objR, unlk, o3, toPysW]
      have e2 : toPy (S ++ splT S.length) (.t (.lst thr)) = some (.list (pysOf thr)) := by
        show (toPysW (refPy 3 (S ++ splT S.length)) thr).map PyData.list = _
        rw [toPysW_pl (refPy 3 (S ++ splT S.length)) thr (by simp [thr, plDs, plD])]
        rfl
      have h1 : SeqAt.shaped (.tuple [.list []]) = true := by simp [SeqAt.shaped, PyData.canLay0, PyData.canLayAll0, PyData.depth, PyData.depthAll]
      have h2 : SeqAt.shaped (.list (pysOf thr)) = true := shapedL_pl (by simp [thr, plDs, plD]) (by simp [thr, dpDs, dpD])
      show (match objR (S ++ splT S.length) (.t (.lst thr)) with
        | some (.lst _) => match toPy (S ++ splT S.length) (.v (.tup [.ref (S.length + 3)])), toPy (S ++ splT S.length) (.t (.lst thr)) with
          | some p, some (.list qs) => if SeqAt.shaped p ∧ SeqAt.shaped (.list qs) then some (qs.any fun z => PyData.eqv z p) else none
          | _, _ => if isDct (S ++ splT S.length) (.v (.tup [.ref (S.length + 3)])) && allTup (S ++ splT S.length) (.t (.lst thr)) then some false else none
        | _ => none) = some false
      rw [e, e2]
      show (if SeqAt.shaped (.tuple [.list []]) ∧ SeqAt.shaped (.list (pysOf thr)) then some ((pysOf thr).any fun z => PyData.eqv z (.tuple [.list []])) else none) = _
      rw [if_pos ⟨h1, h2⟩]
      simp [thr, pysOf, pyOf, PyData.eqv, PyData.eqvAll]
    · have e' : [D.ref (S.length + 3)] = ds := D.tup.inj e
      subst e'
      refine ⟨by simp, fun x hx => ?_⟩
      rw [List.mem_singleton.mp hx]
      exact hr
  | 12, _ => exact pl (.tup [.non]) (by simp [smD, smDs]) (by simp [dpD, dpDs]) (.inr ⟨by simp [thr, eqP, pyOf, pysOf, PyData.eqv, PyData.eqvAll], fun m => rfl⟩)
  | 13, _ => exact pl (.tup [.tup [.int 0]]) (by simp [smD, smDs]) (by simp [dpD, dpDs]) (.inl (by simp [thr, eqP, pyOf, pysOf, PyData.eqv, PyData.eqvAll]))
  | n + 14, h => omega
end Lk50
set_option Elab.async false
set_option linter.all false
set_option maxRecDepth 100000
set_option autoImplicit false
set_option maxHeartbeats 8000000
namespace Lk50
open Ev PySem
def wrg (cs : List (List Int)) (L : Nat) : List D := [.ref L, .tup (cs.map tupI ++ [.tup [], .tup []]), .tup ((cs.map tupI).reverse ++ cs.map tupI), .non, .int 5, .tup [.non], .str "0"]
/-- what stands at the 8th place, and that it is refused, or () -/
theorem wrg12 (cs : List (List Int)) (L d : Nat) (hd : d < 7) (S : Store) (hL : S[L]? = some (.lst (cs.map tupI))) (hc : cs.length ≤ 100) (hc2 : ∀ x ∈ cs, x.length ≤ 100) (cx : Cxt) :
    ownQ cx S .ne (.v ((wrg cs L)[d]'hd)) (.v (.tup [])) = none ∧ ((eqE S (.v ((wrg cs L)[d]'hd)) (.v (.tup [])) = some true) ∨ (eqE S (.v ((wrg cs L)[d]'hd)) (.v (.tup [])) = some false ∧ knTT (S ++ [.ins 2 []]) ((wrg cs L)[d]'hd) ∧ ∀ m, clausesB m ((wrg cs L)[d]'hd) = false)) := by
  have pl : ∀ d : D, smD d = true → dpD d ≤ 3 → (eqP d (.tup []) = true ∨ (eqP d (.tup []) = false ∧ ∀ m, clausesB m d = false)) →
      ownQ cx S .ne (.v d) (.v (.tup [])) = none ∧ ((eqE S (.v d) (.v (.tup [])) = some true) ∨ (eqE S (.v d) (.v (.tup [])) = some false ∧ knTT (S ++ [.ins 2 []]) d ∧ ∀ m, clausesB m d = false)) := by
    intro d h1 h2 h3
    refine ⟨plD_data (sm_pl d h1), ?_⟩
    rw [eqE_pl (sm_pl d h1) (by simp [plD, plDs]) (by omega) (by simp [dpD, dpDs])]
    rcases h3 with h3 | ⟨h3, h4⟩
    · exact .inl (by rw [h3])
    · exact .inr ⟨by rw [h3], knTT_sm h1, h4⟩
  have hs0 : PyData.strOk "0" = true := strOk_of "0"
  match d, hd with
  | 0, _ =>
    refine ⟨own_lst cx S hL, .inr ⟨?_, knTT_ref (knT_ref (app_at hL _) (.inl ⟨_, rfl⟩)), fun m => rfl⟩⟩
    show eqE S (.v (.ref L)) (.v (.tup [])) = some false
    have e : toPy S (.v (.ref L)) = some (.list (pysOf (cs.map tupI))) := by
      show (lstR S (.v (.ref L))).bind (fun ds => (toPysW (refPy 2 S) ds).map PyData.list) = _
      have e0 : lstR S (.v (.ref L)) = some (cs.map tupI) := by simp [lstR, objR, unlk, hL]
      rw [e0, Option.bind_some, toPysW_pl (refPy 2 S) _ (pl_tups cs)]
      rfl
    have e2 : toPy S (.v (.tup [])) = some (.tuple []) := by
      rw [toPy_pl (by simp [plD, plDs])]
      simp [pyOf, pysOf]
    unfold eqE
    rw [e, e2]
    dsimp only
    rw [if_pos ⟨shapedL_pl (pl_tups cs) (by have := dp_tups cs; omega), by simp [SeqAt.shaped, PyData.canLay0, PyData.canLayAll0, PyData.depth, PyData.depthAll]⟩]
    simp [PyData.eqv]
  | 1, _ =>
    have e : cs.map tupI ++ [D.tup [], .tup []] = (cs ++ [[], []]).map tupI := by rw [List.map_append]; rfl
    show ownQ cx S .ne (.v (.tup (cs.map tupI ++ [D.tup [], .tup []]))) (.v (.tup [])) = none ∧ ((eqE S (.v (.tup (cs.map tupI ++ [D.tup [], .tup []]))) (.v (.tup [])) = some true) ∨ (eqE S (.v (.tup (cs.map tupI ++ [D.tup [], .tup []]))) (.v (.tup [])) = some false ∧ knTT (S ++ [.ins 2 []]) (.tup (cs.map tupI ++ [D.tup [], .tup []])) ∧ ∀ m, clausesB m (.tup (cs.map tupI ++ [D.tup [], .tup []])) = false))
    rw [e]
    refine pl _ (sm_CD _ (by simp; omega) fun x hx => ?_) (Nat.le_trans (dp_CD (cs ++ [[], []])) (by omega)) (.inr ⟨?_, fun m => ?_⟩)
    · rcases List.mem_append.mp hx with hx | hx
      · have := hc2 x hx; omega
      · simp at hx
        rcases hx with rfl | rfl <;> simp
    · rw [eqP_tup]
      cases hq : eqPs ((cs ++ [[], []]).map tupI) [] with
      | false => rfl
      | true =>
        have := eqPs_len hq
        simp at this
    · rw [clausesB_tups _ _ (by simp; omega), clausesL, asc_no HT.lexLt HT.lexLt_nil_nil [] cs, Bool.and_false]
  | 2, _ =>
    have e : (cs.map tupI).reverse ++ cs.map tupI = (cs.reverse ++ cs).map tupI := by rw [List.map_append, List.map_reverse]
    show ownQ cx S .ne (.v (.tup ((cs.map tupI).reverse ++ cs.map tupI))) (.v (.tup [])) = none ∧ ((eqE S (.v (.tup ((cs.map tupI).reverse ++ cs.map tupI))) (.v (.tup [])) = some true) ∨ (eqE S (.v (.tup ((cs.map tupI).reverse ++ cs.map tupI))) (.v (.tup [])) = some false ∧ knTT (S ++ [.ins 2 []]) (.tup ((cs.map tupI).reverse ++ cs.map tupI)) ∧ ∀ m, clausesB m (.tup ((cs.map tupI).reverse ++ cs.map tupI)) = false))
    rw [e]
    refine pl _ (sm_CD _ (by simp; omega) fun x hx => ?_) (Nat.le_trans (dp_CD (cs.reverse ++ cs)) (by omega)) ?_
    · rcases List.mem_append.mp hx with hx | hx
      · have := hc2 x (List.mem_reverse.mp hx); omega
      · have := hc2 x hx; omega
    · cases cs with
      | nil => exact .inl (by rw [eqP_tup]; rfl)
      | cons x r =>
        refine .inr ⟨?_, fun m => ?_⟩
        · rw [eqP_tup]
          cases hq : eqPs (((x :: r).reverse ++ (x :: r)).map tupI) [] with
          | false => rfl
          | true =>
            have := eqPs_len hq
            simp at this
        · have rf : HT.lexLt x x = false := (NtL.swo_lexL (fun z : List Int => z)).refl x
          rw [clausesB_tups _ _ (by simp at hc ⊢; omega), clausesL, List.reverse_cons, List.append_assoc]
          show (_ && asc HT.lexLt (r.reverse ++ (x :: x :: r))) = false
          rw [asc_no HT.lexLt rf r r.reverse, Bool.and_false]
  | 3, _ => exact pl .non rfl (by simp [dpD]) (.inr ⟨by simp [eqP, pyOf, pysOf, PyData.eqv], fun m => rfl⟩)
  | 4, _ => exact pl (.int 5) rfl (by simp [dpD]) (.inr ⟨by simp [eqP, pyOf, pysOf, PyData.eqv], fun m => rfl⟩)
  | 5, _ => exact pl (.tup [.non]) (by simp [smD, smDs]) (by simp [dpD, dpDs]) (.inr ⟨by simp [eqP, pyOf, pysOf, PyData.eqv, PyData.eqvAll], fun m => rfl⟩)
  | 6, _ => exact pl (.str "0") (by simp [smD, hs0]) (by simp [dpD]) (.inr ⟨by simp [eqP, pyOf, pysOf, PyData.eqv], fun m => rfl⟩)
  | n + 7, h => omega
section
variable {k a b c d : Nat} {bs : List Bool} {cs : List (List Int)} {S : Store}
noncomputable abbrev C (k : Nat) : Cxt := cxK tb (k + 10)
/-- refused, as a part of a condition -/
theorem ref_b {k : Nat} {e e' : Ex} {σ : Ev.Env} {S S1 : Store} {x y : D} (h : ded (C k) [e, e'] σ S = .ok [x, y] S1) (hx : knT (S1 ++ [.ins 2 []]) x) (hy : knTT (S1 ++ [.ins 2 []]) y) (hc : cbB x y = false) : (den (C k) (.not (.na (.call 17) [e, e']))).b σ S = .ok false S1 := by
  have r := refused (k + 2) x y S1 hx hy
  rw [hc] at r
  have q := b_not (b_na (call_d (cx := C k) (f := 17) h r))
  exact q
theorem pw5 (hb : bs.length = a) (ha : a < 9) (h1 : clausesL a cs = true) (h2 : cs.length ≤ 12) (h3 : ∀ x ∈ cs, x.length ≤ 4) (x5 x6 x7 x8 x9 x10 x11 x12 : Option D) :
    exS (C k) w5 [some (.ref 0), some (.ref 2), some (.int a), some (SD bs), some (CD cs), x5, x6, x7, x8, x9, x10, x11, x12] S = .ok (.nx [some (.ref 0), some (.ref 2), some (.int a), some (SD bs), some (CD cs), some (.ref S.length), x6, x7, x8, x9, x10, x11, x12]) (S ++ [.ins 2 [(0, SD bs), (1, CD cs)]]) := by
  have e := cbMakS B (k + 3) (SD bs) (CD cs) S (knT_sm (sm_SD bs (by omega))) (knTT_sm (sm_CD cs (by omega) fun x hx => by have := h3 x hx; omega))
  rw [cbB_ok bs cs (by omega) (by rw [hb]; exact h1) (by omega), if_pos rfl] at e
  exact set_v (mk_d (cx := C k) (c := 2) (ded_c (var_v rfl) (ded_1 (var_v rfl))) e) (by simp)
theorem pw6 (hb : bs.length ≤ 9) (h2 : cs.length ≤ 12) (h3 : ∀ x ∈ cs, x.length ≤ 4) (n : Nat) (hn : S[n]? = some (.ins 2 [(0, SD bs), (1, CD cs)])) (x0 x1 x2 x6 x7 x8 x9 x10 x11 x12 : Option D) :
    exS (C k) w6 [x0, x1, x2, some (SD bs), some (CD cs), some (.ref n), x6, x7, x8, x9, x10, x11, x12] S = .ok (.nx [x0, x1, x2, some (SD bs), some (CD cs), some (.ref n), x6, x7, x8, x9, x10, x11, x12]) S := by
  have a0 : (C k).at_ 2 0 = true := B.at0
  have a1 : (C k).at_ 2 1 = true := B.at1
  have r0 : runK tb (k + 10) 11 [SD bs, SD bs] S = .ok (.bl true) S := sameS t11 2 (k + 7) (SD bs) S (sm_SD bs (by omega)) (by rw [dp_SD]; omega)
  have r1 : runK tb (k + 10) 11 [CD cs, CD cs] S = .ok (.bl true) S := sameS t11 2 (k + 7) (CD cs) S (sm_CD cs (by omega) fun x hx => by have := h3 x hx; omega) (dp_CD cs)
  have g0 := b_not (b_na (call_d (cx := C k) (f := 11) (es := [(.nd (.fld 0) [(.var 5)]), (.var 3)]) (σ := [x0, x1, x2, some (SD bs), some (CD cs), some (.ref n), x6, x7, x8, x9, x10, x11, x12]) (ded_c (fld_v (var_v rfl) hn a0 rfl) (ded_1 (var_v rfl))) r0))
  have g1 := b_not (b_na (call_d (cx := C k) (f := 11) (es := [(.nd (.fld 1) [(.var 5)]), (.var 4)]) (σ := [x0, x1, x2, some (SD bs), some (CD cs), some (.ref n), x6, x7, x8, x9, x10, x11, x12]) (ded_c (fld_v (var_v rfl) hn a1 rfl) (ded_1 (var_v rfl))) r1))
  exact ite_no (b_or g0 g1)
theorem pw7 (hc : c < 9) (h1 : S[2]? = some (.lst [.int a, .int b, .int c, .int d])) (x0 x3 x4 x5 x6 x7 x8 x9 x10 x11 x12 : Option D) :
    exS (C k) w7 [x0, some (.ref 2), some (.int a), x3, x4, x5, x6, x7, x8, x9, x10, x11, x12] S = .ok (.nx [x0, some (.ref 2), some (.int a), x3, x4, x5, some ((bads a S.length)[c]'hc), x7, x8, x9, x10, x11, x12]) (S ++ [.lst [.int 0]]) := by
  have e1 : (den (C k) (.na .lst [(.na .tup [(.nd (.op .mul) [(.cst (.int 2)), (.var 2)])]), (.na .tup [(.nd .neg [(.cst (.int 1))])]), (.na .tup [(.cst (.bl true))]), (.na .lst [(.cst (.int 0))]), (.na .tup [(.cst (.int 1)), (.cst (.int 0))]), (.na .tup [(.cst (.int 0)), (.cst (.int 0))]), (.na .tup [(.cst (.str "0"))]), (.cst (.non)), (.na .tup [(.cst (.int 0)), (.cst (.int 1))])])).e [x0, some (.ref 2), some (.int a), x3, x4, x5, x6, x7, x8, x9, x10, x11, x12] S = .ok (.t (.lst (bads a S.length))) (S ++ [.lst [.int 0]]) := by
    simp [size_line, bads]
  have e2 := idx_2 (cx := C k) (e := .var 1) (e' := .cst (.int 2)) (σ := [x0, some (.ref 2), some (.int a), x3, x4, x5, x6, x7, x8, x9, x10, x11, x12]) (var_v rfl) cst_v (idx_lst (app_at h1 [.lst [.int 0]]) (atI_get [D.int a, .int b, .int c, .int d] 2 (by simp)))
  exact set_v (idx_2 e1 e2 (idx_t (atI_get (bads a S.length) c hc))) (by simp)
theorem pw8 (hb : bs.length = a) (ha : a < 9) (h2 : cs.length ≤ 12) (h3 : ∀ x ∈ cs, x.length ≤ 4) (L : Nat) (hL : S[L]? = some (.lst [.int 0])) (bad : D) (hbad : bad ∈ bads a L) (x0 x1 x2 x5 x7 x8 x9 x10 x11 x12 : Option D) :
    exS (C k) w8 [x0, x1, x2, some (SD bs), some (CD cs), x5, some bad, x7, x8, x9, x10, x11, x12] S = .ok (.nx [x0, x1, x2, some (SD bs), some (CD cs), x5, some bad, x7, x8, x9, x10, x11, x12]) S := by
  obtain ⟨b1, b2⟩ := badOk a L (S ++ [.ins 2 []]) (app_at hL _) bad hbad
  have e1 := op_2 (cx := C k) (e := .var 4) (e' := .na .tup [.var 6]) (o := .add) (σ := [x0, x1, x2, some (SD bs), some (CD cs), x5, some bad, x7, x8, x9, x10, x11, x12]) (S := S) (var_v rfl) (tup_1 (ded_1 (var_v rfl)) (by simp)) (tup_add S (cs.map tupI) [bad] (by simp; omega))
  refine ite_no (ref_b (x := SD bs) (y := .tup (cs.map tupI ++ [bad])) (ded_c (var_v rfl) (ded_1 e1)) (knT_sm (sm_SD bs (by omega))) ⟨trivial, fun ds e => ?_⟩ (cbB_no (n := a) (by simp [lenD, hb]) (clausesB_bad (d := bad) (by simp) b2)))
  have e' : cs.map tupI ++ [bad] = ds := D.tup.inj e
  subst e'
  refine ⟨by simp; omega, fun x hx => ?_⟩
  rcases List.mem_append.mp hx with hx | hx
  · obtain ⟨y, hy, rfl⟩ := List.mem_map.mp hx
    have := h3 y hy
    exact knT_sm (by rw [tupI, smD, sm_ints, List.length_map, decide_eq_true (by omega)]; rfl)
  · rw [List.mem_singleton.mp hx]
    exact b1
end
end Lk50
set_option Elab.async false
set_option linter.all false
set_option maxRecDepth 100000
set_option autoImplicit false
set_option maxHeartbeats 8000000
namespace Lk50
open Ev PySem
section
variable {k a b c d : Nat} {bs : List Bool} {cs : List (List Int)} {S : Store}
theorem pw9 (hb : b < 14) (h1 : S[2]? = some (.lst [.int a, .int b, .int c, .int d])) (x0 x2 x3 x4 x5 x6 x7 x8 x9 x10 x11 x12 : Option D) :
    exS (C k) w9 [x0, some (.ref 2), x2, x3, x4, x5, x6, x7, x8, x9, x10, x11, x12] S = .ok (.nx [x0, some (.ref 2), x2, x3, x4, x5, x6, some ((spl S.length)[b]'hb), x8, x9, x10, x11, x12]) (gc S ((spl S.length)[b]'hb) (S ++ splT S.length)) := by
  have r : runK tb (k + 10) 12 [.int b] S = _ := spoiled (k + 9) b S hb
  have e2 := idx_2 (cx := C k) (e := .var 1) (e' := .cst (.int 1)) (σ := [x0, some (.ref 2), x2, x3, x4, x5, x6, x7, x8, x9, x10, x11, x12]) (var_v rfl) cst_v (idx_lst h1 (atI_get [D.int a, .int b, .int c, .int d] 1 (by simp)))
  exact set_v (call_d (cx := C k) (f := 12) (ded_1 e2) r) (by simp)
theorem pw10 (hb : bs.length = a) (ha : a < 9) (z : D) (hz : memE S (.v z) (.t (.lst thr)) = some true ∨ (memE S (.v z) (.t (.lst thr)) = some false ∧ knTT (S ++ [.ins 2 []]) z ∧ ∀ m, clausesB m z = false)) (x0 x1 x2 x4 x5 x6 x8 x9 x10 x11 x12 : Option D) :
    exS (C k) w10 [x0, x1, x2, some (SD bs), x4, x5, x6, some z, x8, x9, x10, x11, x12] S = .ok (.nx [x0, x1, x2, some (SD bs), x4, x5, x6, some z, x8, x9, x10, x11, x12]) S := by
  have g : ∀ r, memE S (.v z) (.t (.lst thr)) = some r → (den (C k) (.nd (.cmp .nmem) [(.var 7), three])).b [x0, x1, x2, some (SD bs), x4, x5, x6, some z, x8, x9, x10, x11, x12] S = .ok (!r) S := fun r hr =>
    b_nd (cmp_2 (var_v rfl) (thr_e _ _ _) (own_nmem _ _ _ _) (by rw [cmp_nmem, hr]; rfl))
  rcases hz with hz | ⟨hz, h1, h2⟩
  · exact ite_no (b_and0 (g _ hz))
  · exact ite_no (b_and (g _ hz) (ref_b (ded_c (var_v rfl) (ded_1 (var_v rfl))) (knT_sm (sm_SD bs (by omega))) h1 (cbB_no (n := bs.length) (by simp [lenD]) (h2 _))))
theorem pw11 (hd : d < 7) (h1 : S[2]? = some (.lst [.int a, .int b, .int c, .int d])) (h2 : cs.length ≤ 12) (x0 x2 x3 x5 x6 x7 x8 x9 x10 x11 x12 : Option D) :
    exS (C k) w11 [x0, some (.ref 2), x2, x3, some (CD cs), x5, x6, x7, x8, x9, x10, x11, x12] S = .ok (.nx [x0, some (.ref 2), x2, x3, some (CD cs), x5, x6, x7, some ((wrg cs S.length)[d]'hd), x9, x10, x11, x12]) (S ++ [.lst (cs.map tupI)]) := by
  have g1 : (den (C k) (.nd (.bi .list) [(.var 4)])).e [x0, some (.ref 2), x2, x3, some (CD cs), x5, x6, x7, x8, x9, x10, x11, x12] S = .ok (.t (.lst (cs.map tupI))) S := bi_1 (var_v rfl) rfl
  have g2 : (den (C k) (.nd (.op .add) [(.var 4), (.nd (.op .mul) [(.na .tup [(.na .tup [])]), (.cst (.int 2))])])).e [x0, some (.ref 2), x2, x3, some (CD cs), x5, x6, x7, x8, x9, x10, x11, x12] (S ++ [.lst (cs.map tupI)]) = .ok (.v (.tup (cs.map tupI ++ [.tup [], .tup []]))) (S ++ [.lst (cs.map tupI)]) :=
    op_2 (var_v rfl) (op_2 (tup_1 (ded_1 (tup_1 (ds := []) rfl (by simp))) (by simp)) (cst_v (d := .int 2)) (tup_mul _ (.tup []) 2 (by omega) (by omega))) (tup_add _ _ _ (by simp; omega))
  have g3 : (den (C k) (.nd (.op .add) [(.nd .bk [(.var 4)]), (.var 4)])).e [x0, some (.ref 2), x2, x3, some (CD cs), x5, x6, x7, x8, x9, x10, x11, x12] (S ++ [.lst (cs.map tupI)]) = .ok (.v (.tup ((cs.map tupI).reverse ++ cs.map tupI))) (S ++ [.lst (cs.map tupI)]) := by
    have q : (den (C k) (.nd .bk [(.var 4)])).e [x0, some (.ref 2), x2, x3, some (CD cs), x5, x6, x7, x8, x9, x10, x11, x12] (S ++ [.lst (cs.map tupI)]) = .ok (.v (.tup (cs.map tupI).reverse)) (S ++ [.lst (cs.map tupI)]) := by
      rw [nd_1 (var_v rfl), app_bk]
      rfl
    exact op_2 q (var_v rfl) (tup_add _ _ _ (by simp; omega))
  have e1 : (den (C k) (.na .lst [(.nd (.bi .list) [(.var 4)]), (.nd (.op .add) [(.var 4), (.nd (.op .mul) [(.na .tup [(.na .tup [])]), (.cst (.int 2))])]), (.nd (.op .add) [(.nd .bk [(.var 4)]), (.var 4)]), (.cst (.non)), (.cst (.int 5)), (.na .tup [(.cst (.non))]), (.cst (.str "0"))])).e [x0, some (.ref 2), x2, x3, some (CD cs), x5, x6, x7, x8, x9, x10, x11, x12] S = .ok (.t (.lst (wrg cs S.length))) (S ++ [.lst (cs.map tupI)]) :=
    lst_1 (ded_c g1 (ded_c g2 (ded_c g3 (ded_c cst_v (ded_c cst_v (ded_c (tup_1 (ded_1 cst_v) (by simp)) (ded_1 cst_v))))))) (by simp [wrg])
  have e2 := idx_2 (cx := C k) (e := .var 1) (e' := .cst (.int 3)) (σ := [x0, some (.ref 2), x2, x3, some (CD cs), x5, x6, x7, x8, x9, x10, x11, x12]) (var_v rfl) cst_v (idx_lst (app_at h1 [.lst (cs.map tupI)]) (atI_get [D.int a, .int b, .int c, .int d] 3 (by simp)))
  exact set_v (idx_2 e1 e2 (idx_t (atI_get (wrg cs S.length) d hd))) (by simp)
theorem pw12 (hb : bs.length = a) (ha : a < 9) (hd : d < 7) (h2 : cs.length ≤ 12) (h3 : ∀ x ∈ cs, x.length ≤ 4) (L : Nat) (hL : S[L]? = some (.lst (cs.map tupI))) (x0 x1 x2 x4 x5 x6 x7 x9 x10 x11 x12 : Option D) :
    exS (C k) w12 [x0, x1, x2, some (SD bs), x4, x5, x6, x7, some ((wrg cs L)[d]'hd), x9, x10, x11, x12] S = .ok (.nx [x0, x1, x2, some (SD bs), x4, x5, x6, x7, some ((wrg cs L)[d]'hd), x9, x10, x11, x12]) S := by
  obtain ⟨q1, q2⟩ := wrg12 cs L d hd S hL (by omega) (fun x hx => by have := h3 x hx; omega) (C k)
  generalize (wrg cs L)[d]'hd = z at q1 q2
  have g : ∀ r, eqE S (.v z) (.v (.tup [])) = some r → (den (C k) (.nd (.cmp .ne) [(.var 8), (.na .tup [])])).b [x0, x1, x2, some (SD bs), x4, x5, x6, x7, some z, x9, x10, x11, x12] S = .ok (!r) S := fun r hr =>
    b_nd (cmp_2 (var_v rfl) (tup_1 (ds := []) rfl (by simp)) q1 (by rw [cmp_ne, hr]; rfl))
  rcases q2 with hz | ⟨hz, h1, h2⟩
  · exact ite_no (b_and0 (g _ hz))
  · exact ite_no (b_and (g _ hz) (ref_b (ded_c (var_v rfl) (ded_1 (var_v rfl))) (knT_sm (sm_SD bs (by omega))) h1 (cbB_no (n := bs.length) (by simp [lenD]) (h2 _))))
theorem pw13 (σ : Ev.Env) : exS (C k) w13 σ S = .ok (.nx σ) (S ++ [.lst [.bl true]]) := by
  have ke : ∀ S' : Store, knTT S' (.tup []) := fun S' => knTT_sm (by simp [smD, smDs])
  have e0 : (den (C k) (.na .tup [])).e σ (S ++ [.lst [.bl true]]) = .ok (.v (.tup [])) (S ++ [.lst [.bl true]]) := tup_1 (ds := []) rfl (by simp)
  have g1 : (den (C k) (.not (.na (.call 17) [(.na .lst [(.cst (.bl true))]), (.na .tup [])]))).b σ S = .ok false (S ++ [.lst [.bl true]]) :=
    ref_b (x := .ref S.length) (y := .tup []) (ded_c (lst_1 (ded_1 (cst_v (d := .bl true))) (by simp)) (ded_1 e0)) (knT_ref (o := .lst [.bl true]) (by simp [List.getElem?_append]) (.inl ⟨_, rfl⟩)) (ke _) rfl
  have g2 : (den (C k) (.not (.na (.call 17) [(.na .tup [(.cst (.int 1))]), (.na .tup [])]))).b σ (S ++ [.lst [.bl true]]) = .ok false (S ++ [.lst [.bl true]]) :=
    ref_b (x := .tup [.int 1]) (y := .tup []) (ded_c (tup_1 (ded_1 (cst_v (d := .int 1))) (by simp)) (ded_1 e0)) (knT_sm (by simp [smD, smDs])) (ke _) rfl
  have e3 : (den (C k) (.nd (.op .mul) [(.na .tup [(.cst (.bl true))]), (.cst (.int 501))])).e σ (S ++ [.lst [.bl true]]) = .ok (.v (.tup (List.replicate 501 (.bl true)))) (S ++ [.lst [.bl true]]) :=
    op_2 (tup_1 (ded_1 (cst_v (d := .bl true))) (by simp)) (cst_v (d := .int 501)) (tup_mul _ (.bl true) 501 (by omega) (by omega))
  have er : (List.replicate 501 (D.bl true)) = (List.replicate 501 true).map D.bl := by rw [List.map_replicate]
  have g3 : (den (C k) (.not (.na (.call 17) [(.nd (.op .mul) [(.na .tup [(.cst (.bl true))]), (.cst (.int 501))]), (.na .tup [])]))).b σ (S ++ [.lst [.bl true]]) = .ok false (S ++ [.lst [.bl true]]) := by
    refine ref_b (x := .tup (List.replicate 501 (.bl true))) (y := .tup []) (ded_c e3 (ded_1 e0)) ?_ (ke _) ?_
    · rw [er]
      exact knT_sm (sm_SD _ (by simp))
    · unfold cbB
      have : decide (lenD (.tup (List.replicate 501 (D.bl true))) ≤ 500) = false := decide_eq_false (by simp [lenD])
      rw [this, Bool.false_and, Bool.and_false]
  exact ite_no (b_or g1 (b_or g2 g3))
theorem pw14 (hb : bs.length = a) (ha : a < 9) (x0 x1 x2 x4 x5 x6 x7 x8 x9 x10 x11 x12 : Option D) :
    exS (C k) w14 [x0, x1, x2, some (SD bs), x4, x5, x6, x7, x8, x9, x10, x11, x12] S = .ok (.nx [x0, x1, x2, some (SD bs), x4, x5, x6, x7, x8, some (.ref S.length), x10, x11, x12]) (S ++ [.ins 2 [(0, SD (true :: bs)), (1, CD [])]]) := by
  have e := cbMakS B (k + 3) (SD (true :: bs)) (CD []) S (knT_sm (sm_SD (true :: bs) (by simp; omega))) (knTT_sm (sm_CD [] (by simp) fun x hx => absurd hx (by simp)))
  rw [cbB_ok (true :: bs) [] (by simp; omega) rfl (by simp), if_pos rfl] at e
  have g : (den (C k) (.nd (.op .add) [(.na .tup [(.cst (.bl true))]), (.var 3)])).e [x0, x1, x2, some (SD bs), x4, x5, x6, x7, x8, x9, x10, x11, x12] S = .ok (.v (SD (true :: bs))) S :=
    op_2 (tup_1 (ded_1 (cst_v (d := .bl true))) (by simp)) (var_v rfl) (tup_add _ _ _ (by simp; omega))
  exact set_v (mk_d (cx := C k) (c := 2) (ded_c g (ded_1 (tup_1 (ds := []) rfl (by simp)))) e) (by simp)
theorem pw15 (hb : bs.length = a) (ha : a < 9) (h1 : clausesL a cs = true) (h2 : cs.length ≤ 12) (h3 : ∀ x ∈ cs, x.length ≤ 4) (x0 x1 x2 x5 x6 x7 x8 x9 x10 : Option D) :
    exS (C k) w15 [x0, x1, x2, some (SD bs), some (CD cs), x5, x6, x7, x8, x9, x10, none, none] S = .ok (.nx [x0, x1, x2, some (SD bs), some (CD cs), x5, x6, x7, x8, x9, some (.ref S.length), none, none]) (S ++ [.ins 2 [(0, SD bs), (1, CD cs)]]) := by
  have e := cbMakS B (k + 3) (SD bs) (CD cs) S (knT_sm (sm_SD bs (by omega))) (knTT_sm (sm_CD cs (by omega) fun x hx => by have := h3 x hx; omega))
  rw [cbB_ok bs cs (by omega) (by rw [hb]; exact h1) (by omega), if_pos rfl] at e
  have idm : ∀ l : List D, l.map (fun d => d) = l := fun l => List.map_id l
  have g1 := lc_gen (cx := C k) (σ := [x0, x1, x2, some (SD bs), some (CD cs), x5, x6, x7, x8, x9, x10, none, none]) (σ' := [x0, x1, x2, some (SD bs), some (CD cs), x5, x6, x7, x8, x9, x10, none, none]) (S := S) (v := 11) (ik := .seq) (ia := [.var 3]) (el := .var 11) (own := [11]) (fun d => d) (dens_1 (var_v rfl)) (iter_tup S (bs.map D.bl)) rfl rfl (by simp) (fun d _ => by rw [var_v rfl]; rfl)
  have g2 := lc_gen (cx := C k) (σ := [x0, x1, x2, some (SD bs), some (CD cs), x5, x6, x7, x8, x9, x10, none, none]) (σ' := [x0, x1, x2, some (SD bs), some (CD cs), x5, x6, x7, x8, x9, x10, none, none]) (S := S) (v := 12) (ik := .seq) (ia := [.var 4]) (el := .var 12) (own := [12]) (fun d => d) (dens_1 (var_v rfl)) (iter_tup S (cs.map tupI)) rfl rfl (by simp) (fun d _ => by rw [var_v rfl]; rfl)
  rw [idm] at g1 g2
  exact set_v (mk_d (cx := C k) (c := 2) (ded_c (bi_1 (r := .v (SD bs)) g1 rfl) (ded_1 (bi_1 (r := .v (CD cs)) g2 rfl))) e) (by simp)
theorem own_ins {o : Cm} {n : Nat} {fs : List (Nat × D)} {y : D} (ho : o = .eq ∨ o = .ne) (hn : S[n]? = some (.ins 2 fs)) (hy : knownT (C k) S (.v y) = true) : ownQ (C k) S o (.v (.ref n)) (.v y) = some (8, .ref n, y) := by
  unfold ownQ
  rw [if_pos ho]
  dsimp only
  rw [hn]
  dsimp only
  rw [if_pos hy]
  rfl
theorem pw16 (hb : bs.length ≤ 9) (h2 : cs.length ≤ 12) (h3 : ∀ x ∈ cs, x.length ≤ 4) (n m q : Nat) (hn : S[n]? = some (.ins 2 [(0, SD bs), (1, CD cs)])) (hm : S[m]? = some (.ins 2 [(0, SD (true :: bs)), (1, CD [])])) (hq : S[q]? = some (.ins 2 [(0, SD bs), (1, CD cs)])) (x0 x1 x2 x3 x4 x6 x7 x8 x11 x12 : Option D) :
    exSs (C k) [w16] [x0, x1, x2, x3, x4, some (.ref n), x6, x7, x8, some (.ref m), some (.ref q), x11, x12] S = .ok (.rt (.bl true)) S := by
  have ps := sm_pl _ (sm_SD bs (by omega))
  have pc := sm_pl _ (sm_CD cs (by omega) fun x hx => by have := h3 x hx; omega)
  have ps2 := sm_pl _ (sm_SD (true :: bs) (by simp; omega))
  have pc2 := sm_pl _ (sm_CD [] (by simp) fun x hx => absurd hx (by simp))
  have ds : ∀ bs : List Bool, dpD (SD bs) ≤ 64 := fun bs => by rw [dp_SD]; omega
  have dc : ∀ cs : List (List Int), dpD (CD cs) ≤ 64 := fun cs => Nat.le_trans (dp_CD cs) (by omega)
  have h_ic : tb.ic 2 = true := by simp only [tb]; rfl
  have h_sb : tb.sb 2 2 = true := by simp only [tb]; rfl
  have kn : ∀ {j : Nat} {fs : List (Nat × D)}, S[j]? = some (.ins 2 fs) → knownT (C k) S (.v (.ref j)) = true := fun {j fs} hj => by
    have e : tyC S (.v (.ref j)) = some 2 := by
      unfold tyC objW
      dsimp only
      rw [hj]
    unfold knownT
    rw [e]
    show (_ || (C k).ic 2) = true
    rw [show (C k).ic 2 = true from h_ic, Bool.or_true]
  have r1 : runK tb (k + 9) 8 [.ref n, .ref q] S = .ok (.bl true) S := by
    have := cbEqS t8 B.at0 B.at1 h_ic h_sb (by decide) (k + 8) n q (SD bs) (CD cs) (SD bs) (CD cs) S hn hq ps pc ps pc (ds _) (dc _) (ds _) (dc _)
    rw [eqP_self ps, eqP_self pc] at this
    exact this
  have r2 : runK tb (k + 9) 8 [.ref n, .ref m] S = .ok (.bl false) S := by
    have := cbEqS t8 B.at0 B.at1 h_ic h_sb (by decide) (k + 8) n m (SD bs) (CD cs) (SD (true :: bs)) (CD []) S hn hm ps pc ps2 pc2 (ds _) (dc _) (ds _) (dc _)
    have e : eqP (SD bs) (SD (true :: bs)) = false := by
      rw [eqP_tup]
      cases hq : eqPs (bs.map D.bl) ((true :: bs).map D.bl) with
      | false => rfl
      | true =>
        have := eqPs_len hq
        simp at this
    rw [e] at this
    exact this
  have r3 : runK tb (k + 9) 8 [.ref n, .int 5] S = .ok (.bl false) S := cbEqN t8 (k + 8) n 5 S
  have g1 : (den (C k) (.nd (.cmp .eq) [(.var 5), (.var 10)])).e [x0, x1, x2, x3, x4, some (.ref n), x6, x7, x8, some (.ref m), some (.ref q), x11, x12] S = .ok (.v (.bl true)) S :=
    own_2 (c := true) (var_v rfl) (var_v rfl) (own_ins (.inl rfl) hn (kn hq)) r1
  have g2 : (den (C k) (.nd (.cmp .eq) [(.var 5), (.var 9)])).e [x0, x1, x2, x3, x4, some (.ref n), x6, x7, x8, some (.ref m), some (.ref q), x11, x12] S = .ok (.v (.bl false)) S :=
    own_2 (c := false) (var_v rfl) (var_v rfl) (own_ins (.inl rfl) hn (kn hm)) r2
  have g3 : (den (C k) (.nd (.cmp .ne) [(.var 5), (.var 10)])).e [x0, x1, x2, x3, x4, some (.ref n), x6, x7, x8, some (.ref m), some (.ref q), x11, x12] S = .ok (.v (.bl false)) S :=
    own_2 (c := true) (var_v rfl) (var_v rfl) (own_ins (.inr rfl) hn (kn hq)) r1
  have g4 : (den (C k) (.nd (.cmp .ne) [(.var 5), (.cst (.int 5))])).e [x0, x1, x2, x3, x4, some (.ref n), x6, x7, x8, some (.ref m), some (.ref q), x11, x12] S = .ok (.v (.bl true)) S :=
    own_2 (c := false) (var_v rfl) cst_v (own_ins (.inr rfl) hn rfl) r3
  exact ret_1 (e_and g1 (e_and (e_not g2) (e_and (e_not g3) g4)))
end
theorem spec (ns : List Int) (h1 : ns.length ≤ 63) (h2 : ∀ z ∈ ns, PySem.Builtin.Int.intBits z ≤ 1048576) : ∃ S', runK tb 20 18 [.ref 0] (scr ns) = .ok (.bl true) S' := by
  obtain ⟨a, b, c, d, bs, cs, S, ha, hb, hc, hd, q1, q2, q3, q4, q5, q6⟩ := begin_ 9 ns
  rw [run_of t18 19 _ _ rfl]
  show ∃ S', finE (scr ns) (exSs (C 9) d18.body [some (.ref 0), none, none, none, none, none, none, none, none, none, none, none, none] (scr ns)) = .ok (.bl true) S'
  rw [lawB, q6]
  have l9 : bs.length ≤ 9 := by omega
  -- the book
  rw [set_stm (pw5 q1 ha q2 q3 q4 none none none none none none none none)]
  have n5 : (S ++ [O.ins 2 [(0, SD bs), (1, CD cs)]])[S.length]? = some (.ins 2 [(0, SD bs), (1, CD cs)]) := by simp
  have m5 := app_at q5 [O.ins 2 [(0, SD bs), (1, CD cs)]]
  generalize hS5 : S ++ [O.ins 2 [(0, SD bs), (1, CD cs)]] = S5 at n5 m5
  rw [set_stm (pw6 l9 q3 q4 S.length n5 _ _ _ _ _ _ _ _ _ _)]
  rw [set_stm (pw7 hc m5 _ _ _ _ _ _ _ _ _ _ _)]
  have n7 := app_at n5 [O.lst [.int 0]]
  have m7 := app_at m5 [O.lst [.int 0]]
  have o7 : (S5 ++ [O.lst [.int 0]])[S5.length]? = some (.lst [.int 0]) := by simp
  have hbad : (bads a S5.length)[c]'hc ∈ bads a S5.length := List.getElem_mem _
  generalize (bads a S5.length)[c]'hc = bad at hbad
  generalize S5 ++ [O.lst [.int 0]] = S7 at n7 m7 o7
  rw [set_stm (pw8 q1 ha q3 q4 S5.length o7 bad hbad _ _ _ _ _ _ _ _ _ _)]
  rw [set_stm (pw9 hb m7 _ _ _ _ _ _ _ _ _ _ _ _)]
  obtain ⟨T9, e9, h9⟩ := spl10 b hb S7
  rw [e9]
  have n9 := app_at n7 T9
  have m9 := app_at m7 T9
  generalize S7 ++ T9 = S9 at n9 m9 h9
  generalize (spl S7.length)[b]'hb = z at h9
  rw [set_stm (pw10 q1 ha z h9 _ _ _ _ _ _ _ _ _ _ _)]
  rw [set_stm (pw11 hd m9 q3 _ _ _ _ _ _ _ _ _ _ _)]
  have n11 := app_at n9 [O.lst (cs.map tupI)]
  have o11 : (S9 ++ [O.lst (cs.map tupI)])[S9.length]? = some (.lst (cs.map tupI)) := by simp
  generalize S9 ++ [O.lst (cs.map tupI)] = S11 at n11 o11
  rw [set_stm (pw12 q1 ha hd q3 q4 S9.length o11 _ _ _ _ _ _ _ _ _ _ _)]
  rw [set_stm (pw13 _)]
  have n13 := app_at n11 [O.lst [.bl true]]
  generalize S11 ++ [O.lst [.bl true]] = S13 at n13
  rw [set_stm (pw14 q1 ha _ _ _ _ _ _ _ _ _ _ _ _)]
  have n14 := app_at n13 [O.ins 2 [(0, SD (true :: bs)), (1, CD [])]]
  have o14 : (S13 ++ [O.ins 2 [(0, SD (true :: bs)), (1, CD [])]])[S13.length]? = some (.ins 2 [(0, SD (true :: bs)), (1, CD [])]) := by simp
  generalize S13 ++ [O.ins 2 [(0, SD (true :: bs)), (1, CD [])]] = S14 at n14 o14
  rw [set_stm (pw15 q1 ha q2 q3 q4 _ _ _ _ _ _ _ _ _)]
  have n15 := app_at n14 [O.ins 2 [(0, SD bs), (1, CD cs)]]
  have o15 := app_at o14 [O.ins 2 [(0, SD bs), (1, CD cs)]]
  have q15 : (S14 ++ [O.ins 2 [(0, SD bs), (1, CD cs)]])[S14.length]? = some (.ins 2 [(0, SD bs), (1, CD cs)]) := by simp
  rw [pw16 l9 q3 q4 S.length S13.length S14.length n15 o15 q15 _ _ _ _ _ _ _ _ _ _]
  exact ⟨_, rfl⟩
end Lk50
theorem walkk50 {l : PySem.W.OpenLaw} {q : PySem.Program} {loose : List PySem.Str} {XP : (PySem.Str → Option PySem.Value) → PySem.Heap → Prop} {YP : PySem.World → PySem.Heap → Prop} {d : PySem.DefRec} {K : PySem.Params → PySem.W.Frag} (hn : l.most = some 63) (hdf : d.params.defaults = []) (hY : ∀ (w : PySem.World) (h : PySem.Heap), YP w h → (K w.params).In h)
    (F : ∀ (w : PySem.World) (mg : PySem.Str → Option PySem.Value) (fa : PySem.Addr) (h : PySem.Heap), (K w.params).In h → h.Ns PySem.mainGlobals mg → mg d.name = some (.ref fa) →
      ∃ fd : PySem.FuncData, (∀ (s : PySem.Shared) (u : PySem.Value), PySem.BindsTo s fd ⟨[u], []⟩ [("script", u)]) ∧ ∀ base : PySem.Heap, (K w.params).In base → base.Ns PySem.mainGlobals mg → L2.FnOk l.prog w (K w.params) mg base (L2.CX l.prog w) 20 fa fd ["script"] (Ev.spI (K w.params) 63)) :
    PySem.W.WalkO q loose XP YP l.row.toRowW d [] (fun f vs => PySem.call f vs) :=
  L2.walk_ofB (n := 63) (k := 20) (x := "script") (CX := fun w => L2.CX l.prog w) (sp := fun w => Ev.spI (K w.params) 63) hn (by decide) hdf ⟨rfl, by decide, by decide⟩ hY F (fun w H a ns hl hb hO hS => ⟨a, ns, rfl, hl, hb, hO, hS, fun _ => rfl⟩) fun w H s e s' z => by
    obtain ⟨_, _, _, _, _, _, _, _, _, _, _, _, z⟩ := z
    exact z
open PySem PySem.W PyProof.Rows
set_option maxRecDepth 100000 in
set_option maxHeartbeats 0 in
theorem PySem.Challenge.cw_everyreply_k50_clause_books_refused_holds : PySem.Challenge.rw_everyreply_k50_clause_books_refused.Holds := by
  w_on; o_law; k_head; (case hw => w_witness2)
  k_fill
  refine walkk50 (l := PySem.Challenge.rw_everyreply_k50_clause_books_refused) rfl rfl (fun w h Y => PySem.W.kIn_of Y) ?F
  case F =>
    intro w mg fa h KX G hmg
    refine' Lk50.all_mk KX G hmg Lk50.spec ?aC0 ?aC1 ?aC2 ?a0 ?l0 ?c0_ ?k0 ?a1 ?l1 ?c1_ ?k1 ?a2 ?l2 ?c2_ ?k2 ?a3 ?l3 ?c3_ ?k3 ?a4 ?l4 ?c4_ ?k4 ?a5 ?l5 ?c5_ ?k5 ?a6 ?l6 ?c6_ ?k6 ?a7 ?if7 ?mk7 ?l7 ?c7_ ?k7 ?a8 ?if8 ?ne8 ?mo8 ?nt8 ?nc8_2 ?l8 ?c8_ ?k8 ?a9 ?l9 ?c9_ ?k9 ?a10 ?l10 ?c10_ ?k10 ?a11 ?l11 ?c11_ ?k11 ?a12 ?l12 ?c12_ ?k12 ?a13 ?l13 ?c13_ ?k13 ?a14 ?l14 ?c14_ ?k14 ?a15 ?l15 ?c15_ ?k15 ?a16 ?l16 ?c16_ ?k16 ?a17 ?l17 ?c17_ ?k17 ?a18 ?l18 ?c18_ ?k18 ?kC0 ?kC1 ?kC2 ?b_len ?b_all ?b_any ?b_tuple ?b_list ?b_int ?b_abs ?b_sorted ?b_sum ?b_bool ?b_isinstance ?b_str ?b_dict ?b_max ?b_min ?b_range ?b_enumerate ?b_zip ?b_reversed ?b_ValueError ?v_MOST_CLAUSE_FLAGS ?v_MOST_CLAUSES ?B1 ?B2 ?B3 ?B4 ?R0 ?R1 ?t2 ?I2 ?cc2_0 ?cc2_1 ?cc2_2
    (case aC0 => k_is)
    (case aC1 => k_is)
    (case aC2 => k_is)
    (case a0 => k_is)
    (case l0 => k_is)
    (case c0_ => k_is)
    (case k0 => k_is)
    (case a1 => k_is)
    (case l1 => k_is)
    (case c1_ => k_is)
    (case k1 => k_is)
    (case a2 => k_is)
    (case l2 => k_is)
    (case c2_ => k_is)
    (case k2 => k_is)
    (case a3 => k_is)
    (case l3 => k_is)
    (case c3_ => k_is)
    (case k3 => k_is)
    (case a4 => k_is)
    (case l4 => k_is)
    (case c4_ => k_is)
    (case k4 => k_is)
    (case a5 => k_is)
    (case l5 => k_is)
    (case c5_ => k_is)
    (case k5 => k_is)
    (case a6 => k_is)
    (case l6 => k_is)
    (case c6_ => k_is)
    (case k6 => k_is)
    (case a7 => k_is)
    (case if7 => k_is)
    (case mk7 => k_is)
    (case l7 => k_is)
    (case c7_ => k_is)
    (case k7 => k_is)
    (case a8 => k_is)
    (case if8 => k_is)
    (case ne8 => k_is)
    (case mo8 => k_is)
    (case nt8 => kernel_rfl)
    (case nc8_2 => k_is)
    (case l8 => k_is)
    (case c8_ => k_is)
    (case k8 => k_is)
    (case a9 => k_is)
    (case l9 => k_is)
    (case c9_ => k_is)
    (case k9 => k_is)
    (case a10 => k_is)
    (case l10 => k_is)
    (case c10_ => k_is)
    (case k10 => k_is)
    (case a11 => k_is)
    (case l11 => k_is)
    (case c11_ => k_is)
    (case k11 => k_is)
    (case a12 => k_is)
    (case l12 => k_is)
    (case c12_ => k_is)
    (case k12 => k_is)
    (case a13 => k_is)
    (case l13 => k_is)
    (case c13_ => k_is)
    (case k13 => k_is)
    (case a14 => k_is)
    (case l14 => k_is)
    (case c14_ => k_is)
    (case k14 => k_is)
    (case a15 => k_is)
    (case l15 => k_is)
    (case c15_ => k_is)
    (case k15 => k_is)
    (case a16 => k_is)
    (case l16 => k_is)
    (case c16_ => k_is)
    (case k16 => k_is)
    (case a17 => k_is)
    (case l17 => k_is)
    (case c17_ => k_is)
    (case k17 => k_is)
    (case a18 => k_is)
    (case l18 => k_is)
    (case c18_ => k_is)
    (case k18 => k_is)
    (case kC0 => k_is)
    (case kC1 => k_is)
    (case kC2 => k_is)
    (case b_len => k_is)
    (case b_all => k_is)
    (case b_any => k_is)
    (case b_tuple => k_is)
    (case b_list => k_is)
    (case b_int => k_is)
    (case b_abs => k_is)
    (case b_sorted => k_is)
    (case b_sum => k_is)
    (case b_bool => k_is)
    (case b_isinstance => k_is)
    (case b_str => k_is)
    (case b_dict => k_is)
    (case b_max => k_is)
    (case b_min => k_is)
    (case b_range => k_is)
    (case b_enumerate => k_is)
    (case b_zip => k_is)
    (case b_reversed => k_is)
    (case b_ValueError => k_is)
    (case v_MOST_CLAUSE_FLAGS => k_is)
    (case v_MOST_CLAUSES => k_is)
    (case B1 => kernel_rfl)
    (case B2 => kernel_rfl)
    (case B3 => kernel_rfl)
    (case B4 => kernel_rfl)
    (case R0 => kernel_rfl)
    (case R1 => kernel_rfl)
    (case t2 => kernel_rfl)
    (case I2 => kernel_rfl)
    (case cc2_0 => kernel_rfl)
    (case cc2_1 => kernel_rfl)
    (case cc2_2 => kernel_rfl)
#print axioms PySem.Challenge.cw_everyreply_k50_clause_books_refused_holds
