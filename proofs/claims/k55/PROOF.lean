import PyProof.Rows.All
import Wide.All
import OpenK.AllK
import Wide.FinOn
import HandS.ForMost
import HandS.ForExc
import HandS.IsInst
import HandS.ExcInit
import HandS.ExcIs
import HandS.ExcField
import HandS.ExcValue
import HandS.WordsExc
import KE.KExcIs
import PyProof.DictCompW
import HandS.DictComp
import HandS.Comp
import HandS.Dict
import HandS.Deep
import HandS.NamedTupSort
import HandS.TupAny
import HandS.TupMul
import HandS.SortInts
import HandS.Style
import KE.KSortedM
import PyProof.InstNe
import HandS.More
import KE.KRevSl
import HandS.Walk
import HandS.Star
import HandS.TryOnly
import HandS.EndBits
import PySem.Challenge.RW_everyreply_k55_whole_files_of_clauses
set_option Elab.async false
set_option linter.all false
set_option maxRecDepth 100000
set_option Elab.async false
set_option linter.all false
set_option maxRecDepth 100000
/-! Ev, part A: a small pure interpreter. Values D, objects O, a store (list of objects, addressed by place), expressions Ex, statements Sx. -/
namespace Ev
open PySem L2

/-- values: the scalars, tuples by structure, everything mutable by its place in the store -/
inductive D where
  | non | bl (b : Bool) | int (i : Int) | str (x : Str) | tup (ds : List D) | ref (n : Nat) | fn (n : Nat) | cls (n : Nat)
  deriving Inhabited
mutual
def D.beq : D → D → Bool
  | .non, .non => true | .bl a, .bl b => a == b | .int a, .int b => a == b | .str a, .str b => a == b
  | .tup a, .tup b => D.beqs a b | .ref a, .ref b => a == b | .fn a, .fn b => a == b | .cls a, .cls b => a == b
  | _, _ => false
def D.beqs : List D → List D → Bool
  | [], [] => true | a :: as, b :: bs => D.beq a b && D.beqs as bs | _, _ => false
end
mutual
theorem D.beq_eq : ∀ a b : D, D.beq a b = true → a = b
  | .non, b, h => by cases b <;> simp_all [D.beq]
  | .bl _, b, h => by cases b <;> simp_all [D.beq]
  | .int _, b, h => by cases b <;> simp_all [D.beq]
  | .str _, b, h => by cases b <;> simp_all [D.beq]
  | .tup x, b, h => by
    cases b with
    | tup y => rw [D.beqs_eq x y (by simpa [D.beq] using h)]
    | _ => simp [D.beq] at h
  | .ref _, b, h => by cases b <;> simp_all [D.beq]
  | .fn _, b, h => by cases b <;> simp_all [D.beq]
  | .cls _, b, h => by cases b <;> simp_all [D.beq]
theorem D.beqs_eq : ∀ a b : List D, D.beqs a b = true → a = b
  | [], b, h => by cases b <;> simp_all [D.beqs]
  | x :: xs, b, h => by
    cases b with
    | nil => simp [D.beqs] at h
    | cons y ys =>
      rw [D.beqs, Bool.and_eq_true] at h
      rw [D.beq_eq x y h.1, D.beqs_eq xs ys h.2]
end
mutual
theorem D.beq_refl : ∀ a : D, D.beq a a = true
  | .non => by simp [D.beq] | .bl _ => by simp [D.beq] | .int _ => by simp [D.beq] | .str _ => by simp [D.beq]
  | .tup x => by rw [D.beq]; exact D.beqs_refl x
  | .ref _ => by simp [D.beq] | .fn _ => by simp [D.beq] | .cls _ => by simp [D.beq]
theorem D.beqs_refl : ∀ a : List D, D.beqs a a = true
  | [] => by simp [D.beqs]
  | x :: xs => by rw [D.beqs, D.beq_refl x, D.beqs_refl xs]; rfl
end
instance : DecidableEq D := fun a b => if h : D.beq a b = true then isTrue (D.beq_eq a b h) else isFalse fun e => h (by rw [e]; exact D.beq_refl b)
/-- objects: a list, a dict (keys ints and texts; keys tuples of them), an instance with its fields; lk: one that must not be changed now -/
inductive O where
  | lst (ds : List D) | dK (kvs : List (Key × D)) | dT (kvs : List (List Key × D)) | ins (c : Nat) (fs : List (Nat × D)) | exn (c : Nat) (fs : List (Nat × D)) | lk (o : O)
  deriving Inhabited, DecidableEq
abbrev Store := List O
/-- an exception held as a value -/
def isX : O → Bool | .exn _ _ => true | _ => false
abbrev Env := List (Option D)
/-- what an expression gives: a value, or an object that nobody else holds -/
inductive T where
  | v (d : D) | t (o : O)
  deriving Inhabited, DecidableEq
inductive R (α : Type) where
  | ok (a : α) (S : Store) | ex (c : Nat) (dd : List D) (S : Store) | bad
namespace R
def bind {α β : Type} (r : R α) (f : α → Store → R β) : R β := match r with
  | .ok a S => f a S | .ex c dd S => .ex c dd S | .bad => .bad
/-- no exception may come out -/
def nox {α : Type} (r : R α) : R α := match r with
  | .ok a S => .ok a S | _ => .bad
def map {α β : Type} (f : α → β) (r : R α) : R β := match r with
  | .ok a S => .ok (f a) S | .ex c dd S => .ex c dd S | .bad => .bad
end R
def ofO {α : Type} (S : Store) : Option α → R α | some a => .ok a S | none => .bad

def alloc : T → Store → D × Store
  | .v d, S => (d, S)
  | .t o, S => (.ref S.length, S ++ [o])
def R.alloc (r : R T) : R D := r.bind fun t S => .ok (Ev.alloc t S).1 (Ev.alloc t S).2

/-! ### reading -/
def unlk : O → O | .lk o => o | o => o
/-- the object that is meant, as it may be read -/
def objR (S : Store) : T → Option O
  | .v (.ref n) => (S[n]?).map unlk
  | .t o => some o
  | _ => none
/-- .. as it may be written -/
def objW (S : Store) : T → Option O
  | .v (.ref n) => S[n]?
  | .t o => some o
  | _ => none
def lstR (S : Store) (t : T) : Option (List D) := match objR S t with | some (.lst ds) => some ds | _ => none
def lstW (S : Store) (t : T) : Option (List D) := match objW S t with | some (.lst ds) => some ds | _ => none
/-- the items of a list or a tuple -/
def seqR (S : Store) : T → Option (List D)
  | .v (.tup ds) => some ds
  | t => lstR S t

mutual
def toPyW (f : Nat → Option PyData) : D → Option PyData
  | .non => some .none | .bl b => some (.bool b) | .int i => some (.int i) | .str x => some (.str x)
  | .tup ds => (toPysW f ds).map .tuple
  | .ref n => f n
  | .fn _ => none | .cls _ => none
def toPysW (f : Nat → Option PyData) : List D → Option (List PyData)
  | [] => some []
  | d :: ds => (toPyW f d).bind fun p => (toPysW f ds).map (p :: ·)
end
def refPy : Nat → Store → Nat → Option PyData
  | 0, _, _ => none
  | k + 1, S, n => (lstR S (.v (.ref n))).bind fun ds => (toPysW (refPy k S) ds).map .list
def toPy (S : Store) : T → Option PyData
  | .v d => toPyW (refPy 3 S) d
  | .t (.lst ds) => (toPysW (refPy 3 S) ds).map .list
  | _ => none

def truth (S : Store) : T → Option Bool
  | .v .non => some false | .v (.bl b) => some b | .v (.int i) => some (i != 0)
  | .v (.str x) => if x.length ≤ sizeLine then some ((x.length : Int) != 0) else none
  | .v (.tup ds) => some (!ds.isEmpty)
  | .v (.fn _) => none | .v (.cls _) => none
  | t => match objW S t with
    | some (.lst ds) => some (!ds.isEmpty)
    | some (.lk (.lst ds)) => some (!ds.isEmpty)
    | some (.dK kvs) => some (!kvs.isEmpty)
    | _ => none

/-! ### operators -/
inductive Op2 where | add | sub | mul | fdiv | mod | pow | xor | shl | shr | band | bor
  deriving DecidableEq
inductive Cm where | lt | le | gt | ge | eq | ne | mem | nmem | is | nis
  deriving DecidableEq
def B64 (i : Int) : Bool := decide (-(2 ^ 64) < i) && decide (i < 2 ^ 64)
def opI : Op2 → Int → Int → Option Int
  | .add, i, j => some (i + j)
  | .sub, i, j => some (i - j)
  | .mul, i, j => if B64 i || B64 j then some (i * j) else none
  | .fdiv, i, j => if 0 < j ∧ j < 1073741824 then some (i / j) else none
  | .mod, i, j => if 0 < j then some (i % j) else none
  | .pow, i, j => if 0 ≤ j ∧ j ≤ 1000000 ∧ i.natAbs < 2 ^ 64 then some (i ^ j.toNat) else none
  | .shl, i, j => if 0 ≤ j ∧ j ≤ 1000000 ∧ i.natAbs < 2 ^ 64 then some (i * 2 ^ j.toNat) else none
  | .shr, i, j => if 0 ≤ j then some (i / 2 ^ j.toNat) else none
  | .xor, i, j => some (Builtin.bitXor i j)
  | .band, i, j => some (Builtin.bitAnd i j)
  | .bor, i, j => some (Builtin.bitOr i j)
def opL (S : Store) : Op2 → T → T → Option T
  | .add, a, b => match lstW S a, lstW S b with
    | some xs, some ys => if xs.length + ys.length ≤ sizeLine then some (.t (.lst (xs ++ ys))) else none
    | _, _ => none
  | .mul, a, .v (.int k) => match lstW S a with
    | some xs => if -(2 ^ 63) ≤ k ∧ k < 2 ^ 63 ∧ xs.length * k.toNat ≤ sizeLine then some (.t (.lst (List.replicate k.toNat xs).flatten)) else none
    | _ => none
  | _, _, _ => none
def opE (S : Store) (o : Op2) (a b : T) : Option T := match o, a, b with
  | o, .v (.int i), .v (.int j) => (opI o i j).map fun z => .v (.int z)
  | .add, .v (.str x), .v (.str y) => if x.length + y.length ≤ sizeLine then some (.v (.str (x ++ y))) else none
  | .add, .v (.tup xs), .v (.tup ys) => if xs.length + ys.length ≤ sizeLine then some (.v (.tup (xs ++ ys))) else none
  | .mul, .v (.tup xs), .v (.int k) => if xs ≠ [] ∧ 2 ≤ k ∧ k ≤ 1000 ∧ xs.length ≤ 1000 then some (.v (.tup (List.replicate k.toNat xs).flatten)) else none
  | o, a, b => opL S o a b
def intsOf : List D → Option (List Int)
  | [] => some []
  | .int i :: r => (intsOf r).map (i :: ·)
  | _ => none
def tupsOf : List D → Option (List (List Int))
  | [] => some []
  | .tup ds :: r => (intsOf ds).bind fun is => (tupsOf r).map (is :: ·)
  | _ => none
def ltD : D → D → Option Bool
  | .int i, .int j => some (decide (i < j))
  | .str x, .str y => some (decide (x.cps.toList < y.cps.toList))
  | .tup a, .tup b => match intsOf a, intsOf b with
    | some xs, some ys => some (HT.lexLt xs ys)
    | _, _ => none
  | _, _ => none
def eqE (S : Store) (a b : T) : Option Bool := match toPy S a, toPy S b with
  | some p, some q => if SeqAt.shaped p ∧ SeqAt.shaped q then some (PyData.eqv p q) else none
  | _, _ => none
def flatD : D → Bool | .non | .bl _ | .int _ | .str _ => true | _ => false
def eqF : D → D → Bool
  | .non, .non => true
  | .bl a, .bl b => a == b
  | .bl a, .int j => (if a then 1 else 0) == j
  | .int i, .bl b => i == (if b then 1 else 0)
  | .int a, .int b => a == b
  | .str a, .str b => a == b
  | _, _ => false
def valK {κ : Type} [DecidableEq κ] (k : κ) : List (κ × D) → Option D
  | [] => none
  | (x, d) :: r => if x = k then some d else valK k r
def keyOf : D → Option Key
  | .int i => some (.inl i) | .str x => some (.inr x) | _ => none
def keysOf : List D → Option (List Key)
  | [] => some []
  | d :: r => (keyOf d).bind fun k => (keysOf r).map (k :: ·)
def putD {κ : Type} [DecidableEq κ] (kvs : List (κ × D)) (k : κ) (v : D) : List (κ × D) :=
  if (kvs.any fun kv => decide (kv.1 = k)) = true then kvs.map (fun kv => if kv.1 = k then (kv.1, v) else kv) else kvs ++ [(k, v)]
/-- an entry is put into a dict; an empty one takes any kind of key -/
def dSet (o : O) (k v : D) : Option O := match o with
  | .dK kvs => (match k with
    | .tup ds => if kvs.isEmpty = true then (keysOf ds).map fun ks => .dT [(ks, v)] else none
    | k => (keyOf k).bind fun q => if kvs.length < sizeLine then some (.dK (putD kvs q v)) else none)
  | .dT kvs => (match k with
    | .tup ds => (keysOf ds).bind fun ks => if kvs.length < sizeLine then some (.dT (putD kvs ks v)) else none
    | _ => none)
  | _ => none
def keyD : Key → D | .inl i => .int i | .inr x => .str x
def intKs {α : Type} : List (Key × α) → Option (List Int)
  | [] => some []
  | (.inl i, _) :: r => (intKs r).map (i :: ·)
  | _ => none
def maxL : List Int → Option Int
  | [] => none
  | x :: r => some (r.foldl (fun a b => if b > a then b else a) x)
def minL : List Int → Option Int
  | [] => none
  | x :: r => some (r.foldl (fun a b => if b < a then b else a) x)
def isDct (S : Store) (t : T) : Bool := match objR S t with | some (.dK _) => true | _ => false
def isTupD : D → Bool | .tup _ => true | _ => false
def allTup (S : Store) (t : T) : Bool := match lstR S t with | some ds => ds.all isTupD | none => false
/-- x in t -/
def memE (S : Store) (x t : T) : Option Bool := match t with
  | .v (.tup ds) => match x with
    | .v d => if flatD d ∧ ds.all flatD then some (ds.any fun z => eqF z d) else (match toPy S (.v d), toPy S (.v (.tup ds)) with
      | some p, some (.tuple qs) => if SeqAt.shaped p ∧ SeqAt.shaped (.tuple qs) then some (qs.any fun z => PyData.eqv z p) else none
      | _, _ => none)
    | _ => none
  | t => match objR S t with
    | some (.lst _) => match toPy S x, toPy S t with
      | some p, some (.list qs) => if SeqAt.shaped p ∧ SeqAt.shaped (.list qs) then some (qs.any fun z => PyData.eqv z p) else none
      | _, _ => if isDct S x && allTup S t then some false else none
    | some (.dK kvs) => match x with
      | .v (.tup ds) => if kvs.isEmpty = true then (keysOf ds).map fun _ => false else none
      | .v d => (keyOf d).map fun k => (valK k kvs).isSome
      | _ => none
    | some (.dT kvs) => match x with
      | .v (.tup ds) => (keysOf ds).map fun k => (valK k kvs).isSome
      | _ => none
    | _ => none
def isE (a b : T) : Option Bool := match a, b with
  | a, .v .non => some (decide (a = .v .non))
  | .v (.bl x), .v (.bl y) => some (decide (x = y))
  | _, _ => none
def cmpI : Cm → Int → Int → Option Bool
  | .lt, i, j => some (decide (i < j)) | .le, i, j => some (decide (i ≤ j)) | .gt, i, j => some (decide (j < i)) | .ge, i, j => some (decide (j ≤ i))
  | _, _, _ => none
def cmpE (S : Store) (o : Cm) (a b : T) : Option Bool := match o with
  | .eq => eqE S a b
  | .ne => (eqE S a b).map (!·)
  | .mem => memE S a b
  | .nmem => (memE S a b).map (!·)
  | .is => isE a b
  | .nis => (isE a b).map (!·)
  | .lt => match a, b with
    | .v x, .v y => ltD x y
    | _, _ => none
  | o => match a, b with
    | .v (.int i), .v (.int j) => cmpI o i j
    | _, _ => none

/-! ### built-ins -/
inductive Ty where | b (s : String) | c (n : Nat) | ve
  deriving DecidableEq
inductive Bi where | len | all | any | tuple | list | int | abs | sorted | sum | max | min | bool | str
  deriving DecidableEq
inductive Me where | append | pop | reverse | extend | get
  deriving DecidableEq
/-- the built-in type of a value -/
def tyB (S : Store) : T → Option String
  | .v .non => some "NoneType" | .v (.bl _) => some "bool" | .v (.int _) => some "int" | .v (.str _) => some "str" | .v (.tup _) => some "tuple"
  | .v (.fn _) => none | .v (.cls _) => none
  | t => match objR S t with
    | some (.lst _) => some "list" | some (.dK _) => some "dict" | _ => none
/-- the class of an instance -/
def tyC (S : Store) (t : T) : Option Nat := match objW S t with | some (.ins c _) => some c | _ => none
/-- the class of an exception held as a value -/
def tyX (S : Store) (t : T) : Option Nat := match objW S t with | some (.exn c _) => some c | _ => none
def blsOf : List D → Option (List Bool)
  | [] => some []
  | .bl b :: r => (blsOf r).map (b :: ·)
  | _ => none
def insI (x : Int) : List Int → List Int
  | [] => [x]
  | y :: r => if x ≤ y then x :: y :: r else y :: insI x r
def sortI : List Int → List Int
  | [] => []
  | x :: r => insI x (sortI r)
def insL (x : List Int) : List (List Int) → List (List Int)
  | [] => [x]
  | y :: r => if HT.lexLt y x = true then y :: insL x r else x :: y :: r
def sortL : List (List Int) → List (List Int)
  | [] => []
  | x :: r => insL x (sortL r)
def tupI (xs : List Int) : D := .tup (xs.map D.int)
def sortD (ds : List D) : Option (List D) := match intsOf ds with
  | some is => some ((sortI is).map D.int)
  | none => (tupsOf ds).map fun xs => (sortL xs).map tupI
def atD (ds : List D) (i : Int) : Option D := atI ds i
def cut (xs : List D) (lo hi : Option Int) : List D := (xs.drop (HT.sIx xs.length 0 lo)).take (HT.sIx xs.length xs.length hi - HT.sIx xs.length 0 lo)
def intO : T → Option Int | .v (.int i) => some i | _ => none
end Ev
set_option Elab.async false
set_option linter.all false
set_option maxRecDepth 100000
/-! Ev, part B: expressions, statements, what they give. -/
namespace Ev
open PySem L2

inductive Kd where
  | op (o : Op2) | neg | cmp (o : Cm) | idx | slc (k : Nat) | rv | isi (t : Ty) | bi (b : Bi) | fld (f : Nat)
  | dct | max2 | min2 | bk
/-- .. whose parts are laid before they are handed on -/
inductive Ka where | tup | lst | call (f : Nat) | mk (c : Nat) | mkx (c : Nat) (f : Option Nat)
inductive Tg where | var (i : Nat) | tup (ts : List Tg)
inductive Ik where | seq | rng | enum | zip | rev | keys
inductive Ex where
  | var (i : Nat) | cst (d : D) | nd (k : Kd) (es : List Ex) | na (k : Ka) (es : List Ex) | and (a b : Ex) | or (a b : Ex) | not (a : Ex) | ite (c a b : Ex) | ch (o o' : Cm) (a b c : Ex)
  | lc (t : Tg) (ik : Ik) (ia : List Ex) (cs : List Ex) (el : Ex) (own : List Nat)
  | dc (t : Tg) (ik : Ik) (ia : List Ex) (cs : List Ex) (ke ve : Ex) (own : List Nat)
  | sl (a l h : Ex) | meth (m : Me) (o : Ex) (es : List Ex) | um (m : Nat) (o : Ex) (es : List Ex)
inductive Sx where
  | set (t : Tg) (e : Ex) | par (is : List Nat) (es : List Ex) | sub (o i e : Ex) | fldS (o : Ex) (f : Nat) (e : Ex) | aug (i : Nat) (o : Op2) (e : Ex)
  | ex (e : Ex) | ret (e : Ex) | retN | nop | brk | cnt
  | ite (c : Ex) (a b : List Sx) | fr (t : Tg) (ik : Ik) (ia : List Ex) (b : List Sx) | whl (c : Ex) (b : List Sx)
  | rse (c : Nat) (es : List Ex)
  | tr (b : List Sx) (c : Nat) (i : Nat) (su : List Nat)
  | die
/-- where control goes on -/
inductive Fl where | nx (σ : Env) | rt (d : D) | bk (σ : Env) | ct (σ : Env) | xc (σ : Env) (c : Nat) (dd : List D)
/-- an expression's end within a statement -/
def R.cat {α : Type} (r : R α) (σ : Env) (f : α → Store → R Fl) : R Fl := match r with
  | .ok a S => f a S | .ex c dd S => .ok (.xc σ c dd) S | .bad => .bad

/-- the calls: of a def, of a class, and which def a method of a class is; sb: is the first class the second or below it -/
structure Cxt where
  call : Nat → List D → Store → R D
  mak : Nat → List D → Store → R D
  um : Nat → Nat → Option Nat
  sb : Nat → Nat → Bool
  at_ : Nat → Nat → Bool
  ic : Nat → Bool
  rs : Nat → Bool
  xi : Nat → Bool
  xa : Nat → Nat → Bool
  lv : Bool
  eq : Nat → Option Nat
  cj : Nat → List D → Store → R D

def updS (S : Store) (n : Nat) (o : O) : Store := S.set n o

def biE (S : Store) : Bi → T → Option T
  | .len, t => match t with
    | .v (.str x) => if x.length ≤ sizeLine then some (.v (.int x.length)) else none
    | t => match seqR S t with
      | some ds => some (.v (.int ds.length))
      | none => match objW S t with
        | some (.dK kvs) => some (.v (.int kvs.length))
        | _ => none
  | .all, t => (lstR S t).bind fun ds => (blsOf ds).map fun bs => .v (.bl (bs.all id))
  | .any, t => (lstR S t).bind fun ds => (blsOf ds).map fun bs => .v (.bl (bs.any id))
  | .tuple, t => (seqR S t).map fun ds => .v (.tup ds)
  | .list, t => (seqR S t).map fun ds => .t (.lst ds)
  | .int, t => match t with
    | .v (.int i) => some (.v (.int i))
    | .v (.bl b) => some (.v (.int (if b then 1 else 0)))
    | _ => none
  | .abs, t => (intO t).map fun i => .v (.int (if i < 0 then -i else i))
  | .sorted, t => match lstR S t with
    | some ds => (sortD ds).map fun rs => .t (.lst rs)
    | none => match objR S t with
      | some (.dK kvs) => if kvs.length < 64 then (intKs kvs).map fun is => .t (.lst ((sortI is).map D.int)) else none
      | _ => none
  | .max, t => (lstR S t).bind fun ds => (intsOf ds).bind fun is => (maxL is).map fun i => .v (.int i)
  | .min, t => (lstR S t).bind fun ds => (intsOf ds).bind fun is => (minL is).map fun i => .v (.int i)
  | .sum, t => (lstR S t).bind fun ds => (intsOf ds).map fun is => .v (.int is.sum)
  | .str, t => match t with
    | .v (.int i) => if i.natAbs.log2 < 1920 then some (.v (.str (toString i))) else none
    | _ => none
  | .bool, t => match t with
    | .v (.int i) => some (.v (.bl (i != 0)))
    | .v (.bl b) => some (.v (.bl b))
    | _ => none
def meOk (S : Store) : Me → T → Bool
  | .append, t => (lstW S t).isSome
  | .pop, t => (lstW S t).isSome
  | .reverse, t => (lstW S t).isSome
  | _, _ => false
def meE (S : Store) : Me → T → List D → R T
  | .append, .v (.ref n), [d] => match S[n]? with
    | some (.lst ds) => if ds.length < sizeLine then .ok (.v .non) (S.set n (.lst (ds ++ [d]))) else .bad
    | _ => .bad
  | .pop, .v (.ref n), [] => match S[n]? with
    | some (.lst ds) => match ds[ds.length - 1]? with
      | some d => .ok (.v d) (S.set n (.lst ds.dropLast))
      | none => .bad
    | _ => .bad
  | .reverse, .v (.ref n), [] => match S[n]? with
    | some (.lst ds) => .ok (.v .non) (S.set n (.lst ds.reverse))
    | _ => .bad
  | _, _, _ => .bad
def idxE (S : Store) : T → T → Option D
  | .v (.str x), .v (.int i) => if x.length ≤ sizeLine then (atI x.cps.toList i).map fun c => .str ⟨#[c]⟩ else none
  | a, .v (.int i) => match seqR S a with
    | some ds => atI ds i
    | none => match objR S a with
      | some (.dK kvs) => valK (Sum.inl i : Key) kvs
      | _ => none
  | a, .v (.str x) => match objR S a with
    | some (.dK kvs) => valK (Sum.inr x : Key) kvs
    | _ => none
  | _, _ => none
def slcE (S : Store) (a : T) (lo hi : Option Int) : Option T := match a with
  | .v (.tup ds) => some (.v (.tup (cut ds lo hi)))
  | .v (.str _) => none
  | t => (lstR S t).map fun ds => .t (.lst (cut ds lo hi))
/-- from behind -/
def bkE (S : Store) : T → Option T
  | .v (.tup ds) => some (.v (.tup ds.reverse))
  | t => (lstR S t).map fun ds => .t (.lst ds.reverse)
/-- its built-in type or its class is known -/
def knownT (cx : Cxt) (S : Store) (t : T) : Bool := (tyB S t).isSome || (match tyC S t with | some m => cx.ic m | none => false)
/-- == or != of an instance with its own __eq__: what is called, with what -/
def ownQ (cx : Cxt) (S : Store) (o : Cm) (a b : T) : Option (Nat × D × D) := if o = .eq ∨ o = .ne then (match a, b with
  | .v (.ref n), .v y => (match S[n]? with
    | some (.ins c _) => if knownT cx S (.v y) = true then (cx.eq c).map fun f => (f, .ref n, y) else none
    | _ => none)
  | _, _ => none) else none
def negB (o : Cm) (b : Bool) : Bool := if o = .ne then !b else b
def ownK (o : Cm) : D → Store → R T := fun d S => match d with | .bl r => .ok (.v (.bl (negB o r))) S | _ => .bad
def app (cx : Cxt) (S : Store) : Kd → List T → R T
  | .op o, [a, b] => ofO S (opE S o a b)
  | .neg, [t] => ofO S ((intO t).map fun i => .v (.int (-i)))
  | .cmp o, [a, b] => match ownQ cx S o a b with
    | some q => (cx.cj q.1 [q.2.1, q.2.2] S).nox.bind (ownK o)
    | none => ofO S ((cmpE S o a b).map fun c => .v (.bl c))
  | .idx, [a, i] => ofO S ((idxE S a i).map T.v)
  | .slc 0, [a] => ofO S (slcE S a none none)
  | .slc 1, [a, l] => ofO S ((intO l).bind fun i => slcE S a (some i) none)
  | .slc 2, [a, h] => ofO S ((intO h).bind fun j => slcE S a none (some j))
  | .isi t, [a] => match t with
    | .ve => match tyX S a with
      | some m => if cx.xi m = true then .ok (.v (.bl (cx.sb m 1000))) S else .bad
      | none => .bad
    | .b s => match tyB S a with
      | some u => ofO S ((kitB u s).map fun c => .v (.bl c))
      | none => match tyC S a with
        | some m => if cx.ic m = true then .ok (.v (.bl false)) S else .bad
        | none => .bad
    | .c n => match tyC S a with
      | some m => if cx.ic m = true then .ok (.v (.bl (cx.sb m n))) S else .bad
      | none => match tyX S a with
        | some m => if cx.xi m = true then .ok (.v (.bl (cx.sb m n))) S else .bad
        | none => match tyB S a with
          | some _ => .ok (.v (.bl false)) S
          | none => .bad
  | .bi b, [t] => ofO S (biE S b t)
  | .max2, [.v (.int i), .v (.int j)] => .ok (.v (.int (if j > i then j else i))) S
  | .min2, [.v (.int i), .v (.int j)] => .ok (.v (.int (if j < i then j else i))) S
  | .fld f, [t] => match objW S t with
    | some (.ins c fs) => if cx.at_ c f = true then ofO S ((fs.lookup f).map T.v) else .bad
    | some (.exn c fs) => if cx.xa c f = true then ofO S ((fs.lookup f).map T.v) else .bad
    | _ => .bad
  | .dct, [] => .ok (.t (.dK [])) S
  | .bk, [t] => ofO S (bkE S t)
  | _, _ => .bad

def appA (cx : Cxt) (S : Store) : Ka → List D → R T
  | .tup, ds => if ds.length ≤ sizeLine then .ok (.v (.tup ds)) S else .bad
  | .lst, ds => if ds.length ≤ sizeLine then .ok (.t (.lst ds)) S else .bad
  | .call f, ds => (cx.call f ds S).bind fun d S' => .ok (.v d) S'
  | .mk c, ds => (cx.mak c ds S).bind fun d S' => .ok (.v d) S'
  | .mkx c none, [] => if cx.lv = true then .ok (.v (.ref S.length)) (S ++ [.exn c []]) else .bad
  | .mkx c (some f), [d] => if cx.lv = true then .ok (.v (.ref S.length)) (S ++ [.exn c [(f, d)]]) else .bad
  | .mkx _ _, _ => .bad

mutual
def bindT : Tg → D → Env → Option Env
  | .var i, d, σ => if i < σ.length then some (σ.set i (some d)) else none
  | .tup ts, d, σ => match d with
    | .tup ds => bindTs ts ds σ
    | _ => none
def bindTs : List Tg → List D → Env → Option Env
  | [], [], σ => some σ
  | t :: ts, d :: ds, σ => (bindT t d σ).bind fun σ' => bindTs ts ds σ'
  | _, _, _ => none
end
def wipeE (σ : Env) : List Nat → Env
  | [] => σ
  | i :: r => (wipeE σ r).set i none

/-- what a for goes through, and what must stay as it is meanwhile -/
def iterOf (S : Store) : Ik → List T → Option (List D × (Store → Bool))
  | .seq, [.v (.tup ds)] => some (ds, fun _ => true)
  | .seq, [.v (.ref n)] => (lstR S (.v (.ref n))).map fun ds => (ds, fun S' => decide (S'[n]? = S[n]?))
  | .seq, [.t (.lst ds)] => some (ds, fun _ => true)
  | .rng, [.v (.int j)] => if -(2 ^ 62) ≤ j ∧ j ≤ 16777216 then some ((List.range j.toNat).map fun (i : Nat) => .int (0 + (i : Int)), fun _ => true) else none
  | .rng, [.v (.int i), .v (.int j)] => if -(2 ^ 62) ≤ i ∧ i < 2 ^ 62 ∧ -(2 ^ 62) ≤ j ∧ j < 2 ^ 62 ∧ j - i ≤ 16777216 then some ((List.range (j - i).toNat).map fun (m : Nat) => .int (i + (m : Int)), fun _ => true) else none
  | .rng, [.v (.int i), .v (.int j), .v (.int c)] => if -(2 ^ 62) ≤ i ∧ i < 2 ^ 62 ∧ -(2 ^ 62) ≤ j ∧ j < 2 ^ 62 ∧ c = -1 ∧ i - j ≤ 16777216 then some ((List.range (i - j).toNat).map fun (m : Nat) => .int (i + (m : Int) * c), fun _ => true) else none
  | .enum, [t] => match t with
    | .v (.tup ds) => some (ds.mapIdx fun i d => .tup [.int (i : Int), d], fun _ => true)
    | .v (.ref n) => (lstR S (.v (.ref n))).map fun ds => (ds.mapIdx fun i d => .tup [.int (i : Int), d], fun S' => decide (S'[n]? = S[n]?))
    | .t (.lst ds) => some (ds.mapIdx fun i d => .tup [.int (i : Int), d], fun _ => true)
    | _ => none
  | _, _ => none

def lcL (bnd : D → Env → Option Env) (tst : Env → Store → R Bool) (el : Env → Store → R D) (gd : Store → Bool) (σ : Env) : List D → Store → R (List D)
  | [], S => if gd S = true then .ok [] S else .bad
  | d :: ds, S => if gd S = true then match bnd d σ with
      | none => .bad
      | some σ' => (tst σ' S).bind fun b S1 => if b = true then (el σ' S1).bind fun y S2 => (lcL bnd tst el gd σ ds S2).map (y :: ·) else lcL bnd tst el gd σ ds S1
    else .bad
def dcL (bnd : D → Env → Option Env) (tst : Env → Store → R Bool) (ke ve : Env → Store → R D) (gd : Store → Bool) (σ : Env) : List D → O → Store → R O
  | [], o, S => if gd S = true then .ok o S else .bad
  | d :: ds, o, S => if gd S = true then match bnd d σ with
      | none => .bad
      | some σ' => (tst σ' S).bind fun b S1 => if b = true then (ke σ' S1).bind fun k S2 => (ve σ' S2).bind fun v S3 => match dSet o k v with
          | some o' => dcL bnd tst ke ve gd σ ds o' S3
          | none => .bad
        else dcL bnd tst ke ve gd σ ds o S1
    else .bad
/-- a dict of a variable that is gone through: it is locked meanwhile -/
def lockOf : Ik → List Ex → List T → Store → Option (Nat × List (Key × D))
  | .seq, [.var _], [.v (.ref n)], S => match S[n]? with
    | some (.dK kvs) => if kvs.length ≤ 4096 then some (n, kvs) else none
    | _ => none
  | _, _, _, _ => none
def lckR (q : Option (Nat × List (Key × D))) (f : Store → (Store → Bool) → List D → R (List D)) (S : Store) : R T := match q with
  | none => .bad
  | some p => (f (S.set p.1 (.lk (.dK p.2))) (fun S' => decide (S'[p.1]? = some (.lk (.dK p.2)))) (p.2.map fun kv => keyD kv.1)).nox.bind fun ds S2 =>
      if S2[p.1]? = some (.lk (.dK p.2)) then .ok (.t (.lst ds)) (S2.set p.1 (.dK p.2)) else .bad
def frL (bnd : D → Env → Option Env) (body : Env → Store → R Fl) (gd : Store → Bool) : List D → Env → Store → R Fl
  | [], σ, S => if gd S = true then .ok (.nx σ) S else .bad
  | d :: ds, σ, S => if gd S = true then match bnd d σ with
      | none => .bad
      | some σ' => (body σ' S).bind fun f S1 => match f with
        | .nx σ2 => frL bnd body gd ds σ2 S1
        | .ct σ2 => frL bnd body gd ds σ2 S1
        | .bk σ2 => .ok (.nx σ2) S1
        | .rt d => .ok (.rt d) S1
        | .xc σ2 c dd => .ok (.xc σ2 c dd) S1
    else .bad
def whN (c : Env → Store → R Bool) (body : Env → Store → R Fl) : Nat → Env → Store → Option (R Fl)
  | 0, _, _ => none
  | n + 1, σ, S => match c σ S with
    | .ok true S1 => match body σ S1 with
      | .ok (.nx σ2) S2 => whN c body n σ2 S2
      | .ok (.ct σ2) S2 => whN c body n σ2 S2
      | .ok (.bk σ2) S2 => some (.ok (.nx σ2) S2)
      | r => some r
    | .ok false S1 => some (.ok (.nx σ) S1)
    | .ex c dd S1 => some (.ok (.xc σ c dd) S1)
    | .bad => some .bad
open Classical in
noncomputable def whE (c : Env → Store → R Bool) (body : Env → Store → R Fl) (σ : Env) (S : Store) : R Fl :=
  if h : ∃ n r, whN c body n σ S = some r then h.choose_spec.choose else .bad

structure Den where
  e : Env → Store → R T
  b : Env → Store → R Bool
def Den.of (f : Env → Store → R T) : Den := ⟨f, fun σ S => (f σ S).bind fun t S' => ofO S' (truth S' t)⟩
mutual
def den (cx : Cxt) : Ex → Den
  | .var i => .of fun σ S => ofO S ((σ[i]?.join).map T.v)
  | .cst d => .of fun σ S => .ok (.v d) S
  | .nd k es => .of fun σ S => (dens cx es σ S).bind fun ts S' => app cx S' k ts
  | .na k es => .of fun σ S => (ded cx es σ S).bind fun ds S' => appA cx S' k ds
  | .and a b => ⟨fun σ S => ((den cx a).e σ S).bind fun t S' => match t with
      | .v (.bl true) => (den cx b).e σ S'
      | .v (.bl false) => .ok (.v (.bl false)) S'
      | _ => .bad,
    fun σ S => ((den cx a).b σ S).bind fun c S' => if c = true then (den cx b).b σ S' else .ok false S'⟩
  | .or a b => ⟨fun σ S => ((den cx a).e σ S).bind fun t S' => match t with
      | .v (.bl false) => (den cx b).e σ S'
      | .v (.bl true) => .ok (.v (.bl true)) S'
      | _ => .bad,
    fun σ S => ((den cx a).b σ S).bind fun c S' => if c = true then .ok true S' else (den cx b).b σ S'⟩
  | .not a => ⟨fun σ S => ((den cx a).e σ S).bind fun t S' => match t with
      | .v (.bl c) => .ok (.v (.bl (!c))) S'
      | _ => .bad,
    fun σ S => ((den cx a).b σ S).bind fun c S' => .ok (!c) S'⟩
  | .ite c a b => ⟨fun σ S => ((den cx c).b σ S).bind fun x S' => if x = true then (den cx a).e σ S' else (den cx b).e σ S',
    fun σ S => ((den cx c).b σ S).bind fun x S' => if x = true then (den cx a).b σ S' else (den cx b).b σ S'⟩
  | .ch o o' a b c => .of fun σ S => ((den cx a).e σ S).bind fun x S1 => ((den cx b).e σ S1).bind fun y S2 => (ofO S2 (cmpE S2 o x y)).bind fun r S3 =>
      if r = true then ((den cx c).e σ S3).bind fun z S4 => ofO S4 ((cmpE S4 o' y z).map fun q => .v (.bl q)) else .ok (.v (.bl false)) S3
  | .lc t ik ia cs el own => .of fun σ S => (dens cx ia σ S).bind fun ts S' => match iterOf S' ik ts with
      | none => lckR (lockOf ik ia ts S') (fun S'' gd ds => lcL (bindT t) (dent cx cs) (fun σ S => ((den cx el).e σ S).alloc) gd (wipeE σ own) ds S'') S'
      | some p => (lcL (bindT t) (dent cx cs) (fun σ S => ((den cx el).e σ S).alloc) p.2 (wipeE σ own) p.1 S').nox.bind fun ds S2 => .ok (.t (.lst ds)) S2
  | .dc t ik ia cs ke ve own => .of fun σ S => (dens cx ia σ S).bind fun ts S' => match iterOf S' ik ts with
      | none => .bad
      | some p => (dcL (bindT t) (dent cx cs) (fun σ S => ((den cx ke).e σ S).alloc) (fun σ S => ((den cx ve).e σ S).alloc) p.2 (wipeE σ own) p.1 (.dK []) S').nox.bind fun o S2 => .ok (.t o) S2
  | .sl a l h => .of fun σ S => ((den cx a).e σ S).bind fun x S1 => ((den cx l).e σ S1).bind fun y S2 => match intO y with
      | none => .bad
      | some i => ((den cx h).e σ S2).bind fun z S3 => ofO S3 ((intO z).bind fun j => slcE S3 x (some i) (some j))
  | .meth m o es => .of fun σ S => ((den cx o).e σ S).bind fun t S1 => if meOk S1 m t = true then (ded cx es σ S1).bind fun ds S2 => meE S2 m t ds else .bad
  | .um m o es => .of fun σ S => ((den cx o).e σ S).bind fun t S1 => match t with
      | .v (.ref n) => match tyC S1 (.v (.ref n)) with
        | some c => match cx.um m c with
          | some f => (ded cx es σ S1).bind fun ds S2 => (cx.call f (.ref n :: ds) S2).bind fun d S3 => .ok (.v d) S3
          | none => .bad
        | none => .bad
      | _ => .bad
def dens (cx : Cxt) : List Ex → Env → Store → R (List T)
  | [], _, S => .ok [] S
  | e :: es, σ, S => ((den cx e).e σ S).bind fun t S1 => (dens cx es σ S1).bind fun ts S2 => .ok (t :: ts) S2
def ded (cx : Cxt) : List Ex → Env → Store → R (List D)
  | [], _, S => .ok [] S
  | e :: es, σ, S => ((den cx e).e σ S).alloc.bind fun d S1 => (ded cx es σ S1).bind fun ds S2 => .ok (d :: ds) S2
def dent (cx : Cxt) : List Ex → Env → Store → R Bool
  | [], _, S => .ok true S
  | c :: _, σ, S => (den cx c).b σ S
end

def putN (f : Nat) (v : D) : List (Nat × D) → List (Nat × D)
  | [] => [(f, v)]
  | (g, x) :: r => if g = f then (g, v) :: r else (g, x) :: putN f v r
def lstT (S : Store) : T → Option (List D)
  | .v (.tup _) => none
  | t => lstR S t
mutual
noncomputable def exS (cx : Cxt) : Sx → Env → Store → R Fl
  | .set t e => fun σ S => ((den cx e).e σ S).cat σ fun v S1 => match t with
      | .var i => if i < σ.length then .ok (.nx (σ.set i (some (alloc v S1).1))) (alloc v S1).2 else .bad
      | .tup ts => match v with
        | .v (.tup ds) => (ofO S1 (bindTs ts ds σ)).map Fl.nx
        | v => (ofO S1 ((lstR S1 v).bind fun ds => bindTs ts ds σ)).map Fl.nx
  | .par is es => fun σ S => (ded cx es σ S).cat σ fun ds S1 => (ofO S1 (bindTs (is.map Tg.var) ds σ)).map Fl.nx
  | .sub o i e => fun σ S => ((den cx e).e σ S).alloc.cat σ fun v S1 => ((den cx o).e σ S1).cat σ fun ov S2 => ((den cx i).e σ S2).cat σ fun iv S3 => match ov, iv with
      | .v (.ref n), .v (.int k) => match S3[n]? with
        | some (.lst ds) => match ixN ds.length k with
          | some j => .ok (.nx σ) (S3.set n (.lst (ds.set j v)))
          | none => .bad
        | _ => .bad
      | _, _ => .bad
  | .fldS o f e => fun σ S => ((den cx e).e σ S).alloc.cat σ fun v S1 => ((den cx o).e σ S1).cat σ fun ov S2 => match ov with
      | .v (.ref n) => match S2[n]? with
        | some (.ins c fs) => if cx.at_ c f = true ∧ fs.length < 1000 then .ok (.nx σ) (S2.set n (.ins c (putN f v fs))) else .bad
        | _ => .bad
      | _ => .bad
  | .aug i o e => fun σ S => match σ[i]?.join with
      | some (.int x) => ((den cx e).e σ S).cat σ fun v S1 => match v with
        | .v (.int y) => match opI o x y with
          | some z => if o = .add ∨ o = .sub then .ok (.nx (σ.set i (some (.int z)))) S1 else .bad
          | none => .bad
        | _ => .bad
      | _ => .bad
  | .ex e => fun σ S => ((den cx e).e σ S).cat σ fun _ S1 => .ok (.nx σ) S1
  | .ret e => fun σ S => ((den cx e).e σ S).alloc.cat σ fun d S1 => .ok (.rt d) S1
  | .retN => fun _ S => .ok (.rt .non) S
  | .nop => fun σ S => .ok (.nx σ) S
  | .brk => fun σ S => .ok (.bk σ) S
  | .cnt => fun σ S => .ok (.ct σ) S
  | .ite c a b => fun σ S => ((den cx c).b σ S).cat σ fun x S1 => if x = true then exSs cx a σ S1 else exSs cx b σ S1
  | .fr t ik ia b => fun σ S => (dens cx ia σ S).cat σ fun ts S1 => match iterOf S1 ik ts with
      | none => .bad
      | some p => frL (bindT t) (exSs cx b) p.2 p.1 σ S1
  | .whl c b => fun σ S => whE (fun σ S => (den cx c).b σ S) (exSs cx b) σ S
  | .rse c es => fun σ S => if cx.rs c = true then (ded cx es σ S).cat σ fun ds S1 => .ok (.xc σ c ds) S1 else .bad
  | .tr b c i su => fun σ S => match exSs cx b σ S with
      | .ok (.xc σ1 k dd) S1 => if cx.rs k = false ∨ cx.xi c = false ∨ σ1.length ≤ i then .bad else if cx.sb k c = true then .ok (.rt (.bl (su.all fun m => cx.sb k m))) S1 else .ok (.xc σ1 k dd) S1
      | r => r
  | .die => fun _ _ => .bad
noncomputable def exSs (cx : Cxt) : List Sx → Env → Store → R Fl
  | [] => fun σ S => .ok (.nx σ) S
  | s :: r => fun σ S => (exS cx s σ S).bind fun f S1 => match f with
      | .nx σ1 => exSs cx r σ1 S1
      | f => .ok f S1
end

/-! ### calls, garbage -/
mutual
def noRef (n : Nat) : D → Bool
  | .ref m => decide (m < n)
  | .tup ds => noRefs n ds
  | _ => true
def noRefs (n : Nat) : List D → Bool
  | [] => true
  | d :: ds => noRef n d && noRefs n ds
end
/-- what a call made and nobody holds is forgotten, if it changed nothing that stood -/
def gc (S : Store) (d : D) (S' : Store) : Store := if S'.take S.length = S ∧ noRef S.length d = true then S else S'
def gcX (S : Store) (dd : List D) (S' : Store) : Store := if S'.take S.length = S ∧ noRefs S.length dd = true then S else S'
structure Fd where
  ps : Nat
  ns : Nat
  body : List Sx
structure Tb where
  fs : List Fd
  ini : Nat → Option Nat
  um : Nat → Nat → Option Nat
  sb : Nat → Nat → Bool
  at_ : Nat → Nat → Bool
  ic : Nat → Bool
  rs : Nat → Bool
  xi : Nat → Bool
  xa : Nat → Nat → Bool
  eq : Nat → Option Nat
def mkE (call : Nat → List D → Store → R D) (ini : Nat → Option Nat) (c : Nat) (ds : List D) (S : Store) : R D := match ini c with
  | none => .bad
  | some f => (call f (.ref S.length :: ds) (S ++ [.ins c []])).bind fun d S1 => if d = .non then .ok (.ref S.length) S1 else .bad
def finE (S : Store) : R Fl → R D
  | .ok (.rt d) S1 => .ok d (gc S d S1)
  | .ok (.nx _) S1 => .ok .non (gc S .non S1)
  | .ok (.xc _ c dd) S1 => .ex c dd (gcX S dd S1)
  | _ => .bad
def badC : Nat → List D → Store → R D := fun _ _ _ => .bad
/-- one call: its inner calls by c, the __init__ of what it makes by j -/
noncomputable def stepK (tb : Tb) (k : Nat) (c j : Nat → List D → Store → R D) (f : Nat) (ds : List D) (S : Store) : R D := match tb.fs[f]? with
  | none => .bad
  | some fd => if ds.length = fd.ps then finE S (exSs ⟨c, mkE j tb.ini, tb.um, tb.sb, tb.at_, tb.ic, tb.rs, tb.xi, tb.xa, decide (2 ≤ k), tb.eq, j⟩ fd.body (ds.map some ++ List.replicate (fd.ns - ds.length) none) S) else .bad
noncomputable def runP (tb : Tb) : Nat → (Nat → List D → Store → R D) × (Nat → List D → Store → R D)
  | 0 => (badC, badC)
  | k + 1 => (stepK tb k (runP tb k).1 (runP tb k).2, (runP tb k).1)
noncomputable def runK (tb : Tb) (k : Nat) : Nat → List D → Store → R D := (runP tb k).1
noncomputable def runJ (tb : Tb) (k : Nat) : Nat → List D → Store → R D := (runP tb k).2
theorem runK_zero (tb : Tb) : runK tb 0 = badC := rfl
theorem runJ_zero (tb : Tb) : runJ tb 0 = badC := rfl
theorem runK_succ (tb : Tb) (k : Nat) : runK tb (k + 1) = stepK tb k (runK tb k) (runJ tb k) := rfl
theorem runJ_succ (tb : Tb) (k : Nat) : runJ tb (k + 1) = runK tb k := rfl
end Ev
set_option Elab.async false
set_option linter.all false
set_option maxRecDepth 100000
/-! Ev, part C: from PySem's trees to Ex and Sx. -/
namespace Ev
open PySem L2

/-- the names of the text: defs, classes, constants of the module, attributes, own methods -/
structure Tab where
  funs : List (Str × Nat)
  clss : List (Str × Nat)
  csts : List (Str × D)
  flds : List Str
  meths : List Str
  exs : List (Str × Nat × Option Nat)
def visC (sc : Scope) (x : Str) : Bool := match sc.names.lookup x with
  | some .local => true | some .cell => true | some .free => true | _ => false
def locC (sc : Scope) (x : Str) : Bool := match sc.names.lookup x with
  | some .local => true | some .cell => true | _ => false
def glC (sc : Scope) (x : Str) : Bool := decide (sc.names.lookup x = some .globalImplicit)
def okN (x : Str) : Bool := !(x == ("__debug__" : Str)) && !(x == ("__classdict__" : Str)) && !decide (x = ("__name__" : Str))
def slot (N : List Str) (x : Str) : Option Nat := match N.findIdx? (fun y => y == x) with
  | some i => if N[i]? = some x then some i else none
  | none => none
theorem slot_at {N : List Str} {x : Str} {i : Nat} (h : slot N x = some i) : N[i]? = some x := by
  unfold slot at h
  split at h
  · split at h
    · cases h; assumption
    · cases h
  · cases h
def binC : Operator → Option Op2
  | .Add => some .add | .Sub => some .sub | .Mult => some .mul | .FloorDiv => some .fdiv | .Mod => some .mod | .Pow => some .pow | .BitXor => some .xor
  | .LShift => some .shl | .RShift => some .shr | .BitAnd => some .band | .BitOr => some .bor | _ => none
def cmpC : CmpOp → Option Cm
  | .Lt => some .lt | .LtE => some .le | .Gt => some .gt | .GtE => some .ge | .Eq => some .eq | .NotEq => some .ne | .In => some .mem | .NotIn => some .nmem | .Is => some .is | .IsNot => some .nis
def isComp : Expr → Bool
  | .ListComp .. => true | .SetComp .. => true | .DictComp .. => true | _ => false
def isSet : Expr → Bool | .Set .. => true | _ => false
def isStar : Expr → Bool | .Starred .. => true | _ => false
def isSlice : Expr → Bool | .Slice .. => true | _ => false
def isCall0 : Expr → Bool | .Call (.Name ..) [] [] _ => true | _ => false
def isTup : Expr → Bool | .Tuple .. => true | _ => false
def plainT : Expr → Bool
  | .UnaryOp .Not _ _ => false | .BoolOp .. => false | .IfExp .. => false | .Compare .. => false | _ => true
def bi1 : List (Str × Bi) := [("len", .len), ("all", .all), ("any", .any), ("tuple", .tuple), ("list", .list), ("int", .int), ("abs", .abs), ("sorted", .sorted), ("sum", .sum), ("bool", .bool), ("str", .str), ("max", .max), ("min", .min)]
/-- the built-in classes that isinstance is asked for -/
def tyN (x : Str) : Option String := if x = "int" then some "int" else if x = "bool" then some "bool" else if x = "str" then some "str" else if x = "tuple" then some "tuple" else if x = "list" then some "list" else if x = "dict" then some "dict" else none
def me0 (x : Str) : Option Me := if x = "pop" then some .pop else if x = "reverse" then some .reverse else none
def me1 (x : Str) : Option Me := if x = "append" then some .append else none
/-- the list of all that is a built-in's name here -/
def bltns : List Str := ["len", "all", "any", "tuple", "list", "int", "abs", "sorted", "sum", "bool", "isinstance", "str", "dict", "max", "min", "range", "enumerate", "zip", "reversed"]
/-- [a, .., *b]: its parts -/
def endStar : List Expr → Option (List Expr × Expr)
  | [] => none
  | e :: r => match e, r with
    | .Starred b _, [] => some ([], b)
    | e, r => if isStar e = true then none else (endStar r).map fun p => (e :: p.1, p.2)
mutual
def cTg (N : List Str) (sc : Scope) : Nat → Expr → Option Tg
  | 0, _ => none
  | n + 1, e => match e with
    | .Name x _ => if locC sc x = true then (slot N x).map .var else none
    | .Tuple es _ _ => (cTgs N sc n es).map .tup
    | _ => none
def cTgs (N : List Str) (sc : Scope) : Nat → List Expr → Option (List Tg)
  | 0, _ => none
  | _ + 1, [] => some []
  | n + 1, e :: es => if isStar e = true then none else (cTg N sc n e).bind fun t => (cTgs N sc n es).map (t :: ·)
end
mutual
def tgS : Tg → List Nat
  | .var i => [i]
  | .tup ts => tgSs ts
def tgSs : List Tg → List Nat
  | [] => []
  | t :: ts => tgS t ++ tgSs ts
end
def ownOf (N : List Str) (scope : Scope) : List (Str × Nat) := scope.names.filterMap fun y => match y.2 with
  | .local => (slot N y.1).map fun i => (y.1, i)
  | .cell => (slot N y.1).map fun i => (y.1, i)
  | _ => none
def seqM {α β : Type} (f : α → Option β) : List α → Option (List β)
  | [] => some []
  | a :: as => (f a).bind fun b => (seqM f as).map (b :: ·)
section
variable (T : Tab) (N : List Str)
/-- what a loop or a comprehension goes through: its kind and its parts -/
def cIt (c : Expr → Option Ex) (sc : Scope) (e : Expr) : Option (Ik × List Ex) := match e with
  | .Call (.Name f _) args [] _ =>
    if (glC sc f && okN f && (T.funs.lookup f).isNone && (T.clss.lookup f).isNone && !args.any isStar) = true then
      (if f = "range" then (match args with
        | [a] => (c a).map fun x => (.rng, [x])
        | [a, b] => (c a).bind fun x => (c b).map fun y => (.rng, [x, y])
        | [a, b, d] => (c a).bind fun x => (c b).bind fun y => (c d).map fun z => (.rng, [x, y, z])
        | _ => none)
      else (c e).map fun x => (.seq, [x]))
    else (c e).map fun x => (.seq, [x])
  | e => (c e).map fun x => (.seq, [x])
def cE : Nat → Scope → Expr → Option Ex
  | 0, _, _ => none
  | n + 1, sc, e => match e with
    | .Constant c _ _ => match c with
      | .none => some (.cst .non) | .bool b => some (.cst (.bl b)) | .int i => some (.cst (.int i)) | .str x => some (.cst (.str x)) | _ => none
    | .Name x _ => if okN x = true then (if visC sc x = true then (slot N x).map .var else if glC sc x = true then (T.csts.lookup x).map .cst else none) else none
    | .BinOp a o b _ => (binC o).bind fun o' => (cE n sc a).bind fun a' => (cE n sc b).map fun b' => .nd (.op o') [a', b']
    | .UnaryOp o a _ => match o with
      | .Not => (cE n sc a).map .not
      | .USub => (cE n sc a).map fun a' => .nd .neg [a']
      | _ => none
    | .BoolOp o es pos => match o, es with
      | _, [] => none
      | _, [a] => cE n sc a
      | .And, a :: b :: r => (cE n sc a).bind fun a' => (cE n sc (.BoolOp .And (b :: r) pos)).map fun b' => .and a' b'
      | .Or, a :: b :: r => (cE n sc a).bind fun a' => (cE n sc (.BoolOp .Or (b :: r) pos)).map fun b' => .or a' b'
    | .IfExp c a b _ => (cE n sc c).bind fun c' => (cE n sc a).bind fun a' => (cE n sc b).map fun b' => .ite c' a' b'
    | .Compare a os es _ => match os, es with
      | [o], [b] => if isSet b = true then none else (cmpC o).bind fun o' => (cE n sc a).bind fun a' => (cE n sc b).map fun b' => .nd (.cmp o') [a', b']
      | [o, q], [b, c] => if isSet c = true then none else (cmpC o).bind fun o' => (cmpC q).bind fun q' => (cE n sc a).bind fun a' => (cE n sc b).bind fun b' => (cE n sc c).map fun c' => .ch o' q' a' b' c'
      | _, _ => none
    | .Tuple es _ _ => if es.any isStar = true then none else (seqM (cE n sc) es).map fun es' => .na .tup es'
    | .List es _ => if es.any isStar = true then (endStar es).bind fun p => (seqM (cE n sc) p.1).bind fun es' => (cE n sc p.2).map fun b' => .nd (.op .add) [.na .lst es', .nd (.bi .list) [b']] else (seqM (cE n sc) es).map fun es' => .na .lst es'
    | .Dict ks vs _ => match ks, vs with
      | [], [] => some (.nd .dct [])
      | _, _ => none
    | .Subscript a i _ => match i with
      | .Slice lo hi st _ => match lo, hi, st with
        | some l, some h, none => (cE n sc a).bind fun a' => (cE n sc l).bind fun l' => (cE n sc h).map fun h' => .sl a' l' h'
        | some l, none, none => (cE n sc a).bind fun a' => (cE n sc l).map fun l' => .nd (.slc 1) [a', l']
        | none, some h, none => (cE n sc a).bind fun a' => (cE n sc h).map fun h' => .nd (.slc 2) [a', h']
        | none, none, none => (cE n sc a).map fun a' => .nd (.slc 0) [a']
        | none, none, some (.UnaryOp .USub (.Constant (.int 1) _ _) _) => (cE n sc a).map fun a' => .nd .bk [a']
        | _, _, _ => none
      | i => (cE n sc a).bind fun a' => (cE n sc i).map fun i' => .nd .idx [a', i']
    | .Attribute o f _ => if isCall0 o = true then none else match T.flds.findIdx? (fun g => g == f) with
      | some j => if T.flds[j]? = some f then (cE n sc o).map fun o' => .nd (.fld j) [o'] else none
      | none => none
    | .ListComp el gs scope _ => match gs with
      | [⟨tg, iter, ifs, 0⟩] => if (blkC N sc scope (ownOf N scope) && !isSet iter && decide (ifs.length ≤ 1)) = true then
          (cTg N scope 9 tg).bind fun t => if ((tgS t).all fun i => ((ownOf N scope).map (·.2)).contains i) = false then none else (cIt T (cE n sc) sc iter).bind fun p => (seqM (cE n (relS scope sc)) ifs).bind fun cs => (cE n (relS scope sc) el).map fun e' => .lc t p.1 p.2 cs e' ((ownOf N scope).map (·.2))
        else none
      | _ => none
    | .DictComp kx vx gs scope _ => match gs with
      | [⟨tg, iter, ifs, 0⟩] => if (blkC N sc scope (ownOf N scope) && !isSet iter && decide (ifs.length ≤ 1)) = true then
          (cTg N scope 9 tg).bind fun t => if ((tgS t).all fun i => ((ownOf N scope).map (·.2)).contains i) = false then none else (cIt T (cE n sc) sc iter).bind fun p => (seqM (cE n (relS scope sc)) ifs).bind fun cs => (cE n (relS scope sc) kx).bind fun k' => (cE n (relS scope sc) vx).map fun v' => .dc t p.1 p.2 cs k' v' ((ownOf N scope).map (·.2))
        else none
      | _ => none
    | .Call f args kws cpos => if (!kws.isEmpty || args.any isStar) = true then none else match f with
      | .Name g _ => if (glC sc g && okN g) = true then (match T.exs.lookup g with
        | some (i, none) => if args.isEmpty = true then some (.na (.mkx i none) []) else none
        | some (i, some f) => (match args with
          | [a] => (cE n sc a).map fun a' => .na (.mkx i (some f)) [a']
          | _ => none)
        | none => match T.funs.lookup g with
        | some i => if args.isEmpty = true then none else (seqM (cE n sc) args).map fun es => .na (.call i) es
        | none => match T.clss.lookup g with
          | some i => if args.isEmpty = true then none else (seqM (cE n sc) args).map fun es => .na (.mk i) es
          | none => match args with
            | [a] => match bi1.lookup g with
              | some b => (cE n sc a).map fun a' => .nd (.bi b) [a']
              | none => none
            | [a, b] => if g = "isinstance" then (match b with
                | .Name t _ => if (glC sc t && okN t) = true then (match T.clss.lookup t with
                    | some i => (cE n sc a).map fun a' => .nd (.isi (.c i)) [a']
                    | none => if t = "ValueError" then (cE n sc a).map fun a' => .nd (.isi .ve) [a'] else if (T.funs.lookup t).isNone = true then (tyN t).bind fun s => (cE n sc a).map fun a' => .nd (.isi (.b s)) [a'] else none) else none
                | _ => none)
              else if g = "max" then (cE n sc a).bind fun a' => (cE n sc b).map fun b' => .nd .max2 [a', b']
              else if g = "min" then (cE n sc a).bind fun a' => (cE n sc b).map fun b' => .nd .min2 [a', b']
              else none
            | _ => none) else none
      | .Attribute o m apos => if (isCall0 o || !(apos.endLine == cpos.line) || decide (30 ≤ args.length + 1)) = true then none else match T.meths.findIdx? (fun g => g == m) with
        | some j => none
        | none => match args with
          | [] => (me0 m).bind fun k => (cE n sc o).map fun o' => .meth k o' []
          | [a] => (me1 m).bind fun k => (cE n sc o).bind fun o' => (cE n sc a).map fun a' => .meth k o' [a']
          | _ => none
      | _ => none
    | _ => none
/-- one question of an except suite -/
def cSi (sc : Scope) (n : Str) (e : Expr) : Option Nat := match e with
  | .Call (.Name f _) [.Name y _, .Name t _] [] _ => if (f == "isinstance" && glC sc f && y == n && glC sc t && okN t) = true then (match T.clss.lookup t with
      | some i => some i
      | none => if (T.funs.lookup t).isNone = true ∧ t = "ValueError" then some 1000 else none) else none
  | _ => none
/-- an except suite: return isinstance(e, A) [and isinstance(e, B)] -/
def cSu (sc : Scope) (n : Str) (su : Stmt) : Option (List Nat) := match su with
  | .Return (some (.BoolOp .And [a, b] _)) _ => (cSi T sc n a).bind fun i => (cSi T sc n b).map fun j => [i, j]
  | .Return (some e) _ => (cSi T sc n e).map fun i => [i]
  | _ => none
/-- what is not understood must not be reached -/
def cD (c : Stmt → Option Sx) (s : Stmt) : Option Sx := some ((c s).getD .die)
def cS : Nat → Scope → Stmt → Option Sx
  | 0, _, _ => none
  | n' + 1, sc, st => match st with
    | .Assign tgs e pos => match tgs with
      | [tg] => match tg with
        | .Name x py => if locC sc x = true then (slot N x).bind fun i =>
            (match e with
              | .ListComp el gs scope p => if (decide (sc.names.lookup x = some .local) && decide (sc.kind = .function) && (py.line == p.line) && !(scope.names.any fun (m, k) => m == x && (k == .local || k == .cell))) = true then (cE T N 60 sc e).map fun e' => .set (.var i) e' else if decide (sc.names.lookup x = some .cell) = true then (cE T N 60 sc e).map fun e' => .set (.var i) e' else none
              | .DictComp kx vx gs scope p => if (decide (sc.names.lookup x = some .local) && decide (sc.kind = .function) && (py.line == p.line) && !(scope.names.any fun (m, k) => m == x && (k == .local || k == .cell))) = true then (cE T N 60 sc e).map fun e' => .set (.var i) e' else if decide (sc.names.lookup x = some .cell) = true then (cE T N 60 sc e).map fun e' => .set (.var i) e' else none
              | e => if isComp e = true then none else (cE T N 60 sc e).map fun e' => .set (.var i) e') else none
        | .Tuple ts k py => if isTup e = true then (match ts, e with
              | [.Name x px, .Name y py'], .Tuple [a, b] _ _ => if (decide (sc.names.lookup x = some .local) && decide (sc.names.lookup y = some .local) && decide (sc.kind = .function) && (px.line == py'.line) && !(x == y) && !isStar a && !isStar b && !foldedForSure 8 a && !constantsAlone 8 a) = true then
                  (slot N x).bind fun i => (slot N y).bind fun j => (cE T N 60 sc a).bind fun a' => (cE T N 60 sc b).map fun b' => .par [i, j] [a', b'] else none
              | _, _ => none)
            else if isComp e = true then none else (cTg N sc 9 tg).bind fun t => (cE T N 60 sc e).map fun e' => .set t e'
        | .Subscript o i _ => if (isComp e || isSlice i) = true then none else (cE T N 60 sc e).bind fun e' => (cE T N 60 sc o).bind fun o' => (cE T N 60 sc i).map fun i' => .sub o' i' e'
        | .Attribute o f _ => if (isComp e || isCall0 o) = true then none else match T.flds.findIdx? (fun g => g == f) with
          | some j => if T.flds[j]? = some f then (cE T N 60 sc e).bind fun e' => (cE T N 60 sc o).map fun o' => .fldS o' j e' else none
          | none => none
        | _ => none
      | _ => none
    | .AugAssign tg o e _ => match tg with
      | .Name x _ => if locC sc x = true then (slot N x).bind fun i => (binC o).bind fun o' => if o' = .add ∨ o' = .sub then (cE T N 60 sc e).map fun e' => .aug i o' e' else none else none
      | _ => none
    | .Expr e _ => match e with
      | .Constant (.str _) _ _ => some .nop
      | e => if isComp e = true then none else (cE T N 60 sc e).map .ex
    | .Return e _ => match e with
      | some e => (cE T N 60 sc e).map .ret
      | none => some .retN
    | .Pass _ => some .nop
    | .Break _ => some .brk
    | .Continue _ => some .cnt
    | .If c a b _ => (cE T N 60 sc c).bind fun c' => (seqM (cD (cS n' sc)) a).bind fun a' => (seqM (cD (cS n' sc)) b).map fun b' => .ite c' a' b'
    | .For tg iter b els _ => if (isSet iter || !els.isEmpty) = true then none else (cTg N sc 9 tg).bind fun t => (cIt T (cE T N 60 sc) sc iter).bind fun p => (seqM (cD (cS n' sc)) b).map fun b' => .fr t p.1 p.2 b'
    | .Raise e c _ => match e, c with
      | some (.Call (.Name x _) [] [] _), none => if (glC sc x && okN x) = true then (T.clss.lookup x).map fun c => .rse c [] else none
      | _, _ => none
    | .Try b hs els fin _ => match hs, els, fin with
      | [.ExceptHandler (some (.Name x _)) (some n) [su] _], [], [] => if (glC sc x && okN x && okN n && decide (sc.names.lookup n = some .local)) = true then (T.clss.lookup x).bind fun c => (slot N n).bind fun i => (cSu T sc n su).bind fun cs => (seqM (cD (cS n' sc)) b).map fun b' => .tr b' c i cs else none
      | _, _, _ => none
    | .While c b els _ => if (!els.isEmpty) = true then none else (cE T N 60 sc c).bind fun c' => (seqM (cD (cS n' sc)) b).map fun b' => .whl c' b'
    | _ => none
end
end Ev
set_option Elab.async false
set_option linter.all false
set_option maxRecDepth 100000
set_option autoImplicit false
set_option maxHeartbeats 4000000
/-! Ev, part X: exceptions held as values, with one attribute or none. -/
namespace Ev
open PySem L2 PySem.Spec PyProof.Rows
section
variable {X : Cx} {pins : List (Addr × Obj)} {σ : L2.St} {H : Hp} {s : Shared}
theorem exo_inst {a C : Addr} {dx : Option Addr} (I : Inv X pins σ H s) (e : H a = some (exo a C dx)) (hd : ∀ d, dx = some d → ∃ fs, H d = some (exd d fs)) : ∃ (oe : Obj) (od : Option Obj), PySem.W.InstAt s.heap a oe C od ∧ ∀ d fs, dx = some d → H d = some (exd d fs) → ∃ (o : Obj) (mA : Str → Option Value), od = some o ∧ s.heap.Ns1 d mA ∧ s.heap.get? d = some o ∧ ∀ f, RelO (fs.lookup f) (mA f) := by
  obtain ⟨t1, ho⟩ := exo_at I.hok e
  cases dx with
  | none => exact ⟨_, none, ⟨ho, rfl, rfl, trivial⟩, fun d fs z => by cases z⟩
  | some d =>
    obtain ⟨fs0, h0⟩ := hd d rfl
    obtain ⟨mA, hn, hr⟩ := exd_at I.hok h0
    obtain ⟨o, es, ep, h1, h2⟩ := id hn
    refine ⟨_, some o, ⟨ho, rfl, rfl, h1⟩, fun d' fs z h' => ?_⟩
    cases z
    obtain ⟨mB, hn', hr'⟩ := exd_at I.hok h'
    exact ⟨o, mB, rfl, hn', h1, hr'⟩
/-- isinstance(e, c) of such an exception -/
def rIsX (K : PySem.W.Frag) : List V → Hp → VK → Prop := fun xs H Q => ∃ (a C : Addr) (dx : Option Addr) (c : V) (cv : Value) (b : Bool), xs = [.ref a, c] ∧ H a = some (exo a C dx) ∧ (∀ d, dx = some d → ∃ fs, H d = some (exd d fs)) ∧ ExcC K C ∧ (∀ u, RelV c u → u = cv) ∧ PySem.W.kitOne K (.ref C) cv = some b ∧ Q (.bl b) H
theorem call_isX : CallR X (.builtin "isinstance") (rIsX X.K) := by
  intro pins s σ H xs us Q I r h
  obtain ⟨a, C, dx, c, cv, b, rfl, ha, hd, E, hcv, e, q⟩ := h
  cases r with
  | cons rx rr =>
    cases rr with
    | cons rt rr =>
      cases rr
      cases rx
      have ec := hcv _ rt
      subst ec
      obtain ⟨oe, od, J, _⟩ := exo_inst I ha hd
      obtain ⟨cdD, hcD, _⟩ := PySem.W.any_some E.hd
      exact PySem.W.kia_one (PySem.W.kitx_exc (by rw [hcD]; rfl) E.hg E.hk E.hs E.ha E.hn E.ht E.hm) I.kIn J e (fun z => nomatch z) fun tk => ⟨.bl b, H, I.kept (t' := tk) fun _ _ z => z, rfl, q⟩
/-- e.f of such an exception -/
def tXv (K : PySem.W.Frag) (f : Str) (te : TE) : TE := fun σ H Q => te σ H fun x H1 => ∃ (a C d : Addr) (fs : List (Str × V)) (v : V), x = .ref a ∧ H1 a = some (exo a C (some d)) ∧ H1 d = some (exd d fs) ∧ ExcC K C ∧ PySem.W.findIn K (.ref C) f = some none ∧ fs.lookup f = some v ∧ Q v H1
theorem pe_xv {e : Expr} {f : Str} {te : TE} {pos : Pos} (he : PE X e te) (hb : attributeBase e f X.env (eval e X.env) = eval e X.env) : PE X (.Attribute e f pos) (tXv X.K f te) := by
  refine ⟨fun pins s σ H Q I h => ?_⟩
  refine attr_of hb (thn (he.run pins s σ H _ I h) fun u s1 hh => ?_)
  obtain ⟨x, H1, I1, rx, a, C, d, fs, v, ex, ha, hd, E, hno, l, q⟩ := hh
  subst ex
  obtain rfl : u = Value.ref a := rx
  obtain ⟨oe, od, J, k⟩ := exo_inst I1 ha fun d' z => by cases z; exact ⟨fs, hd⟩
  obtain ⟨o, mA, rfl, hn, ho, hr⟩ := k d fs rfl hd
  obtain ⟨od', ho', hl⟩ := lookIn_ns hn
  rw [ho] at ho'
  cases ho'
  obtain ⟨u, hu, ru⟩ := RelO.some_of (v := v) (o := mA f) (by rw [← l]; exact hr f)
  exact HandSPX.exc_get I1.kIn J E.hg E.hk E.hs (PySem.W.findObj_own E.hd hno rfl (by rw [hl, hu])) (handed_of ru) ⟨v, H1, I1.tok _, ru, q⟩
/-- C(), C without own __init__ -/
theorem pe_ex0 {C : Addr} {bmB : List Value} {B newId initId : String} {x : Str} {p pos : Pos} (F : ExcBaseFacts B newId initId bmB) (q : PySem.W.excIn X.K C bmB newId = true) (gC : X.mg x = some (.ref C)) (kC : PySem.W.keepIn X.K (.ref C) = true) (hg : Gl X x)
    (hdb : (x == ("__debug__" : Str)) = false) : PE X (.Call (.Name x p) [] [] pos) (fun σ H Q => ∀ a, H a = none → Q (.ref a) (upd H a (exo a C none))) := by
  refine ⟨fun pins s σ H Q I h => ?_⟩
  refine wpAny_Call_Name_kw (ld_glob I hg gC ?_ hdb)
  refine PySem.W.callWith_K0 I.kIn kC ?_
  show wpAny _ _ (call (.ref C) []) _ _ _
  obtain ⟨bm, N, nm, qn, bs, hdct, sn, sub, ab, col, dd, k0, k1, k2, k3, k5, mN, hC, hN, hni, T⟩ := exc_obj I.kIn q
  refine wpAny_call_exc_subT F T hC hN hni (fun h' a hm => ?_) (Nat.zero_le _)
  have hn : H a = none := I.hok.gone hm.new
  obtain ⟨t, ht, _, _⟩ := hm.there
  exact ⟨.ref a, upd H a (exo a C none), I.laidN hm.keeps hm.new hn (exo_ok ht), rfl, h a hn⟩
/-- the promise of an __init__ that stores its one argument -/
def spX (C : Addr) (f : Str) : Sp := fun vs H Q _ => ∃ (a : Addr) (v : V), vs = [.ref a, v] ∧ H a = some (exo a C none) ∧ ∀ dx, H dx = none → dx ≠ a → Q .non (upd (upd H dx (exd dx [(f, v)])) a (exo a C (some dx)))
/-- the heap with a fresh error of the class at C on top, the tuple of its arguments below it -/
abbrev topped (hp : Heap) (C : Addr) (us : List Value) : Heap := (hp.push (PySem.W.kdv_tup us)).push (PySem.HandSPX.excO C hp.objs.size)
theorem topped_keep {hp : Heap} {C : Addr} {us : List Value} (b : Addr) (o : Obj) (e : hp.get? b = some o) : (topped hp C us).get? b = some o := by
  unfold topped
  exact Heap.get?_push_of_some _ (Heap.get?_push_of_some _ e)
theorem topped_at {hp : Heap} {C : Addr} {us : List Value} : (topped hp C us).get? (hp.objs.size + 1) = some (PySem.HandSPX.excO C hp.objs.size) := by
  unfold topped
  heap_get
theorem upd_twice {H : Hp} {p q : Addr} {o u w : HO} (h : q ≠ p) : upd (upd (upd H p o) q u) p w = upd (upd H q u) p w := by
  funext b
  by_cases e : b = p
  · rw [e, upd_same, upd_same]
  · rw [upd_ne e, upd_ne e]
    by_cases e2 : b = q
    · rw [e2, upd_same, upd_same]
    · rw [upd_ne e2, upd_ne e2, upd_ne e]
theorem pe_exv {CX : CXT} {x : Str} {C fI : Addr} {k : Nat} {fd : FuncData} {ps : List Str} {f : Str} {e : Expr} {p pos : Pos} {ta : TA} (T : OexC X.K C) (iC : PySem.W.findIn X.K (.ref C) "__init__" = some (some (.ref fI))) (tI : PySem.W.typeIn X.K (.ref fI) = some (.type "function"))
    (G : FnOk X.prog X.w X.K X.mg X.base CX k fI fd ps (spX C f)) (room : Room (k + 1) X.A) (bd : Binds X.K fd ps []) (thru : Passes CX X (fun _ _ _ => False)) (hg : Gl X x) (hm : X.mg x = some (.ref C)) (ha : PA X [e] ta)
    (hdb : (x == ("__debug__" : Str)) = false) (he : starEach [e] X.env = (false, eval e X.env) :: starEach [] X.env) :
    PE X (.Call (.Name x p) [e] [] pos) (fun σ H Q => ta σ H fun vs H1 => ∃ v, vs = [v] ∧ ∀ a dx, H1 a = none → H1 dx = none → dx ≠ a → Q (.ref a) (upd (upd H1 dx (exd dx [(f, v)])) a (exo a C (some dx)))) := by
  have cls := T.cls
  refine ⟨fun pins s σ H Q I rd => wpAny_Call_Name_kw (ld_glob I hg hm (PySem.W.callWith_K (h₀ := X.base) I.ok.mod.kin T.kC (thn (ha.run pos pins s σ H _ I rd) ?_) he rfl) hdb)⟩
  rintro us ⟨hp, gs, dr, tk, os⟩ ⟨vs, H1, J, rv, v, rfl, goal⟩
  refine ⟨J.kIn, ?_⟩
  show wpAny _ _ (call (.ref C) us) _ _ _
  -- the new error stands at the end of the heap, and is tracked while its __init__ runs
  have free : H1 (hp.objs.size + 1) = none := J.hok.fresh (Nat.le_succ _)
  have J2 : Inv X pins σ (upd H1 (hp.objs.size + 1) (exo (hp.objs.size + 1) C none)) ⟨topped hp C us, gs, dr, tk, os⟩ :=
    J.laid (t' := tk) (o := exo (hp.objs.size + 1) C none) (h' := topped hp C us) topped_keep (Nat.le_succ _) (exo_ok topped_at)
  have args : Vals [V.ref (hp.objs.size + 1), v] (Value.ref (hp.objs.size + 1) :: us) := .cons rfl rv
  have word : spX C f [.ref (hp.objs.size + 1), v] (upd H1 (hp.objs.size + 1) (exo (hp.objs.size + 1) C none)) (fun z H2 => z = .non ∧ Q (.ref (hp.objs.size + 1)) H2) (fun _ _ _ => False) := by
    refine ⟨_, v, rfl, upd_same, fun dx d1 d2 => ⟨rfl, ?_⟩⟩
    rw [upd_ne d2] at d1
    rw [upd_twice d2]
    exact goal _ dx free d1 d2
  have many : (Value.ref (hp.objs.size + 1) :: us).length = ps.length := args.length.symm.trans (G.len _ _ _ _ word)
  have bound := bd _ (Value.ref (hp.objs.size + 1) :: us) J2.kIn (by rw [List.append_nil]; exact many)
  rw [List.append_nil] at bound
  have short : us.length ≤ sizeLine := by
    have := rv.length
    rw [sizeLine_eq]
    simp at this
    omega
  obtain ⟨_, _, _, _, bm, _, _, _, _, _, _, _, _, _, _, found, vErr⟩ := cls
  refine wpAny_call (PySem.HandSPX.call_own F.excBase_ValueError (fun Y => PySem.HandSPX.refsVE_contains Y bm vErr) (J.kIn _ _ found) (PySem.W.looks_findIn J.kIn iC) (fun self => PySem.W.bind_fn J.kIn self tI) short ?_)
  refine codeAny_mono (G.run _ X.stack _ _ ⟨Value.ref (hp.objs.size + 1) :: us, []⟩ _ _ _ (fun _ _ _ => False) (room.make C us []) (J2.env0.make C us []) bound args word) fun r s' back => ?_
  rcases r with er | fl
  · exact thru pins σ _ _ er s' J2 back
  cases fl with
  | ret u =>
    obtain ⟨z, H2, J3, rz, ez, q2⟩ := J2.after back
    subst ez
    cases rz
    exact ⟨rfl, .ref (hp.objs.size + 1), H2, J3, rfl, q2⟩
  | _ => exact back.elim
end
end Ev
set_option Elab.async false
set_option linter.all false
set_option maxRecDepth 100000
set_option autoImplicit false
set_option maxHeartbeats 4000000
/-! Ev, part Z: dicts whose keys are tuples of any origin; dict comprehensions (kit level). -/
namespace Ev
open PySem L2 PySem.Spec PyProof.Rows
abbrev TKd (P : Program) (w : World) := tupleKind (mixKind P w)
abbrev Ent := List Key × Addr × Value
/-- a dict at a: its entries as they stand; the keys are tuples -/
def tdP (P : Program) (w : World) (a : Addr) (xs : List Ent) (h : Heap) : Prop := ∃ o es ep, h.get? a = some o ∧ o.ExactDict ∧ o.data = .dict es ep ∧ es.toList = xs.map (entryOfKey (TKd P w))
def tdO (P : Program) (w : World) (a : Addr) (xs : List Ent) : HO := .ext (tdP P w a xs)
section
variable {P : Program} {w : World} {H : Hp} {h : Heap} {a p d : Addr} {xs : List Ent}
theorem td_here (z : ObjOk P w H h p (tdO P w a xs)) : a = p ∧ tdP P w p xs h := by
  obtain ⟨z1, ⟨o', z2⟩, z3⟩ := (show tdP P w a xs h ∧ (∃ o, h.get? p = some o) ∧ ∀ h1 h2 : Heap, tdP P w a xs h1 → (∀ o, h1.get? p = some o → h2.get? p = some o) → tdP P w a xs h2 from z)
  by_cases e : a = p
  · subst e; exact ⟨rfl, z1⟩
  · exfalso
    have z1' := z1
    obtain ⟨o, es, ep, g1, _, d1, _⟩ := z1'
    obtain ⟨oc, od, odt, osl⟩ := o
    cases d1
    have sb : Heap.SameBut a h (h.update a fun o => { o with data := .fields #[] }) := Heap.SameBut.update ..
    obtain ⟨o2, es2, ep2, g2, _, d2, _⟩ := z3 h (h.update a fun o => { o with data := .fields #[] }) z1 fun o q => (sb.2 p (Ne.symm e)).trans q
    have g3 := Heap.get?_update_self (fun o : Obj => { o with data := .fields #[] }) g1 rfl
    rw [g3] at g2
    cases g2
    cases d2
theorem td_new (z : tdP P w a xs h) : ObjOk P w H h a (tdO P w a xs) := by
  refine ⟨z, ?_, fun h1 h2 z1 k => ?_⟩
  · obtain ⟨o, _, _, g, _⟩ := z
    exact ⟨o, g⟩
  · obtain ⟨o, es, ep, g, r⟩ := z1
    exact ⟨o, es, ep, k o g, r⟩
def evenHeap (n : Nat) (o : Obj) : Heap := ⟨Array.replicate n o, {}⟩
theorem even_get {n b : Nat} {c : Value} {dd : Option Addr} {es : Array DictEntry} {ep : Nat} {sl : Array (Option Value)} (hb : b < n) : (evenHeap n ⟨c, dd, .dict es ep, sl⟩).get? b = some ⟨c, dd, .dict es ep, sl⟩ := by
  unfold evenHeap Heap.get?
  simp [hb]
theorem td_ne_exd {fs : List (Str × V)} : tdO P w a xs ≠ exd d fs := by
  intro z
  have z : tdP P w a xs = fun h => ∃ mA, h.Ns1 d mA ∧ ∀ f, RelO (fs.lookup f) (mA f) := by
    unfold tdO exd at z
    exact HO.ext.inj z
  have ha : a < a + d + 1 := Nat.lt_succ_of_le (Nat.le_add_right _ _)
  have hd : d < a + d + 1 := Nat.lt_succ_of_le (Nat.le_add_left _ _)
  have A : tdP P w a xs (evenHeap (a + d + 1) ⟨.type "dict", none, .dict (xs.map (entryOfKey (TKd P w))).toArray 0, #[]⟩) := ⟨_, _, _, even_get ha, ⟨rfl, rfl, rfl⟩, rfl, rfl⟩
  rw [z] at A
  obtain ⟨mA, ⟨o, es, ep, g, dd, sk, uk, f⟩, rel⟩ := A
  rw [even_get hd] at g
  cases g
  cases dd
  have C : (fun h : Heap => ∃ mA, h.Ns1 d mA ∧ ∀ f, RelO (fs.lookup f) (mA f)) (evenHeap (a + d + 1) ⟨.type "list", none, .dict (xs.map (entryOfKey (TKd P w))).toArray 0, #[]⟩) := ⟨mA, ⟨_, _, _, even_get hd, rfl, sk, uk, f⟩, rel⟩
  rw [← z] at C
  obtain ⟨o, es, ep, g, ex, _⟩ := C
  rw [even_get ha] at g
  cases g
  have q : Value.type "list" = Value.type "dict" := ex.1
  injection q with q
  exact absurd q (by decide)
end
section
variable {X : Cx} {pins : List (Addr × Obj)} {σ : L2.St} {H : Hp} {s : Shared} {D b : Addr} {xs : List Ent} {ks : List Key} {A : Around} {E : Value → Shared → Prop}
theorem key_any (I : Inv X pins σ H s) (h : SqT X.K H b (ks.map kV)) : (TKd X.prog X.w).is s.heap ks b := by
  obtain ⟨its, r, ⟨o, h1, h2, n, h3⟩, _⟩ := I.tuple h
  exact ⟨o, its.toArray, n, h1, h2, h3, by simpa using items_are r⟩
/-- what is known of a dict with such keys -/
structure TdOk (K : PySem.W.Frag) (H : Hp) (D : Addr) (xs : List Ent) : Prop where
  sm : (D == sysModules) = false
  nd : (xs.map (·.1)).Nodup
  ks : ∀ x ∈ xs, SqT K H x.2.1 (x.1.map kV)
theorem td_dict (I : Inv X pins σ H s) (e : Rd H D (tdO X.prog X.w D xs)) (t : TdOk X.K H D xs) : s.heap.DictOfH (TKd X.prog X.w) D xs := by
  obtain ⟨_, o, es, ep, g, x, dd, q⟩ := td_here (rd_of I.hok e)
  exact ⟨o, es, ep, g, x, dd, q, fun x hx => key_any I (t.ks x hx), t.nd⟩
theorem dk_zero (I : Inv X pins σ H s) (e : Rd H D (.dK [])) : (D == sysModules) = false ∧ s.heap.DictOfH (TKd X.prog X.w) D [] := by
  obtain ⟨_, y, vs, rel, o, es, ep, g, x, dd, hk, hp, hn⟩ := dk_rd I.hok e
  cases rel
  have hl := hp.length
  have e0 : es.toList = [] := List.eq_nil_of_length_eq_zero (by simpa using hl)
  exact ⟨y, o, es, ep, g, x, dd, by rw [e0]; rfl, by intro x hx; simp at hx, by simp⟩
/-- a tuple looked for -/
theorem td_in {Q : Value → Shared → Prop} (hu : A.units + 1 < cLine) (I : Inv X pins σ H s) (hb : SqT X.K H b (ks.map kV)) (y : (D == sysModules) = false) (dd : s.heap.DictOfH (TKd X.prog X.w) D xs) (h : ∀ s', Inv X pins σ H s' → Q (.bool (atKey xs ks).isSome) s') :
    wpAny (model X.prog X.w) A (compareOp .In (.ref b) (.ref D)) Q E s :=
  wpAny_in_heap (tupleKind_room_in1 hu) (key_any I hb) y dd (h _ (I.tok _))
theorem td_notIn {Q : Value → Shared → Prop} (hu : A.units + 1 < cLine) (I : Inv X pins σ H s) (hb : SqT X.K H b (ks.map kV)) (y : (D == sysModules) = false) (dd : s.heap.DictOfH (TKd X.prog X.w) D xs) (h : ∀ s', Inv X pins σ H s' → Q (.bool (!(atKey xs ks).isSome)) s') :
    wpAny (model X.prog X.w) A (compareOp .NotIn (.ref b) (.ref D)) Q E s := by
  refine wpAny_notIn_heap (tupleKind_room_in1 hu) (key_any I hb) y dd ?_
  have e := h _ (I.tok ((TKd X.prog X.w).draws ks + s.toks))
  first | exact h _ (I.tok _) | (cases hq : (atKey xs ks).isSome <;> simp_all)
/-- an entry is put into a dict -/
def KSet (P : Program) (w : World) (K : PySem.W.Frag) (H : Hp) (D : Addr) (y z : V) (R : Hp → Prop) : Prop :=
  (∃ kvs k, y = kV k ∧ H D = some (.dK kvs) ∧ kvs.length < sizeLine ∧ R (upd H D (.dK (putK kvs k z)))) ∨
  (∃ xs ks b, y = .ref b ∧ SqT K H b (ks.map kV) ∧ xs.length < sizeLine ∧ ((xs = [] ∧ H D = some (.dK [])) ∨ (H D = some (tdO P w D xs) ∧ TdOk K H D xs)) ∧ ∀ r, RelV z r → (D == sysModules) = false → R (upd H D (tdO P w D (storedH xs ks b r))))
theorem kset_ok {y z : V} {u r : Value} {R : Hp → Prop} {Q : Unit → Shared → Prop} (hu : X.A.units < cLine) (I : Inv X pins σ H s) (ry : RelV y u) (rz : RelV z r) (h : KSet X.prog X.w X.K H D y z R) (k : ∀ s' H', Inv X pins σ H' s' → R H' → Q () s') :
    wpAny (model X.prog X.w) X.A (dictSet D u r) Q E s := by
  rcases h with ⟨kvs, ky, rfl, e, l, q⟩ | ⟨xs, ks, b, rfl, hb, l, c, q⟩
  · exact d_dictSet I e l ry rz fun s' I' => k s' _ I' q
  · obtain rfl : u = Value.ref b := ry
    have both : (D == sysModules) = false ∧ s.heap.DictOfH (TKd X.prog X.w) D xs ∧ Mut (H D) := by
      rcases c with ⟨rfl, e⟩ | ⟨e, t⟩
      · obtain ⟨z1, z2⟩ := dk_zero I (.inl e)
        exact ⟨z1, z2, by rw [e]; trivial⟩
      · exact ⟨t.sm, td_dict I (.inl e) t, by rw [e]; trivial⟩
    obtain ⟨sm, dd, mu⟩ := both
    refine wpAny_dictSet_heap (hsz := Nat.le_of_lt l) hu (key_any I hb) dd fun h' dd' hs => k _ _ ?_ (q r rz sm)
    obtain ⟨o, es, ep, g, x, d1, q1, _, _⟩ := dd'
    exact d_write I mu hs ⟨o, g⟩ (td_new ⟨o, es, ep, g, x, d1, q1⟩)
end
section
variable {X : Cx}
/-- {k: v for target in iter if ..}, the keys of any such kind: D is the new dict -/
def tDx (P : Program) (w : World) (K : PySem.W.Frag) (wi : TI) (g : TG) (tt : TT) (tk tv : TE) (vs : List Nat) : TE := fun σ H Q => wi σ H fun J H1 => ∀ D, H1 D = none → ∃ Inw : Nat → Nat → Hp → Prop, (∃ m, Inw 0 m (upd H1 D (.dK []))) ∧ ∀ i m H,
  Inw i m H → (J.stop i H ∧ Q (.ref D) H) ∨ (J.go i H ∧ ∃ Aim : Hp → Prop, (∀ H', Aim H' → ∃ m', m' < m ∧ Inw (i + 1) m' H') ∧ ∀ x H', J.yld i H x H' → g x (wipe σ vs) H' fun σ2 H2 => wipe σ2 vs = wipe σ vs ∧ tt σ2 H2 fun b H3 =>
  if b = true then tk σ2 H3 fun y H4 => tv σ2 H4 fun z H5 => KSet P w K H5 D y z Aim else Aim H3)
theorem dx_core {pins : List (Addr × Obj)} {s : Shared} {σ : L2.St} {H : Hp} {Q : VK} {ke ve tg it0 : Expr} {fi : List Expr} {blk : Scope} {mine : List (Str × Nat)} {pos pos' : Pos} {wi : TI} {g : TG} {tt : TT} {tk tv : TE} {use : Option (Value → Sem Unit)} {Qf : Value → Shared → Prop}
    (hu : X.A.units < cLine) (calm : X.calm = true) (nd : X.N.Nodup) (I : Inv X pins σ H s) (hi : PI X tg it0 wi) (ok : BlkOk X.N X.env.scope blk mine)
    (hg : ∀ (s : Shared) (H : Hp) (C : Addr) (cl : List (Str × Addr)) (fp : List Addr), PG (X.blk s H blk (compEnvC blk cl C X.env) fp) tg g)
    (ht : ∀ (s : Shared) (H : Hp) (C : Addr) (cl : List (Str × Addr)) (fp : List Addr), PTs (X.blk s H blk (compEnvC blk cl C X.env) fp) fi tt)
    (hk : ∀ (s : Shared) (H : Hp) (C : Addr) (cl : List (Str × Addr)) (fp : List Addr), PE (X.blk s H blk (compEnvC blk cl C X.env) fp) ke tk)
    (hv : ∀ (s : Shared) (H : Hp) (C : Addr) (cl : List (Str × Addr)) (fp : List Addr), PE (X.blk s H blk (compEnvC blk cl C X.env) fp) ve tv) (nf : ∀ x, foldedSetIterable it0 X.env x = pure x)
    (h : tDx X.prog X.w X.K wi g tt tk tv (mine.map (·.2)) σ H Q)
    (out : ∀ D C s' m H', Inv X pins σ H' s' → Q (.ref D) H' → s'.heap.Ns C m → FpOk X pins H' C → compPost (model X.prog X.w) X.A X.xe use Qf (.ref D) C (.ok .next) s') :
    wpAny (model X.prog X.w) X.A (comprehension (.DictComp ke ve [⟨tg, it0, fi, 0⟩] blk pos) blk X.env pos' newDict false (eval it0 X.env) use) Qf X.xe s := by
  have frees : ∀ y ∈ blk.names, y.2 = .free → ∃ c, X.env.cells.lookup y.1 = some c := by
    intro y hy e
    exact (ok.free y hy e).elim (fun z => I.ok.has _ (.inl z)) fun z => I.ok.has _ (.inr z)
  refine wpAny_comprehension_free (use := use) rfl nf (closure_ok frees) ok.kind (fun y hy e => (ok.uniq y hy).trans (by rw [e])) ?_
  refine thn (hi.run pins s σ H _ I h) fun xv s1 hx => thn hx fun itv s2 h2 => ?_
  obtain ⟨it, fp, tn, J, H2, ei, I2, Tn, at2, fr2, rest⟩ := h2
  subst ei
  refine wpAny_newObj_type (newEnv_comp ?_)
  have big := Nat.le_refl s2.heap.objs.size
  have free2 := I2.hok.fresh big
  generalize eD : s2.heap.objs.size = D at free2
  obtain ⟨Inw, ⟨m0, w0⟩, go⟩ := rest D free2
  -- D is laid
  generalize e3 : ({ s2 with heap := s2.heap.push { cls := .type "dict", data := .dict #[] } } : Shared) = s3
  have hp3 : s3.heap = s2.heap.push { cls := .type "dict", data := .dict #[] } := congrArg Shared.heap e3.symm
  have I3 : Inv X pins σ (upd H2 D (.dK [])) s3 := by
    subst e3
    refine I2.laid (t' := s2.toks) (fun b o e => Heap.get?_push_of_some _ e) (Nat.le_of_eq eD) ?_
    subst eD
    exact dk_empty s2.heap I2.big
  have old : ∀ b ∈ fp, b < s2.heap.objs.size := by
    intro b hb
    obtain ⟨o, e, _⟩ := Tn.obj _ _ at2 b hb
    exact Heap.lt_size e
  have fr3 : ∀ b ∈ fp, FpOk X pins (upd H2 D (.dK [])) b ∧ b < s3.heap.objs.size := by
    intro b hb
    have lt := old b hb
    have ne : b ≠ D := by rw [← eD]; exact Nat.ne_of_lt lt
    exact ⟨⟨(upd_ne ne).trans (fr2 b hb).1, (fr2 b hb).2⟩, by rw [hp3, Heap.size_push]; exact Nat.lt_succ_of_lt lt⟩
  have at3 : tn 0 s3.heap := Tn.keep _ _ _ at2 (by intro b _ o e; rw [hp3]; exact Heap.get?_push_of_some _ e)
  have I4 := block_start I3 ok nd fr3
  -- the pieces of the block
  show codeAny _ _ (.compStart (.DictComp ke ve [⟨tg, it0, fi, 0⟩] blk pos) 0 (.ref it) (.ref D) (compEnvC blk (cellsFrom (s3.heap.objs.size + 1) blk.names (cloFrom X.env.cells blk.names [])) s3.heap.objs.size X.env))
    (compPost (model X.prog X.w) X.A X.xe use Qf (.ref D) s3.heap.objs.size) { s3 with heap := pushCells (s3.heap.push { cls := .type "dict", data := .dict #[] }) blk.names }
  generalize ecl : cellsFrom (s3.heap.objs.size + 1) blk.names (cloFrom X.env.cells blk.names []) = cl at I4 ⊢
  have g4 := hg s3 (upd H2 D (.dK [])) s3.heap.objs.size cl fp
  have t4 := ht s3 (upd H2 D (.dK [])) s3.heap.objs.size cl fp
  have k4 := hk s3 (upd H2 D (.dK [])) s3.heap.objs.size cl fp
  have v4 := hv s3 (upd H2 D (.dK [])) s3.heap.objs.size cl fp
  have gone : ∀ b ∈ fp, (upd H2 D (.dK [])) b = none := fun b hb => (fr3 b hb).1.1
  generalize ec : compEnvC blk cl s3.heap.objs.size X.env = ce at I4 g4 t4 k4 v4 ⊢
  have home : ce.locals = s3.heap.objs.size := by rw [← ec]; rfl
  generalize eH : upd H2 D (.dK []) = H3 at I3 I4 g4 t4 k4 v4 w0 gone fr3
  generalize e4 : ({ s3 with heap := pushCells (s3.heap.push { cls := .type "dict", data := .dict #[] }) blk.names } : Shared) = s4 at I4 ⊢
  have at4 : tn 0 s4.heap := Tn.keep _ _ _ at3 (by intro b _ o e; rw [← e4]; exact pushCells_keeps _ _ _ _ (Heap.get?_push_of_some _ e))
  have okB : ∀ {σ' : L2.St} {H' : Hp} {s' : Shared}, Inv (X.blk s3 H3 blk ce fp) [] σ' H' s' → (∀ b ∈ fp, H' b = none) → ∀ b ∈ fp, FpOk (X.blk s3 H3 blk ce fp) [] H' b := by
    intro σ' H' s' I' hn b hb
    refine ⟨hn b hb, (I'.ok.exf b hb).1, I'.ok.exfs b hb, .inl hb, fun x c e => (I'.ok.exf b hb).2 x c e, fun p hp => ?_⟩
    exact absurd (show p ∈ ([] : List (Addr × Obj)) ++ [] from hp) (by simp)
  refine codeAny_compStart_dict ?_ (Tn.self X.A 0 _ _ _ at4 ?_) <;>
  · refine compLoop_anyD (fun n s' => ∃ i H', Inv (X.blk s3 H3 blk ce fp) [] (wipe σ (mine.map (·.2))) H' s' ∧ tn i s'.heap ∧ (∀ b ∈ fp, H' b = none) ∧ Inw i n H') ?_ m0 ⟨0, H3, I4, at4, gone, w0⟩
    rintro n s5 ⟨i, H5, I5, at5, no5, w5⟩
    rcases go i n H5 w5 with ⟨stop, fin⟩ | ⟨more, Aim, aim, step⟩
    · have dn := Tn.done (X.blk s3 H3 blk ce fp) rfl rfl rfl calm i [] s5 _ H5 (fun _ _ => False) I5 (okB I5 no5) at5 stop
      refine thnF dn fun r s6 ⟨er, I6⟩ => ?_
      subst er
      have back : Inv X pins σ H5 s6 := I3.call' (ch := fp) I6.os I6.base I6.hok I6.bare (by
        intro b hb
        have f := (fr3 b hb).1.2
        exact ⟨f.2.2.1, f.1, f.2.2.2.1, f.2.2.2.2⟩)
      have nh : H5 s3.heap.objs.size = none := by rw [← home]; exact I6.free
      obtain ⟨m, hn, _⟩ := I6.loc
      have hn : s6.heap.Ns ce.locals m := hn
      rw [home] at hn
      exact out D s3.heap.objs.size s6 m H5 back fin hn (I3.fpOk (Nat.le_refl _) nh)
    · have nx := Tn.item (X.blk s3 H3 blk ce fp) rfl rfl rfl calm i [] s5 _ H5 (fun _ _ => False) I5 (okB I5 no5) at5 more
      refine thnF nx fun r s6 ⟨u, er, h6⟩ => ?_
      subst er
      refine thnF h6 fun _ s7 ⟨x, H7, I7, r7, y7, at7, no7⟩ => ?_
      have J7 := I7.pinned (okB I7 no7) (Tn.obj _ _ at7)
      refine thnF (g4.run _ s7 _ H7 x u _ J7 r7 (step x H7 y7)) fun _ s8 ⟨σ8, H8, I8, same, q8⟩ => ?_
      refine thnF (t4.run _ s8 σ8 H8 _ I8 q8) fun b s9 ⟨H9, I9, q9⟩ => ?_
      have close : ∀ {s' : Shared} {H' : Hp}, Inv (X.blk s3 H3 blk ce fp) ([] ++ pinsAt fp s7.heap) σ8 H' s' → Aim H' → ∃ m, m < n ∧ ∃ i H', Inv (X.blk s3 H3 blk ce fp) [] (wipe σ (mine.map (·.2))) H' s' ∧ tn i s'.heap ∧ (∀ b ∈ fp, H' b = none) ∧ Inw i m H' := by
        intro s' H' I' a'
        obtain ⟨m', lt, w'⟩ := aim H' a'
        have held : ∀ b ∈ fp, ∀ o, s7.heap.get? b = some o → s'.heap.get? b = some o ∧ H' b = none := by
          intro b hb o e
          have z := I'.pin (b, o) (List.mem_append_right _ (List.mem_append_right _ (mem_pinsAt hb e)))
          exact ⟨z.1, z.2.1⟩
        have len : (wipe σ (mine.map (·.2))).length = σ8.length := (congrArg List.length same).symm.trans (wipe_length _ _)
        refine ⟨m', lt, i + 1, H', (I'.unpinned (pins := [])).weak len ?_, Tn.keep _ _ _ at7 (fun b hb o e => (held b hb o e).1), ?_, w'⟩
        · intro j v e
          rw [← same] at e
          exact (wipe_some e).1
        · intro b hb
          obtain ⟨o, e, _⟩ := Tn.obj _ _ at7 b hb
          exact (held b hb o e).2
      cases b with
      | true =>
        replace q9 : tk σ8 H9 fun y H4 => tv σ8 H4 fun z H5 => KSet X.prog X.w X.K H5 D y z Aim := q9
        refine thnF (k4.run _ s9 σ8 H9 _ I9 q9) fun kv s10 ⟨yk, H10, I10, rk, q10⟩ => ?_
        refine thnF (v4.run _ s10 σ8 H10 _ I10 q10) fun vv s11 ⟨yv, H11, I11, rv, set⟩ => ?_
        exact kset_ok (X := X.blk s3 H3 blk ce fp) hu I11 rk rv set fun s' H' I' a' => close I' a'
      | false => exact close I9 q9
/-- as a value -/
theorem pe_dx {ke ve tg it0 : Expr} {fi : List Expr} {blk : Scope} {mine : List (Str × Nat)} {pos : Pos} {wi : TI} {g : TG} {tt : TT} {tk tv : TE} (hu : X.A.units < cLine) (calm : X.calm = true) (nd : X.N.Nodup) (hi : PI X tg it0 wi) (ok : BlkOk X.N X.env.scope blk mine)
    (hg : ∀ (s : Shared) (H : Hp) (C : Addr) (cl : List (Str × Addr)) (fp : List Addr), PG (X.blk s H blk (compEnvC blk cl C X.env) fp) tg g)
    (ht : ∀ (s : Shared) (H : Hp) (C : Addr) (cl : List (Str × Addr)) (fp : List Addr), PTs (X.blk s H blk (compEnvC blk cl C X.env) fp) fi tt)
    (hk : ∀ (s : Shared) (H : Hp) (C : Addr) (cl : List (Str × Addr)) (fp : List Addr), PE (X.blk s H blk (compEnvC blk cl C X.env) fp) ke tk)
    (hv : ∀ (s : Shared) (H : Hp) (C : Addr) (cl : List (Str × Addr)) (fp : List Addr), PE (X.blk s H blk (compEnvC blk cl C X.env) fp) ve tv) (nf : ∀ x, foldedSetIterable it0 X.env x = pure x) :
    PE X (.DictComp ke ve [⟨tg, it0, fi, 0⟩] blk pos) (tDx X.prog X.w X.K wi g tt tk tv (mine.map (·.2))) := by
  refine ⟨fun pins s σ H Q I h => ?_⟩
  rw [arm_eval_DictComp]
  refine dx_core hu calm nd I hi ok hg ht hk hv nf h fun D C s' m H' I' q hn f => ⟨m, hn, fun h2 sb => ?_⟩
  obtain ⟨f0, f1, f2, f3, f4, f5⟩ := f
  exact ⟨V.ref D, H', I'.turned (t' := s'.toks) (fun b o hb e => (sb.2 b hb).trans e) f0 f1 f3 f4 f5, rfl, q⟩
/-- name = {..} on one line, the name a local -/
theorem ps_setDx {i : Nat} {y : Str} {py : Pos} {ke ve tg it0 : Expr} {fi : List Expr} {blk : Scope} {mine : List (Str × Nat)} {pos spos : Pos} {wi : TI} {g : TG} {tt : TT} {tk tv : TE} (hu : X.A.units < cLine) (calm : X.calm = true) (nd : X.N.Nodup) (hy : X.N[i]? = some y) (hyl : X.env.scope.names.lookup y = some .local)
    (sw : swapsWith (.DictComp ke ve [⟨tg, it0, fi, 0⟩] blk pos) (some (.Name y py)) spos.line X.env = pure true) (hi : PI X tg it0 wi) (ok : BlkOk X.N X.env.scope blk mine)
    (hg : ∀ (s : Shared) (H : Hp) (C : Addr) (cl : List (Str × Addr)) (fp : List Addr), PG (X.blk s H blk (compEnvC blk cl C X.env) fp) tg g)
    (ht : ∀ (s : Shared) (H : Hp) (C : Addr) (cl : List (Str × Addr)) (fp : List Addr), PTs (X.blk s H blk (compEnvC blk cl C X.env) fp) fi tt)
    (hk : ∀ (s : Shared) (H : Hp) (C : Addr) (cl : List (Str × Addr)) (fp : List Addr), PE (X.blk s H blk (compEnvC blk cl C X.env) fp) ke tk)
    (hv : ∀ (s : Shared) (H : Hp) (C : Addr) (cl : List (Str × Addr)) (fp : List Addr), PE (X.blk s H blk (compEnvC blk cl C X.env) fp) ve tv) (nf : ∀ x, foldedSetIterable it0 X.env x = pure x) :
    PS X (.Assign [.Name y py] (.DictComp ke ve [⟨tg, it0, fi, 0⟩] blk pos) spos) (tAsg (tDx X.prog X.w X.K wi g tt tk tv (mine.map (·.2))) (gName i)) := by
  refine ⟨fun pins s σ H D I h => ?_⟩
  rw [exec_Assign_Name_used _ _ _ _ sw]
  refine wpAny_bind (wpAny_standAt (wpAny_bind ?_))
  show wpAny _ X.A (do let _ ← comprehension (.DictComp ke ve [⟨tg, it0, fi, 0⟩] blk pos) blk X.env (firstIterPos [⟨tg, it0, fi, 0⟩] pos) newDict false (eval it0 X.env) (some (assign (.Name y py) X.env))) _ _ s
  have h : tDx X.prog X.w X.K wi g tt tk tv (mine.map (·.2)) σ H (fun x H1 => gName i x σ H1 D.nx) := h
  refine wpAny_bind (thn (dx_core (Qf := fun _ s' => SP X pins D .next s') hu calm nd I hi ok hg ht hk hv nf h ?_) fun _ s' hq => wpAny_pure (wpAny_pure hq))
  intro L C s' m H' I' q hn f
  obtain ⟨f0, f1, f2, f3, f4, f5⟩ := f
  show wpAny _ _ (assign (.Name y py) X.env (.ref L)) _ _ _
  refine wpAny_assign_Name (store_ok2 (v := V.ref L) I' nd hy (.inl hyl) rfl (fun s2 I2 z => ?_) (.inr hyl))
  obtain ⟨a, sb, ha⟩ := z
  have ne : C ≠ a := ha.elim (fun z => by rw [z]; exact f1) fun z e => f4 y a z e.symm
  refine ⟨m, hn.sameBut sb ne, fun h3 sb3 => ?_⟩
  exact ⟨_, H', I2.turned (t' := s2.toks) (fun b o hb e => (sb3.2 b hb).trans e) f0 f1 f3 f4 f5, q⟩
theorem sw_dict {ke ve : Expr} {gs : List Comprehension} {blk : Scope} {pos py : Pos} {y : Str} {l : Nat} {env : PySem.Env} (hk : env.scope.kind = .function) (hy : env.scope.names.lookup y = some .local) (hl : (py.line == pos.line) = true)
    (ha : (blk.names.any fun (n, k) => n == y && (k == .local || k == .cell)) = false) : swapsWith (.DictComp ke ve gs blk pos) (some (.Name y py)) l env = pure true := by
  unfold swapsWith
  have k1 : env.kindOf y = some .local := hy
  have k2 : env.blockKind = .function := by unfold Env.blockKind; rw [hk]; rfl
  simp only [k1, k2, ha, Expr.pos, hl]
  rfl
end
end Ev
set_option Elab.async false
set_option linter.all false
set_option maxRecDepth 100000
set_option autoImplicit false
/-! Ev, part D: how the store lies in the heap; what a piece of the interpreter says of a piece of the text. -/
namespace Ev
open PySem L2

/-- the run: program, world, what the top wrote, and where the text's defs and classes stand -/
structure G where
  P : Program
  w : World
  K : PySem.W.Frag
  mg : Str → Option Value
  base : Heap
  fa : Nat → Addr
  ca : Nat → Addr
  T : Tab
  xf : Nat → Option Str
def G.fn (g : G) (i : Nat) : Str := g.T.flds.getD i ""

mutual
inductive Em (g : G) (H : Hp) (φ : List Addr) : D → V → Prop
  | non : Em g H φ .non .non
  | bl (b : Bool) : Em g H φ (.bl b) (.bl b)
  | int (i : Int) : Em g H φ (.int i) (.int i)
  | str (x : Str) : Em g H φ (.str x) (.str x)
  | tup {a : Addr} {vs : List V} {ds : List D} : SqT g.K H a vs → Ems g H φ ds vs → Em g H φ (.tup ds) (.ref a)
  | ref {n : Nat} {a : Addr} : φ[n]? = some a → Em g H φ (.ref n) (.ref a)
  | fn (n : Nat) : Em g H φ (.fn n) (.ref (g.fa n))
  | cls (n : Nat) : Em g H φ (.cls n) (.ref (g.ca n))
inductive Ems (g : G) (H : Hp) (φ : List Addr) : List D → List V → Prop
  | nil : Ems g H φ [] []
  | cons {d : D} {ds : List D} {v : V} {vs : List V} : Em g H φ d v → Ems g H φ ds vs → Ems g H φ (d :: ds) (v :: vs)
end
/-- what stands at an address, as an object of the store -/
def HOm (g : G) (H : Hp) (φ : List Addr) : O → HO → Prop
  | .lst ds, ho => ∃ vs, ho = .lst vs ∧ Ems g H φ ds vs
  | .dK kvs, ho => ∃ ws, ho = .dK ws ∧ ws.map (·.1) = kvs.map (·.1) ∧ Ems g H φ (kvs.map (·.2)) (ws.map (·.2))
  | .dT kvs, ho => ∃ a xs vs, ho = tdO g.P g.w a xs ∧ xs.map (·.1) = kvs.map (·.1) ∧ TdOk g.K H a xs ∧ Ems g H φ (kvs.map (·.2)) vs ∧ Vals vs (xs.map (·.2.2))
  | .ins c fs, ho => ∃ dx ws, ho = .ins (g.ca c) dx ws ∧ ws.map (·.1) = fs.map (fun p => g.fn p.1) ∧ Ems g H φ (fs.map (·.2)) (ws.map (·.2)) ∧ ∀ p ∈ fs, p.1 < g.T.flds.length
  | .exn _ _, _ => False
  | .lk o, ho => ∃ ob ho', ho = .frz ob ho' ∧ HOm g H φ o ho'
/-- an exception at a -/
def XAt (g : G) (H : Hp) (φ : List Addr) (a : Addr) (c : Nat) (fs : List (Nat × D)) : Prop :=
  (fs = [] ∧ H a = some (exo a (g.ca c) none)) ∨ ∃ dx f d v, fs = [(f, d)] ∧ H a = some (exo a (g.ca c) (some dx)) ∧ H dx = some (exd dx [(g.fn f, v)]) ∧ Em g H φ d v
/-- from one heap to a later one: tuples stay, names of objects stay, what is not in the store is as it was -/
structure Le (g : G) (H : Hp) (φ : List Addr) (H' : Hp) (φ' : List Addr) : Prop where
  tup : ∀ (a : Addr) (xs : List V), SqT g.K H a xs → SqT g.K H' a xs
  pre : ∀ (n : Nat) (a : Addr), φ[n]? = some a → φ'[n]? = some a
  xd : ∀ (p d : Addr) (fs : List (Str × V)), H p = some (exd d fs) → H' p = some (exd d fs)
structure Ext (g : G) (H : Hp) (φ : List Addr) (H' : Hp) (φ' : List Addr) : Prop extends Le g H φ H' φ' where
  out : ∀ (p : Addr) (o : HO), H p = some o → p ∉ φ → H' p = some o ∧ p ∉ φ'
  dom : ∀ (p : Addr), H' p = none → H p = none
  frz : ∀ (p : Addr) (o : Obj) (u : HO), H p = some (.frz o u) → H' p = some (.frz o u)
structure Rel (g : G) (H : Hp) (φ : List Addr) (S : Store) : Prop where
  len : φ.length = S.length
  nd : φ.Nodup
  at_ : ∀ (n : Nat) (o : O), S[n]? = some o → isX o = false → ∃ a ho, φ[n]? = some a ∧ H a = some ho ∧ HOm g H φ o ho
  exn : ∀ (n c : Nat) (fs : List (Nat × D)), S[n]? = some (.exn c fs) → ∃ a, φ[n]? = some a ∧ XAt g H φ a c fs
structure RelE (g : G) (H : Hp) (φ : List Addr) (σ : Env) (τ : St) : Prop where
  len : σ.length = τ.length
  at_ : ∀ (i : Nat) (d : D), σ[i]? = some (some d) → ∃ v, τ[i]? = some (some v) ∧ Em g H φ d v
/-- a value, or an object that stands at an address of its own -/
def TEm (g : G) (H : Hp) (φ : List Addr) : T → V → Prop
  | .v d, v => Em g H φ d v
  | .t o, v => ∃ p ho, v = .ref p ∧ H p = some ho ∧ p ∉ φ ∧ HOm g H φ o ho
/-- it is younger than H -/
def Fr (H : Hp) : T → V → Prop
  | .v _, _ => True
  | .t _, v => ∀ p, v = .ref p → H p = none
inductive TEms (g : G) (H : Hp) (φ : List Addr) : List T → List V → Prop
  | nil : TEms g H φ [] []
  | cons {t : T} {ts : List T} {v : V} {vs : List V} : TEm g H φ t v → TEms g H φ ts vs → TEms g H φ (t :: ts) (v :: vs)
/-- an error's own dict -/
def XEm (g : G) (H : Hp) (φ : List Addr) (c : Nat) (dd : List D) (dx : Option Addr) : Prop := match g.xf c with
  | none => dd = [] ∧ dx = none
  | some f => ∃ d a v, dd = [d] ∧ dx = some a ∧ H a = some (.xd [(f, v)]) ∧ Em g H φ d v ∧ a ∉ φ

section
variable {g : G} {H H' H2 : Hp} {φ φ' φ2 : List Addr}
theorem Ext.refl : Ext g H φ H φ := ⟨⟨fun _ _ h => h, fun _ _ h => h, fun _ _ _ h => h⟩, fun _ _ h k => ⟨h, k⟩, fun _ h => h, fun _ _ _ h => h⟩
theorem Le.trans (a : Le g H φ H' φ') (b : Le g H' φ' H2 φ2) : Le g H φ H2 φ2 := ⟨fun p xs h => b.tup p xs (a.tup p xs h), fun n p h => b.pre n p (a.pre n p h), fun p d fs h => b.xd p d fs (a.xd p d fs h)⟩
theorem Ext.trans (a : Ext g H φ H' φ') (b : Ext g H' φ' H2 φ2) : Ext g H φ H2 φ2 :=
  ⟨⟨fun p xs h => b.tup p xs (a.tup p xs h), fun n p h => b.pre n p (a.pre n p h), fun p d fs h => b.xd p d fs (a.xd p d fs h)⟩, fun p o h k => by
    obtain ⟨h1, k1⟩ := a.out p o h k
    exact b.out p o h1 k1, fun p h => a.dom p (b.dom p h), fun p o u h => b.frz p o u (a.frz p o u h)⟩
mutual
theorem Em.mono (e : Le g H φ H' φ') : ∀ (d : D) (v : V), Em g H φ d v → Em g H' φ' d v
  | .non, _, h => by cases h; exact .non
  | .bl _, _, h => by cases h; exact .bl _
  | .int _, _, h => by cases h; exact .int _
  | .str _, _, h => by cases h; exact .str _
  | .tup ds, _, h => by
    cases h with
    | tup hs ha => exact .tup (e.tup _ _ hs) (Ems.mono e ds _ ha)
  | .ref _, _, h => by
    cases h with
    | ref hn => exact .ref (e.pre _ _ hn)
  | .fn _, _, h => by cases h; exact .fn _
  | .cls _, _, h => by cases h; exact .cls _
theorem Ems.mono (e : Le g H φ H' φ') : ∀ (ds : List D) (vs : List V), Ems g H φ ds vs → Ems g H' φ' ds vs
  | [], _, h => by cases h; exact .nil
  | d :: ds, _, h => by
    cases h with
    | cons h1 h2 => exact .cons (Em.mono e d _ h1) (Ems.mono e ds _ h2)
end
theorem Em.ext {d : D} {v : V} (h : Em g H φ d v) (e : Le g H φ H' φ') : Em g H' φ' d v := Em.mono e d v h
theorem Ems.ext {ds : List D} {vs : List V} (h : Ems g H φ ds vs) (e : Le g H φ H' φ') : Ems g H' φ' ds vs := Ems.mono e ds vs h
theorem Ems.length : ∀ {ds : List D} {vs : List V}, Ems g H φ ds vs → ds.length = vs.length
  | [], _, h => by cases h; rfl
  | _ :: ds, _, h => by
    cases h with
    | cons _ h2 => simp [Ems.length h2]
theorem Ems.get : ∀ {ds : List D} {vs : List V} {i : Nat} {d : D}, Ems g H φ ds vs → ds[i]? = some d → ∃ v, vs[i]? = some v ∧ Em g H φ d v
  | [], _, _, _, _, e => by simp at e
  | d :: ds, _, 0, _, h, e => by
    cases h with
    | cons h1 _ => simp at e; subst e; exact ⟨_, rfl, h1⟩
  | d :: ds, _, i + 1, _, h, e => by
    cases h with
    | cons _ h2 =>
      obtain ⟨v, h3, h4⟩ := Ems.get (i := i) h2 (by simpa using e)
      exact ⟨v, by simpa using h3, h4⟩
theorem Ems.append : ∀ {ds es : List D} {vs ws : List V}, Ems g H φ ds vs → Ems g H φ es ws → Ems g H φ (ds ++ es) (vs ++ ws)
  | [], _, _, _, h, k => by cases h; exact k
  | _ :: ds, _, _, _, h, k => by
    cases h with
    | cons h1 h2 => exact .cons h1 (Ems.append h2 k)
theorem Ems.take : ∀ {ds : List D} {vs : List V} (n : Nat), Ems g H φ ds vs → Ems g H φ (ds.take n) (vs.take n)
  | _, _, 0, _ => by rw [List.take_zero, List.take_zero]; exact .nil
  | [], _, _ + 1, h => by cases h; rw [List.take_nil, List.take_nil]; exact .nil
  | _ :: _, _, n + 1, h => by
    cases h with
    | cons h1 h2 => rw [List.take_succ_cons, List.take_succ_cons]; exact .cons h1 (Ems.take n h2)
theorem Ems.drop : ∀ {ds : List D} {vs : List V} (n : Nat), Ems g H φ ds vs → Ems g H φ (ds.drop n) (vs.drop n)
  | _, _, 0, h => h
  | [], _, _ + 1, h => by cases h; exact .nil
  | _ :: _, _, n + 1, h => by
    cases h with
    | cons h1 h2 => exact Ems.drop n h2
theorem Ems.set : ∀ {ds : List D} {vs : List V} {d : D} {v : V} (i : Nat), Ems g H φ ds vs → Em g H φ d v → Ems g H φ (ds.set i d) (vs.set i v)
  | [], _, _, _, _, h, _ => by cases h; exact .nil
  | _ :: _, _, _, _, 0, h, k => by
    cases h with
    | cons _ h2 => exact .cons k h2
  | _ :: _, _, _, _, i + 1, h, k => by
    cases h with
    | cons h1 h2 => exact .cons h1 (Ems.set i h2 k)
theorem Ems.rep {ds : List D} {vs : List V} (h : Ems g H φ ds vs) : ∀ k : Nat, Ems g H φ (List.replicate k ds).flatten (List.replicate k vs).flatten
  | 0 => .nil
  | k + 1 => by
    rw [List.replicate_succ, List.replicate_succ, List.flatten_cons, List.flatten_cons]
    exact h.append (Ems.rep h k)
theorem Ems.reverse : ∀ {ds : List D} {vs : List V}, Ems g H φ ds vs → Ems g H φ ds.reverse vs.reverse
  | [], _, h => by cases h; exact .nil
  | d :: ds, _, h => by
    cases h with
    | cons h1 h2 =>
      rw [List.reverse_cons, List.reverse_cons]
      exact (Ems.reverse h2).append (.cons h1 .nil)
theorem Ems.dropLast : ∀ {ds : List D} {vs : List V}, Ems g H φ ds vs → Ems g H φ ds.dropLast vs.dropLast := fun {ds vs} h => by
  rw [List.dropLast_eq_take, List.dropLast_eq_take, h.length]
  exact h.take _
theorem HOm.ext : ∀ {o : O} {ho : HO}, HOm g H φ o ho → Le g H φ H' φ' → HOm g H' φ' o ho
  | .lst _, _, ⟨vs, h1, h2⟩, e => ⟨vs, h1, h2.ext e⟩
  | .dK _, _, ⟨vs, h1, h2, h3⟩, e => ⟨vs, h1, h2, h3.ext e⟩
  | .dT _, _, ⟨a, xs, vs, h1, h2, h3, h4, h5⟩, e => ⟨a, xs, vs, h1, h2, ⟨h3.sm, h3.nd, fun x hx => e.tup _ _ (h3.ks x hx)⟩, h4.ext e, h5⟩
  | .ins _ _, _, ⟨dx, vs, h1, h2, h3, h4⟩, e => ⟨dx, vs, h1, h2, h3.ext e, h4⟩
  | .exn _ _, _, h, _ => h
  | .lk _, _, ⟨ob, ho, h1, h2⟩, e => ⟨ob, ho, h1, HOm.ext h2 e⟩
/-- no tuple: it may change -/
theorem HOm.notup : ∀ {o : O} {ho : HO}, HOm g H φ o ho → (∀ xs, ho ≠ .tup xs) ∧ ∀ ob xs, ho ≠ .frz ob (.tup xs)
  | .lst _, _, ⟨vs, h1, h2⟩ => by subst h1; exact ⟨fun _ z => (nomatch z), fun _ _ z => (nomatch z)⟩
  | .dK _, _, ⟨vs, h1, h2, h3⟩ => by subst h1; exact ⟨fun _ z => (nomatch z), fun _ _ z => (nomatch z)⟩
  | .dT _, _, ⟨a, xs, vs, h1, _⟩ => by subst h1; exact ⟨fun _ z => (nomatch (show HO.ext _ = HO.tup _ from z)), fun _ _ z => (nomatch (show HO.ext _ = HO.frz _ _ from z))⟩
  | .ins _ _, _, ⟨dx, vs, h1, h2, h3, h4⟩ => by subst h1; exact ⟨fun _ z => (nomatch z), fun _ _ z => (nomatch z)⟩
  | .exn _ _, _, h => h.elim
  | .lk _, _, ⟨ob, ho, h1, h2⟩ => by
    subst h1
    refine ⟨fun _ z => (nomatch z), fun ob' xs z => ?_⟩
    injection z with _ z2
    exact (HOm.notup h2).1 xs z2
theorem TEm.ext {t : T} {v : V} (h : TEm g H φ t v) (e : Ext g H φ H' φ') : TEm g H' φ' t v := by
  cases t with
  | v d => exact Em.ext h e.toLe
  | t o =>
    obtain ⟨p, ho, h1, h2, h3, h4⟩ := h
    obtain ⟨k1, k2⟩ := e.out p ho h2 h3
    exact ⟨p, ho, h1, k1, k2, h4.ext e.toLe⟩
theorem TEms.ext : ∀ {ts : List T} {vs : List V}, TEms g H φ ts vs → Ext g H φ H' φ' → TEms g H' φ' ts vs
  | [], _, h, _ => by cases h; exact .nil
  | _ :: _, _, h, e => by
    cases h with
    | cons h1 h2 => exact .cons (h1.ext e) (TEms.ext h2 e)
theorem Fr.ext {t : T} {v : V} (h : Fr H' t v) (e : Ext g H φ H' φ') : Fr H t v := by
  cases t with
  | v d => trivial
  | t o => exact fun p hp => e.dom p (h p hp)
theorem RelE.ext {σ : Env} {τ : St} (h : RelE g H φ σ τ) (e : Ext g H φ H' φ') : RelE g H' φ' σ τ := ⟨h.len, fun i d hd => by
  obtain ⟨v, h1, h2⟩ := h.at_ i d hd
  exact ⟨v, h1, h2.ext e.toLe⟩⟩
theorem XEm.ext {c : Nat} {dd : List D} {dx : Option Addr} (h : XEm g H φ c dd dx) (e : Ext g H φ H' φ') : XEm g H' φ' c dd dx := by
  unfold XEm at h ⊢
  split at h
  · exact h
  · obtain ⟨d, a, v, h1, h2, h3, h4, h5⟩ := h
    obtain ⟨k1, k2⟩ := e.out a _ h3 h5
    exact ⟨d, a, v, h1, h2, k1, h4.ext e.toLe, k2⟩
theorem XAt.live {a : Addr} {c : Nat} {fs : List (Nat × D)} (h : XAt g H φ a c fs) : ∃ ho, H a = some ho := by
  rcases h with ⟨_, h⟩ | ⟨dx, f, d, v, _, h, _⟩
  · exact ⟨_, h⟩
  · exact ⟨_, h⟩
theorem XAt.mono {a : Addr} {c : Nat} {fs : List (Nat × D)} (h : XAt g H φ a c fs) (e : Le g H φ H' φ') (ha : H' a = H a) : XAt g H' φ' a c fs := by
  rcases h with ⟨h1, h⟩ | ⟨dx, f, d, v, h1, h2, h3, h4⟩
  · exact .inl ⟨h1, ha.trans h⟩
  · exact .inr ⟨dx, f, d, v, h1, ha.trans h2, e.xd _ _ _ h3, h4.ext e⟩
theorem Rel.mem {S : Store} (r : Rel g H φ S) {a : Addr} (h : a ∈ φ) : ∃ ho, H a = some ho := by
  obtain ⟨n, hn, e⟩ := List.mem_iff_getElem.mp h
  have hs : n < S.length := by rw [← r.len]; exact hn
  have this : φ[n]? = some a := by rw [List.getElem?_eq_getElem hn, e]
  have hS : S[n]? = some S[n] := List.getElem?_eq_getElem hs
  generalize S[n] = o at hS
  cases hx : isX o with
  | false =>
    obtain ⟨a', ho, h1, h2, h3⟩ := r.at_ n o hS hx
    rw [this] at h1; cases h1
    exact ⟨ho, h2⟩
  | true =>
    cases o with
    | exn c fs =>
      obtain ⟨a', h1, h2⟩ := r.exn n c fs hS
      rw [this] at h1; cases h1
      exact h2.live
    | _ => cases hx
theorem Rel.notin {S : Store} (r : Rel g H φ S) {p : Addr} (h : H p = none) : p ∉ φ := fun hm => by
  obtain ⟨ho, h2⟩ := r.mem hm
  rw [h] at h2; cases h2
theorem Rel.step {S : Store} (r : Rel g H φ S) (k : ∀ a ∈ φ, H' a = H a) (e : Le g H φ H' φ) : Rel g H' φ S := ⟨r.len, r.nd, fun n o hn hx => by
  obtain ⟨a, ho, h1, h2, h3⟩ := r.at_ n o hn hx
  exact ⟨a, ho, h1, by rw [k a (List.mem_of_getElem? h1)]; exact h2, h3.ext e⟩, fun n c fs hn => by
  obtain ⟨a, h1, h2⟩ := r.exn n c fs hn
  exact ⟨a, h1, h2.mono e (k a (List.mem_of_getElem? h1))⟩⟩
theorem SqT.updN {K : PySem.W.Frag} {a p : Addr} {xs : List V} {u : HO} (h : SqT K H a xs) (hp : H p = none) : SqT K (upd H p u) a xs := by
  rcases h with h | h
  · rcases h with h | ⟨o, h⟩
    · exact .inl (.inl (by rw [upd_ne (ne_of_none h hp)]; exact h))
    · exact .inl (.inr ⟨o, by rw [upd_ne (ne_of_none h hp)]; exact h⟩)
  · exact .inr h
/-- a new object, of nobody yet -/
theorem HOm.nofrz {o : O} {ho : HO} (h : HOm g H φ o ho) (hl : ∀ o', o ≠ .lk o') : ∀ ob u, ho ≠ .frz ob u := by
  intro ob u z
  cases o with
  | lst _ => obtain ⟨vs, h1, _⟩ := h; rw [h1] at z; cases z
  | dK _ => obtain ⟨vs, h1, _⟩ := h; rw [h1] at z; cases z
  | dT _ => obtain ⟨a, xs, vs, h1, _⟩ := h; rw [h1] at z; exact nomatch (show HO.ext _ = HO.frz _ _ from z)
  | ins _ _ => obtain ⟨dx, vs, h1, _⟩ := h; rw [h1] at z; cases z
  | exn _ _ => exact h
  | lk o' => exact hl o' rfl
theorem Ext.new {p : Addr} {u : HO} (hp : H p = none) : Ext g H φ (upd H p u) φ := ⟨⟨fun a xs h => SqT.updN h hp, fun _ _ h => h, fun q d fs h => by rw [upd_ne (ne_of_none h hp)]; exact h⟩, fun q o h k => ⟨by rw [upd_ne (ne_of_none h hp)]; exact h, k⟩, fun q h => by
  by_cases e : q = p
  · subst e; exact hp
  · rw [upd_ne e] at h; exact h, fun q o' u' h => by rw [upd_ne (ne_of_none h hp)]; exact h⟩
theorem Rel.new {S : Store} {p : Addr} {u : HO} (r : Rel g H φ S) (hp : H p = none) : Rel g (upd H p u) φ S := r.step (fun a ha => by
  obtain ⟨ho, h2⟩ := r.mem ha
  rw [upd_ne (ne_of_none h2 hp)]) (Ext.new hp).toLe
theorem Le.more {ψ : List Addr} : Le g H φ H (φ ++ ψ) := ⟨fun _ _ h => h, fun n a h => by
  rw [List.getElem?_append_left (List.getElem?_eq_some_iff.mp h).1]
  exact h, fun _ _ _ h => h⟩
/-- an object comes into the store: it is younger than H -/
theorem Ext.take_in {p : Addr} (e : Ext g H φ H' φ') (hp : H p = none) : Ext g H φ H' (φ' ++ [p]) := by
  refine ⟨⟨e.tup, fun n a h => Le.more (g := g) (H := H').pre n a (e.pre n a h), e.xd⟩, fun q o h k => ?_, e.dom, e.frz⟩
  obtain ⟨h1, h2⟩ := e.out q o h k
  refine ⟨h1, fun hm => ?_⟩
  rcases List.mem_append.mp hm with hm | hm
  · exact h2 hm
  · have : q = p := by simpa using hm
    subst this
    rw [hp] at h; cases h
theorem nodup_snoc {p : Addr} (nd : φ.Nodup) (hn : p ∉ φ) : (φ ++ [p]).Nodup := by
  rw [List.nodup_append]
  refine ⟨nd, by simp, fun a ha b hb => ?_⟩
  have : b = p := by simpa using hb
  subst this
  exact fun e => hn (e ▸ ha)
theorem at_snoc {S : Store} {n : Nat} {o o' : O} (h : (S ++ [o])[n]? = some o') : S[n]? = some o' ∨ (n = S.length ∧ o' = o) := by
  by_cases hl : n < S.length
  · rw [List.getElem?_append_left hl] at h
    exact .inl h
  · have hnn : n = S.length := by
      have := (List.getElem?_eq_some_iff.mp h).1
      simp at this
      omega
    subst hnn
    rw [List.getElem?_append_right (Nat.le_refl _)] at h
    simp at h
    exact .inr ⟨rfl, h.symm⟩
/-- an exception comes into the store -/
theorem Rel.take_x {S : Store} {p : Addr} {c : Nat} {fs : List (Nat × D)} (r : Rel g H φ S) (hn : p ∉ φ) (hx : XAt g H φ p c fs) : Rel g H (φ ++ [p]) (S ++ [.exn c fs]) := by
  refine ⟨by simp [r.len], nodup_snoc r.nd hn, fun n o' hn' hx' => ?_, fun n c' fs' hn' => ?_⟩
  · rcases at_snoc hn' with h | ⟨rfl, rfl⟩
    · obtain ⟨a, ho', h1, h2, h3⟩ := r.at_ n o' h hx'
      exact ⟨a, ho', Le.more (g := g) (H := H).pre n a h1, h2, h3.ext Le.more⟩
    · cases hx'
  · rcases at_snoc hn' with h | ⟨rfl, e⟩
    · obtain ⟨a, h1, h2⟩ := r.exn n c' fs' h
      exact ⟨a, Le.more (g := g) (H := H).pre n a h1, h2.mono Le.more rfl⟩
    · cases e
      exact ⟨p, by rw [← r.len, List.getElem?_append_right (Nat.le_refl _)]; simp, hx.mono Le.more rfl⟩
theorem HOm.nox {o : O} {ho : HO} (h : HOm g H φ o ho) : isX o = false := by
  cases o with
  | exn c fs => exact h.elim
  | _ => rfl
theorem HOm.noxd : ∀ {o : O} {ho : HO}, HOm g H φ o ho → ∀ d fs, ho ≠ exd d fs
  | .lst _, _, ⟨vs, h1, h2⟩ => by subst h1; exact fun d fs z => (nomatch (show HO.lst vs = HO.ext _ from z))
  | .dK _, _, ⟨vs, h1, h2, h3⟩ => by subst h1; exact fun d fs z => (nomatch (show HO.dK vs = HO.ext _ from z))
  | .dT _, _, ⟨a, xs, vs, h1, _⟩ => by subst h1; exact fun d fs z => td_ne_exd z
  | .ins c _, _, ⟨dx, vs, h1, h2, h3, h4⟩ => by subst h1; exact fun d fs z => (nomatch (show HO.ins (g.ca c) dx vs = HO.ext _ from z))
  | .exn _ _, _, h => h.elim
  | .lk _, _, ⟨ob, ho, h1, h2⟩ => by subst h1; exact fun d fs z => (nomatch (show HO.frz ob ho = HO.ext _ from z))
theorem Rel.take_in {S : Store} {p : Addr} {o : O} {ho : HO} (r : Rel g H φ S) (hp : H p = some ho) (hn : p ∉ φ) (hm : HOm g H φ o ho) : Rel g H (φ ++ [p]) (S ++ [o]) := by
  refine ⟨by simp [r.len], nodup_snoc r.nd hn, fun n o' hn' hx => ?_, fun n c fs hn' => ?_⟩
  · rcases at_snoc hn' with h | ⟨rfl, rfl⟩
    · obtain ⟨a, ho', h1, h2, h3⟩ := r.at_ n o' h hx
      exact ⟨a, ho', Le.more (g := g) (H := H).pre n a h1, h2, h3.ext Le.more⟩
    · exact ⟨p, ho, by rw [← r.len, List.getElem?_append_right (Nat.le_refl _)]; simp, hp, hm.ext Le.more⟩
  · rcases at_snoc hn' with h | ⟨rfl, e⟩
    · obtain ⟨a, h1, h2⟩ := r.exn n c fs h
      exact ⟨a, Le.more (g := g) (H := H).pre n a h1, h2.mono Le.more rfl⟩
    · rw [← e] at hm
      exact hm.elim
/-- an object of the store is changed -/
theorem SqT.updT {K : PySem.W.Frag} {a p : Addr} {xs : List V} {ho u : HO} (h : SqT K H a xs) (hp : H p = some ho) (h1 : ∀ xs, ho ≠ .tup xs) (h2 : ∀ ob xs, ho ≠ .frz ob (.tup xs)) : SqT K (upd H p u) a xs := by
  rcases h with h | h
  · rcases h with h | ⟨o, h⟩
    · refine .inl (.inl ?_)
      rw [upd_ne (fun e => ?_)]
      · exact h
      · rw [e, hp] at h; cases h; exact h1 _ rfl
    · refine .inl (.inr ⟨o, ?_⟩)
      rw [upd_ne (fun e => ?_)]
      · exact h
      · rw [e, hp] at h; cases h; exact h2 _ _ rfl
  · exact .inr h
theorem Le.put {p : Addr} {o : O} {ho u : HO} (ho' : H p = some ho) (hm : HOm g H φ o ho) : Le g H φ (upd H p u) φ := by
  refine ⟨fun a xs h => SqT.updT h ho' hm.notup.1 hm.notup.2, fun _ _ h => h, fun q d fs h => ?_⟩
  rw [upd_ne (fun e => ?_)]
  · exact h
  · rw [e, ho'] at h; cases h; exact hm.noxd _ _ rfl
theorem Ext.put {S : Store} {n : Nat} {p : Addr} {o : O} {ho u : HO} (r : Rel g H φ S) (hn : φ[n]? = some p) (ho' : H p = some ho) (hm : HOm g H φ o ho) (hl : ∀ o', o ≠ .lk o') : Ext g H φ (upd H p u) φ := by
  refine ⟨Le.put ho' hm, fun q o h k => ?_, fun q h => ?_, fun q ob u' h => ?_⟩
  · rw [upd_ne (fun e => ?_)]
    · exact ⟨h, k⟩
    · subst e; exact k (List.mem_of_getElem? hn)
  · by_cases e : q = p
    · subst e; rw [upd_same] at h; cases h
    · rw [upd_ne e] at h; exact h
  · rw [upd_ne (fun e => ?_)]
    · exact h
    · rw [e, ho'] at h; cases h; exact hm.nofrz hl _ _ rfl
theorem nodup_at {l : List Addr} {i j : Nat} {a : Addr} (nd : l.Nodup) (h1 : l[i]? = some a) (h2 : l[j]? = some a) : i = j := by
  obtain ⟨hi, e1⟩ := List.getElem?_eq_some_iff.mp h1
  obtain ⟨hj, e2⟩ := List.getElem?_eq_some_iff.mp h2
  have p : ∀ (i j : Nat) (hi : i < l.length) (hj : j < l.length), i < j → l[i] ≠ l[j] := List.pairwise_iff_getElem.mp nd
  rcases Nat.lt_trichotomy i j with h | h | h
  · exact absurd (e1.trans e2.symm) (p i j hi hj h)
  · exact h
  · exact absurd (e2.trans e1.symm) (p j i hj hi h)
theorem Rel.put {S : Store} {n : Nat} {p : Addr} {o o' : O} {ho u : HO} (r : Rel g H φ S) (hs : S[n]? = some o) (hn : φ[n]? = some p) (ho' : H p = some ho) (hm : HOm g H φ o ho) (hu : HOm g H φ o' u) : Rel g (upd H p u) φ (S.set n o') := by
  have e : Le g H φ (upd H p u) φ := Le.put ho' hm
  refine ⟨by simp [r.len], r.nd, fun m o2 hm2 hx => ?_, fun m c fs hm2 => ?_⟩
  · by_cases hmn : m = n
    · subst hmn
      rw [List.getElem?_set_self (List.getElem?_eq_some_iff.mp hs).1] at hm2
      cases hm2
      exact ⟨p, u, hn, upd_same, hu.ext e⟩
    · rw [List.getElem?_set_ne (Ne.symm hmn)] at hm2
      obtain ⟨a, h2, k1, k2, k3⟩ := r.at_ m o2 hm2 hx
      refine ⟨a, h2, k1, ?_, k3.ext e⟩
      rw [upd_ne (fun ea => hmn (nodup_at r.nd k1 (by rw [ea]; exact hn)))]
      exact k2
  · by_cases hmn : m = n
    · subst hmn
      rw [List.getElem?_set_self (List.getElem?_eq_some_iff.mp hs).1] at hm2
      cases hm2
      exact hu.elim
    · rw [List.getElem?_set_ne (Ne.symm hmn)] at hm2
      obtain ⟨a, k1, k2⟩ := r.exn m c fs hm2
      exact ⟨a, k1, k2.mono e (upd_ne (fun ea => hmn (nodup_at r.nd k1 (by rw [ea]; exact hn))))⟩
/-- the object that is meant -/
theorem TEm.objW {S : Store} {t : T} {v : V} {o : O} (r : Rel g H φ S) (h : TEm g H φ t v) (e : objW S t = some o) (hx : isX o = false) : ∃ p ho, v = .ref p ∧ H p = some ho ∧ HOm g H φ o ho := by
  cases t with
  | v d =>
    cases d with
    | ref n =>
      obtain ⟨a, ho, h1, h2, h3⟩ := r.at_ n o e hx
      cases h with
      | ref hn =>
        rw [h1] at hn; cases hn
        exact ⟨a, ho, rfl, h2, h3⟩
    | _ => cases e
  | t o' =>
    cases e
    obtain ⟨p, ho, h1, h2, _, h4⟩ := h
    exact ⟨p, ho, h1, h2, h4⟩
theorem HOm.lstR {H : Hp} {p : Addr} {o : O} {ho : HO} {ds : List D} (hp : H p = some ho) (h : HOm g H φ o ho) (e : unlk o = .lst ds) : ∃ vs, SqL g.K H p vs ∧ Ems g H φ ds vs := by
  cases o with
  | lst ds' =>
    cases e
    obtain ⟨vs, rfl, h2⟩ := h
    exact ⟨vs, .inl (.inl hp), h2⟩
  | lk o' =>
    have e' : o' = .lst ds := e
    subst e'
    obtain ⟨ob, ho', rfl, vs, rfl, h2⟩ := h
    exact ⟨vs, .inl (.inr ⟨ob, hp⟩), h2⟩
  | _ => cases e
theorem TEm.objR {S : Store} {t : T} {v : V} {o : O} (r : Rel g H φ S) (h : TEm g H φ t v) (e : Ev.objR S t = some o) (hx : isX o = false) : ∃ p ho o', v = .ref p ∧ H p = some ho ∧ HOm g H φ o' ho ∧ (o = o' ∨ o = unlk o') := by
  cases t with
  | v d =>
    cases d with
    | ref n =>
      have e' : (S[n]?).map unlk = some o := e
      cases hs : S[n]? with
      | none => rw [hs] at e'; cases e'
      | some o2 =>
        rw [hs] at e'
        have e2 := Option.some.inj e'
        have hx2 : isX o2 = false := by
          cases o2 with
          | exn c fs => rw [← e2] at hx; exact hx
          | _ => rfl
        obtain ⟨p, ho, h1, h2, h3⟩ := TEm.objW (t := .v (.ref n)) r h hs hx2
        exact ⟨p, ho, o2, h1, h2, h3, .inr e2.symm⟩
    | _ => cases e
  | t o' =>
    cases e
    obtain ⟨p, ho, h1, h2, _, h4⟩ := h
    exact ⟨p, ho, _, h1, h2, h4, .inl rfl⟩
theorem TEm.lstR {S : Store} {t : T} {v : V} {ds : List D} (r : Rel g H φ S) (h : TEm g H φ t v) (e : Ev.lstR S t = some ds) : ∃ p vs, v = .ref p ∧ SqL g.K H p vs ∧ Ems g H φ ds vs := by
  have e0 : Ev.objR S t = some (.lst ds) := by
    unfold Ev.lstR at e
    split at e
    · cases e; assumption
    · cases e
  obtain ⟨p, ho, o', h1, h2, h3, h4⟩ := h.objR r e0 rfl
  have hu : unlk o' = .lst ds := by
    rcases h4 with h4 | h4
    · rw [← h4]; rfl
    · exact h4.symm
  obtain ⟨vs, k1, k2⟩ := HOm.lstR h2 h3 hu
  exact ⟨p, vs, h1, k1, k2⟩
theorem TEm.lstW {S : Store} {t : T} {v : V} {ds : List D} (r : Rel g H φ S) (h : TEm g H φ t v) (e : Ev.lstW S t = some ds) : ∃ p vs, v = .ref p ∧ H p = some (.lst vs) ∧ Ems g H φ ds vs := by
  have e0 : Ev.objW S t = some (.lst ds) := by
    unfold Ev.lstW at e
    split at e
    · cases e; assumption
    · cases e
  obtain ⟨p, ho, h1, h2, vs, rfl, h3⟩ := h.objW r e0 rfl
  exact ⟨p, vs, h1, h2, h3⟩
theorem TEm.seqR {S : Store} {t : T} {v : V} {ds : List D} (r : Rel g H φ S) (h : TEm g H φ t v) (e : Ev.seqR S t = some ds) : ∃ p vs, v = .ref p ∧ (SqL g.K H p vs ∨ SqT g.K H p vs) ∧ Ems g H φ ds vs := by
  by_cases ht : ∃ es, t = .v (.tup es)
  · obtain ⟨es, rfl⟩ := ht
    have e' : some es = some ds := e
    cases e'
    cases h with
    | tup h1 h2 => exact ⟨_, _, rfl, .inr h1, h2⟩
  · have e' : Ev.lstR S t = some ds := by
      unfold Ev.seqR at e
      split at e
      · exact absurd ⟨_, rfl⟩ ht
      · exact e
    obtain ⟨p, vs, h1, h2, h3⟩ := h.lstR r e'
    exact ⟨p, vs, h1, .inl h2, h3⟩
end
end Ev
set_option Elab.async false
set_option linter.all false
set_option maxRecDepth 100000
set_option autoImplicit false
set_option maxHeartbeats 4000000
/-! Ev, part Y: sorted of tuples of ints of any length; a dict looked for in a list of tuples. -/
namespace Ev
open PySem PySem.W PySem.Calls PyProof.Rows
section
variable {prog : Program} {w : World} {A : Around} {E : Value → Shared → Prop} {s : Shared}
/-- v is a tuple of these ints -/
def TupI (h : Heap) (v : Value) (ns : List Int) : Prop := ∃ (a : Addr) (its : List Value), v = .ref a ∧ IsTup h a its.toArray ∧ IntsAre its ns
theorem TupI.keeps {h h' : Heap} {v : Value} {ns : List Int} (x : TupI h v ns) (k : ∀ b o, v = .ref b → h.get? b = some o → h'.get? b = some o) : TupI h' v ns := by
  obtain ⟨a, its, e, ⟨o, ho, r⟩, hi⟩ := x
  exact ⟨a, its, e, ⟨o, k _ _ e ho, r⟩, hi⟩
theorem TupI.type {M : Model} {h : Heap} {v : Value} {ns : List Int} (x : TupI h v ns) : Looks M h (typeOf v) (.type "tuple") := by
  obtain ⟨a, its, rfl, ⟨o, ho, hc, _⟩, _⟩ := x
  have y : Looks M h (typeOf (.ref a)) o.cls := (Looks.ld ho).andThen .now
  rw [hc] at y
  exact y
/-- the first item of a tuple -/
def fstOf (h : Heap) : Value → Option Value
  | .ref a => match h.get? a with
    | some o => match o.data with
      | .seq its _ => its[0]?
      | _ => none
    | none => none
  | _ => none
theorem mapM_to {α β : Type} {f : α → Sem β} {g : α → β} : ∀ (l : List α) {Q : List β → Shared → Prop}, (∀ v ∈ l, ∀ (Q' : β → Shared → Prop), Q' (g v) s → wpAny (model prog w) A (f v) Q' E s) → Q (l.map g) s → wpAny (model prog w) A (l.mapM f) Q E s
  | [], _, _, h => by rw [List.mapM_nil]; exact wpAny_pure h
  | x :: l, Q, hf, h => by
    rw [List.mapM_cons]
    exact wpAny_bind (hf x (.head _) _ (wpAny_bind (mapM_to l (Q := fun bs s' => wpAny (model prog w) A (pure (g x :: bs)) Q E s') (fun v hv => hf v (.tail _ hv)) (wpAny_pure h))))
theorem first_at {v : Value} {ns : List Int} {Q : Option Value → Shared → Prop} (x : TupI s.heap v ns) (h : Q (fstOf s.heap v) s) : wpAny (model prog w) A (firstOfTuple' v) Q E s := by
  have ty := x.type (M := model prog w)
  obtain ⟨a, its, rfl, ⟨o, ho, hc, n, hd⟩, hi⟩ := x
  rw [kas_first_eq]
  refine wpAny_bind (ty.here ?_)
  rw [if_neg (by first | decide | simp)]
  refine wpAny_bind (listItems_at ho hd (wpAny_pure ?_))
  have e : fstOf s.heap (.ref a) = its.toArray[0]? := by
    unfold fstOf
    simp only [ho, hd]
  rw [e] at h
  exact h
theorem fst_some {h : Heap} {v f : Value} {ns : List Int} (x : TupI h v ns) (e : fstOf h v = some f) : ∃ i t, f = .int i t := by
  obtain ⟨a, its, rfl, ⟨o, ho, hc, n, hd⟩, hi⟩ := x
  unfold fstOf at e
  simp only [ho, hd] at e
  cases hi with
  | nil => simp at e
  | cons i t r =>
    simp at e
    exact ⟨i, t, e.symm⟩
theorem all_first {h : Heap} : ∀ (vs : List Value) (k : Value → List Int), (∀ v ∈ vs, TupI h v (k v)) → (∀ v ∈ vs, (fstOf h v).isSome = true) → ∀ f ∈ (vs.map (fstOf h)).filterMap id, ∃ i t, f = Value.int i t := by
  intro vs k hv _ f hf
  rw [List.mem_filterMap] at hf
  obtain ⟨o, ho, e⟩ := hf
  obtain ⟨v, hm, rfl⟩ := List.mem_map.mp ho
  exact fst_some (hv v hm) e
/-- how a list of tuples of ints is sorted -/
theorem kind_tup {vs : List Value} {k : Value → List Int} (h2 : 2 ≤ vs.length) (hv : ∀ v ∈ vs, TupI s.heap v (k v)) {R : SortKind → Prop} (h1 : R (tuples' true)) (h3 : R general') (h4 : R oneType') :
    ∃ κ, R κ ∧ ∀ (Q : SortKind → Shared → Prop) (E : Value → Shared → Prop), Q κ s → wpAny (model prog w) A (keyKind' vs.toArray) Q E s := by
  by_cases ha : ((vs.map (fstOf s.heap)).toArray.all fun x => x.isSome) = true
  · refine ⟨tuples' true, h1, fun Q E hq => ?_⟩
    rw [kat_kind_eq, List.mapM_toArray, map_eq_pure_bind]
    refine wpAny_bind (wpAny_bind (mapM_to (g := fstOf s.heap) vs (fun v hm Q' q' => first_at (hv v hm) q') (wpAny_pure ?_)))
    rw [if_pos ha]
    refine wpAny_bind (wpAny_rule ?_)
    have hfm : ((vs.map (fstOf s.heap)).toArray.filterMap id) = ((vs.map (fstOf s.heap)).filterMap id).toArray := by simp
    have hall : ∀ v ∈ vs, (fstOf s.heap v).isSome = true := fun v hm => by
      simp only [List.all_toArray, List.all_map, List.all_eq_true] at ha
      exact ha v hm
    have hint := all_first vs k hv hall
    have hne : (vs.map (fstOf s.heap)).filterMap id ≠ [] := by
      match vs, h2, hall with
      | v :: r, _, hall =>
        obtain ⟨f, hf⟩ := Option.isSome_iff_exists.mp (hall v List.mem_cons_self)
        rw [List.map_cons, List.filterMap_cons, hf]
        simp
    rw [hfm]
    generalize (vs.map (fstOf s.heap)).filterMap id = fs at hint hne
    rw [oneTypeOnly'_eq, List.mapM_toArray, map_eq_pure_bind]
    refine wpAny_bind (wpAny_bind (wpAny_bind (mapM_to (g := fun _ => Value.type "int") fs (fun v hm Q' q' => by
      obtain ⟨i, t, rfl⟩ := hint v hm
      exact wpAny_pure q') (wpAny_pure ?_))))
    obtain ⟨f₁, fr, rfl⟩ : ∃ f₁ fr, fs = f₁ :: fr := by
      match fs, hne with
      | f₁ :: fr, _ => exact ⟨f₁, fr, rfl⟩
    have hall2 : ((List.map (fun _ => Value.type "int") (f₁ :: fr)).toArray.all fun x => x == Value.type "int") = true := by
      simp only [List.all_toArray, List.all_map, List.all_eq_true]
      intro _ _
      rfl
    have h0 : (List.map (fun _ => Value.type "int") (f₁ :: fr)).toArray[0]? = some (Value.type "int") := by simp
    rw [h0]
    simp only [hall2, if_true]
    have e : (Value.type "int" != Value.type "tuple") = true := by first | decide +kernel | rfl | decide
    refine wpAny_pure (wpAny_pure ?_)
    show Q (tuples' (Value.type "int" != Value.type "tuple")) s
    rw [e]
    exact hq
  · by_cases hb : ((vs.map (fstOf s.heap)).toArray[0]?.bind id).isSome = true
    · refine ⟨general', h3, fun Q E hq => ?_⟩
      rw [kat_kind_eq, List.mapM_toArray, map_eq_pure_bind]
      refine wpAny_bind (wpAny_bind (mapM_to (g := fstOf s.heap) vs (fun v hm Q' q' => first_at (hv v hm) q') (wpAny_pure ?_)))
      rw [if_neg ha, if_pos hb]
      exact wpAny_pure hq
    · refine ⟨oneType', h4, fun Q E hq => ?_⟩
      rw [kat_kind_eq, List.mapM_toArray, map_eq_pure_bind]
      refine wpAny_bind (wpAny_bind (mapM_to (g := fstOf s.heap) vs (fun v hm Q' q' => first_at (hv v hm) q') (wpAny_pure ?_)))
      rw [if_neg ha, if_neg hb]
      rw [oneTypeOnly'_eq, List.mapM_toArray, map_eq_pure_bind]
      refine wpAny_bind (wpAny_bind (wpAny_bind (mapM_to (g := fun _ => Value.type "tuple") vs (fun v hm Q' q' => (hv v hm).type.here q') (wpAny_pure ?_))))
      obtain ⟨f₁, fr, rfl⟩ : ∃ f₁ fr, vs = f₁ :: fr := by
        match vs, h2 with
        | f₁ :: fr, _ => exact ⟨f₁, fr, rfl⟩
      have hall2 : ((List.map (fun _ => Value.type "tuple") (f₁ :: fr)).toArray.all fun x => x == Value.type "tuple") = true := by
        simp only [List.all_toArray, List.all_map, List.all_eq_true]
        intro _ _
        rfl
      have h0 : (List.map (fun _ => Value.type "tuple") (f₁ :: fr)).toArray[0]? = some (Value.type "tuple") := by simp
      rw [h0]
      simp only [hall2, if_true]
      exact wpAny_pure (wpAny_pure hq)
theorem kat_ints {fin : Bool} {Q : Bool → Shared → Prop} : ∀ {vs us : List Value} {ns ms : List Int} (i : Nat), IntsAre vs ns → IntsAre us ms → fin = decide (ns.length < ms.length) → Q (HT.lexLt ns ms) s → KatLex prog w A true fin Q (vs.zip us) i s
  | _, _, _, _, i, .nil, .nil, hf, h => by
    refine kat_nil ?_
    rw [hf]
    exact h
  | _, _, _, _, i, .nil, .cons m t r, hf, h => by
    refine kat_nil ?_
    rw [hf]
    exact h
  | _, _, _, _, i, .cons n t r, .nil, hf, h => by
    refine kat_nil ?_
    rw [hf]
    exact h
  | _, _, _, _, i, .cons (ns := ns) n t r, .cons (ns := ms) m u r', hf, h => by
    rw [HT.lexLt_cons] at h
    refine kat_cons (SeqAt.EqAt.int_int n t m u prog w _ _ ?_)
    refine kat_go (fun e1 => ?_) (fun e1 => ?_)
    · have ex : n = m := by simpa using e1
      rw [if_pos ex] at h
      exact kat_yes (kat_ints (i + 1) r r' (by rw [hf]; simp) h)
    · have ex : ¬ n = m := by simpa using e1
      rw [if_neg ex] at h
      refine kat_no ?_
      cases hb : (true && i == 0) with
      | true => exact oneLt_int h
      | false => exact kat_one _ _ (PyProof.Rows.lt_int h)
theorem lt_kind {v u : Value} {ns ms : List Int} {κ : SortKind} {Q : Bool → Shared → Prop} (hu : A.units < cLine) (hk : κ = tuples' true ∨ κ = general' ∨ κ = oneType') (hv : TupI s.heap v ns) (hw : TupI s.heap u ms) (h : Q (HT.lexLt ns ms) s) :
    wpAny (model prog w) A (keyLt' κ v u) Q E s := by
  obtain ⟨a, its, rfl, ha, ia⟩ := hv
  obtain ⟨b, its2, rfl, hb, ib⟩ := hw
  rcases hk with rfl | rfl | rfl
  · obtain ⟨o, ho, hc, n, hd⟩ := ha
    obtain ⟨o2, ho2, hc2, n2, hd2⟩ := hb
    refine kat_lt ho hd ho2 hd2 ?_
    refine kat_ints 0 ia ib ?_ h
    rw [List.size_toArray, List.size_toArray, ← ia.length, ← ib.length]
  · show wpAny (model prog w) A (oneLt' false (.ref a) (.ref b)) Q E s
    exact kat_one _ _ (HT.lt_tupInts ha hb ia ib hu h)
  · rw [keyLt'_oneType, oneLt'_eq]
    simp only [if_true]
    refine wpAny_bind (wpAny_cRoomFor hu ?_)
    obtain ⟨⟨cls, dd, data, sl⟩, ho, hc, n, hd⟩ := id ha
    obtain ⟨⟨cls2, dd2, data2, sl2⟩, ho2, hc2, n2, hd2⟩ := id hb
    simp only at hc hd hc2 hd2
    subst hc hd hc2 hd2
    refine wpAny_bind (wpAny_callSpecialIfBound?_slot (T := "tuple") ⟨_, ho, rfl⟩ PySem.F.slot_tuple_lt (call_meets PySem.F.slot_tuple_lt ⟨_, ho, rfl⟩ PySem.F.entry_tuple_lt (PySem.F.args_tuple_lt_2 _ _)
      (HT.tuple_lt_ints a b its.toArray its2.toArray n n2 dd dd2 sl sl2 ns ms ia ib) ⟨ho, ho2, ?_⟩))
    exact wpAny_truthy_bool h
theorem tup_sortable {a : Addr} {vs : List Value} {k : Value → List Int} (h2 : 2 ≤ vs.length) (hu : A.units < cLine) (hv : ∀ v ∈ vs, TupI s.heap v (k v)) (ha : ∀ v ∈ vs, v ≠ .ref a) :
    SrtO.SortableO prog w A s a vs fun v u => HT.lexLt (k v) (k u) := by
  intro h' keep
  have hv' : ∀ v ∈ vs, TupI h' v (k v) := fun v hm => (hv v hm).keeps fun b o e g => keep b o (fun z => ha v hm (by rw [e, z])) g
  obtain ⟨κ, hk, hw⟩ := kind_tup (prog := prog) (w := w) (A := A) (s := { s with heap := h' }) (R := fun κ => κ = tuples' true ∨ κ = general' ∨ κ = oneType') h2 hv' (.inl rfl) (.inr (.inl rfl)) (.inr (.inr rfl))
  refine ⟨κ, hw, fun p q hp hq => ?_⟩
  exact lt_kind (s := { s with heap := h' }) (Q := fun r s' => s' = { s with heap := h' } ∧ r = HT.lexLt (k p.1) (k q.1)) hu hk (hv' _ hp) (hv' _ hq) ⟨rfl, rfl⟩
end
end Ev

namespace L2
open PySem PySem.Spec PyProof.Rows
/-- sorted(xs), xs a list of tuples of ints (k says which) -/
def rSortedTI (K : PySem.W.Frag) : List V → Hp → VK → Prop := fun vs H Q => ∃ (a : Addr) (xs : List V) (k : V → List Int), vs = [V.ref a] ∧ SqL K H a xs ∧ (∀ x ∈ xs, ∃ t, x = V.ref t ∧ SqT K H t ((k x).map V.int)) ∧
  ∀ ys p, SrtO.Srtd (fun x y => HT.lexLt (k x) (k y)) ys → SrtO.Stb (fun x y => HT.lexLt (k x) (k y)) ys xs → H p = none → Q (.ref p) (upd H p (.lst ys))
section
variable {X : Cx}
theorem cr_sortedTI (hu : X.A.units + 64 < cLine) : CallR X (.builtin "sorted") (rSortedTI X.K) := by
  intro pins s σ H vs us Q I r h
  obtain ⟨a, xs, k, rfl, hs, hx, q⟩ := h
  obtain ⟨its, rv, hl, hz⟩ := I.list hs
  obtain ⟨u, rfl, ru⟩ := vals1 r
  obtain rfl : u = Value.ref a := ru
  obtain ⟨e1, e2⟩ := refs_back rv fun x m => by
    obtain ⟨t, e, _⟩ := hx x m
    exact ⟨t, e⟩
  have hzs : its.length ≤ sizeLine := by rw [← rv.length]; exact hz
  have hp : ∀ v ∈ its, Ev.TupI s.heap v (k (backV v)) := fun v hv => by
    obtain ⟨t, rfl⟩ := e2 v hv
    have hm : V.ref t ∈ xs := by rw [e1]; exact List.mem_map.mpr ⟨_, hv, rfl⟩
    obtain ⟨t', e, ht⟩ := hx _ hm
    cases e
    obtain ⟨its2, r2, ht2, _⟩ := I.tuple ht
    exact ⟨t, its2, rfl, ht2, intsAre_of r2⟩
  refine SrtO.sorted_ord (NtL.swo_lexL fun u => k (backV u)) hl.isList hzs (fun h2 h₁ a' ha kk => ?_) fun out h1 h2 => ?_
  · refine Ev.tup_sortable (s := { s with heap := h₁ }) h2 (by show X.A.units + 1 + 1 < cLine; omega) (fun v hv => (hp v hv).keeps fun b o _ e => (kk b o e).2) fun v hv z => ?_
    obtain ⟨t, its2, e, ⟨o, ho, _⟩, _⟩ := hp v hv
    rw [e] at z
    exact (kk t o ho).1 (Value.ref.inj z)
  · have h3 : ∀ u ∈ out, ∃ a, u = Value.ref a := fun u hu => e2 u (h2.perm.mem_iff.mp hu)
    obtain ⟨ep, he'⟩ := PyProof.Rows.sortedAll_at s.heap its out.toArray
    have hb : SrtO.Stb (fun x y => HT.lexLt (k x) (k y)) (out.map backV) xs := by
      rw [e1]
      exact SrtO.Stb.map (NtL.swo_lexL k) backV h2
    have hlen : (out.map backV).length ≤ sizeLine := by
      rw [hb.len]
      exact hz
    exact ⟨.ref _, upd H (s.heap.objs.size + 1) (.lst (out.map backV)), I.laid (t' := s.toks) (fun _ _ => PyProof.Rows.sortedAll_old) (Nat.le_succ _) ⟨hlen, out, ep, vals_back h3, he'⟩, rfl, q _ _ (SrtO.srtd_map h1) hb (I.hok.fresh (Nat.le_succ _))⟩
end
end L2

/-! ### a dict looked for in a list of tuples -/
namespace Ev
open PySem PySem.W PySem.Calls PyProof.Rows
section
open PySem.SeqAt
open PySem.AutoSeq1 (wpAny_loadPart')
open PySem.MeetsSeq
theorem tuple_eq_declines_dict (l b : Addr) (items : Array Value) (n : Nat) (dd : Option Addr) (sl : Array (Option Value)) :
    Meets (Builtin.«tuple.__eq__» ⟨[.ref l, .ref b], []⟩) (fun _ R s => s.heap.get? l = some { cls := .type "tuple", dict := dd, data := .seq items n, slots := sl } ∧ s.TypeIs (.ref b) "dict" ∧ R (.ok (.ret .notImplemented)) s) :=
  .of_wp fun prog w A R s h => by
    obtain ⟨hp, g, d, tk, os⟩ := s
    obtain ⟨hl, hb, h⟩ := h
    obtain ⟨⟨c2, d2, x2, s2⟩, ho2, hc2⟩ := hb
    simp only at hc2 ho2
    subst hc2
    have f1 := F.sub_dict_tuple
    wp_walk using wpAny_loadPart' hl, wpAny_loadPart' ho2
    exact ⟨_, rfl, h⟩
variable {A : Around} {s : Shared}
theorem RcAt.tuple_dict {l b : Addr} {items : Array Value} (hl : s.heap.IsTuple l items) (hb : s.TypeIs (.ref b) "dict") (hu : A.units < cLine) : RcAt A s (.ref l) (.ref b) false := fun prog w E Q h => by
  obtain ⟨⟨cls, dd, data, sl⟩, ho, hc, n, hd⟩ := id hl
  obtain ⟨ob, ho2, hc2⟩ := id hb
  simp only at hc hd
  subst hc hd
  have hne : l ≠ b := fun e => by
    subst e
    rw [ho] at ho2
    cases ho2
    exact absurd hc2 (by simp)
  exact (rc_eq_decline_or (k := false) ⟨_, ho, rfl⟩ hb (by decide) F.sub_dict_tuple F.slot_tuple_eq F.slot_dict_eq_refl
    (fun _ hq => call_meets F.slot_tuple_eq ⟨_, ho, rfl⟩ F.entry_tuple_eq (F.args_tuple_eq_2 _ _) (tuple_eq_declines_dict l b items n dd sl) ⟨ho, hb, hq⟩)
    (fun _ hq => wpAny_call_entry PySem.F.slot_dict_eq_refl hb PySem.F.entry_dict_eq (by
      show wpAny _ _ (Builtin.Dict.dictSlotArgs "__eq__" ⟨[.ref b, .ref l], []⟩ >>= _) _ _ s
      refine wpAny_bind ?_
      unfold Builtin.Dict.dictSlotArgs
      refine wpAny_bind (wpAny_notOrdered_dict hb ?_)
      show wpAny _ _ (pure (Value.ref b, Value.ref l)) _ _ s
      refine wpAny_pure ?_
      refine wpAny_bind (wpAny_isInstance (T := "tuple") ⟨_, ho, rfl⟩ PySem.F.sub_tuple_dict ?_)
      simp only [Bool.not_false, if_true]
      exact wpAny_bind (wpAny_rule (wpAny_bind (wpAny_pure (wpAny_pure ⟨_, rfl, hq⟩))))) (PySem.F.args_dict_eq_2 _ _))
    (fun _ hq => wpAny_isSame_ref_other' hne ho ho2 (by rw [hc2]; simp) hq) (.inr hu) h)
theorem EqAt.tuple_dict {l b : Addr} {items : Array Value} (hl : s.heap.IsTuple l items) (hb : s.TypeIs (.ref b) "dict") (hu : A.units < cLine) : EqAt A s (.ref l) (.ref b) false := by
  refine SeqAt.EqAt.of_refs (fun e => ?_) (RcAt.tuple_dict hl hb hu)
  subst e
  obtain ⟨o, ho, hc, _⟩ := hl
  obtain ⟨o2, ho2, hc2⟩ := hb
  rw [ho] at ho2
  cases ho2
  rw [hc] at hc2
  exact absurd hc2 (by simp)
end
end Ev
namespace L2
open PySem PySem.Spec PyProof.Rows
section
variable {X : Cx}
/-- x [not] in ys, x a dict, ys a list of tuples -/
def rInDT (K : PySem.W.Frag) (r : Bool) : R2 := fun x y H Q => ∃ (d a : Addr) (xs : List V) (kvs : List (Key × V)), x = .ref d ∧ Rd H d (.dK kvs) ∧ y = .ref a ∧ SqL K H a xs ∧ (∀ z ∈ xs, ∃ t zs, z = V.ref t ∧ SqT K H t zs) ∧ Q (.bl r) H
theorem vals_mem : ∀ {xs : List V} {its : List Value}, Vals xs its → ∀ v ∈ its, ∃ x ∈ xs, RelV x v
  | _, _, .nil, v, h => absurd h (by simp)
  | _, _, .cons r t, v, h => by
    rcases List.mem_cons.mp h with e | h
    · subst e
      exact ⟨_, List.mem_cons_self, r⟩
    · obtain ⟨x, hx, r⟩ := vals_mem t v h
      exact ⟨x, List.mem_cons_of_mem _ hx, r⟩
theorem dT_items {pins : List (Addr × Obj)} {σ : St} {H : Hp} {s : Shared} {d : Addr} {xs : List V} {kvs : List (Key × V)} {its : List Value} (hu : X.A.units + 64 < cLine) (I : Inv X pins σ H s) (rv : Vals xs its) (hd : Rd H d (.dK kvs)) (hx : ∀ z ∈ xs, ∃ t zs, z = V.ref t ∧ SqT X.K H t zs) :
    ∀ v ∈ its.toArray, SeqAt.EqAt X.A.in1 s v (.ref d) false := fun v hv => by
  obtain ⟨x, hm, r⟩ := vals_mem rv v (by simpa using hv)
  obtain ⟨t, zs, rfl, ht⟩ := hx x hm
  cases r
  obtain ⟨its2, r2, ht2, _⟩ := I.tuple ht
  have td : s.TypeIs (.ref d) "dict" := by
    obtain ⟨_, _, vs, _, hd⟩ := hd.ok I.hok
    exact hd.typeIs
  exact Ev.EqAt.tuple_dict (A := X.A.in1) ht2 td (by show X.A.units + _ < cLine; omega)
theorem op_inDT (hu : X.A.units + 64 < cLine) : OpR X (compareOp .In) (rInDT X.K false) := by
  intro pins s σ H x y v u Q I rx ry h
  obtain ⟨d, a, xs, kvs, rfl, hd, rfl, hs, hx, q⟩ := h
  cases rx
  cases ry
  obtain ⟨its, rv, hl, hz⟩ := I.list hs
  refine SeqAt.in_listAt (fun _ => false) hl.isList (dT_items hu I rv hd hx) ?_
  have e : (its.toArray.any fun _ => false) = false := by simp
  rw [e]
  exact ⟨.bl _, H, I, rfl, q⟩
theorem op_notInDT (hu : X.A.units + 64 < cLine) : OpR X (compareOp .NotIn) (rInDT X.K true) := by
  intro pins s σ H x y v u Q I rx ry h
  obtain ⟨d, a, xs, kvs, rfl, hd, rfl, hs, hx, q⟩ := h
  cases rx
  cases ry
  obtain ⟨its, rv, hl, hz⟩ := I.list hs
  refine SeqAt.notIn_listAt (fun _ => false) hl.isList (dT_items hu I rv hd hx) ?_
  have e : (its.toArray.any fun _ => false) = false := by simp
  rw [e]
  exact ⟨.bl _, H, I, rfl, q⟩
end
end L2
set_option Elab.async false
set_option linter.all false
set_option maxRecDepth 100000
set_option autoImplicit false
set_option maxHeartbeats 1000000
/-! Ev, part E: the operations by values. -/
namespace Ev
open PySem L2

/-- from H, φ on: K of what comes, W of an exception -/
def Post (g : G) (W : WX) (H : Hp) (φ : List Addr) (τ : St) {α : Type} (K : α → Store → Hp → List Addr → Prop) : R α → Prop
  | .ok a S' => ∀ H' φ', Ext g H φ H' φ' → Rel g H' φ' S' → K a S' H' φ'
  | .ex c dd S' => ∀ H' φ' dx, Ext g H φ H' φ' → Rel g H' φ' S' → XEm g H' φ' c dd dx → W (.ref (g.ca c)) dx τ H'
  | .bad => False
section
variable {g : G} {W : WX} {H H1 : Hp} {φ φ1 : List Addr} {τ : St} {α β : Type} {K K' : α → Store → Hp → List Addr → Prop}
theorem Post.shift {r : R α} (e : Ext g H φ H1 φ1) (h : Post g W H φ τ K r) : Post g W H1 φ1 τ K r := by
  cases r with
  | ok a S => exact fun H' φ' e' r' => h H' φ' (e.trans e') r'
  | ex c dd S => exact fun H' φ' dx e' r' x => h H' φ' dx (e.trans e') r' x
  | bad => exact h
theorem Post.mono {r : R α} (h : Post g W H φ τ K r) (k : ∀ a S' H' φ', Ext g H φ H' φ' → Rel g H' φ' S' → K a S' H' φ' → K' a S' H' φ') : Post g W H φ τ K' r := by
  cases r with
  | ok a S => exact fun H' φ' e' r' => k a S H' φ' e' r' (h H' φ' e' r')
  | ex c dd S => exact h
  | bad => exact h
theorem Post.bnd {r : R α} {f : α → Store → R β} {K : β → Store → Hp → List Addr → Prop} (h : Post g W H φ τ K (r.bind f)) : Post g W H φ τ (fun a S1 _ _ => Post g W H φ τ K (f a S1)) r := by
  cases r with
  | ok a S => exact fun H' φ' e' r' => h
  | ex c dd S => exact h
  | bad => exact h
theorem Post.ofO {S : Store} {o : Option α} (h : Post g W H φ τ K (Ev.ofO S o)) : ∃ a, o = some a ∧ Post g W H φ τ K (.ok a S) := by
  cases o with
  | none => exact (show False from h).elim
  | some a => exact ⟨a, rfl, h⟩
end

/-- what an operation asks and gives -/
def rOp (g : G) (f : Store → T → T → Option T) : R2 := fun x y H Q => ∃ S φ t1 t2 t, Rel g H φ S ∧ TEm g H φ t1 x ∧ TEm g H φ t2 y ∧ f S t1 t2 = some t ∧
  ∀ H' v, Ext g H φ H' φ → Rel g H' φ S → TEm g H' φ t v → Fr H t v → Q v H'
section
variable {g : G} {X : Cx} {pins : List (Addr × Obj)} {s : Shared} {σ : St} {H : Hp} {φ : List Addr} {S : Store} {Q : VK}
/-- a new object, handed on as one's own -/
theorem give_new {o : O} {ho : HO} {p : Addr} (r : Rel g H φ S) (hp : H p = none) (hm : HOm g H φ o ho) (h : ∀ H' v, Ext g H φ H' φ → Rel g H' φ S → TEm g H' φ (.t o) v → Fr H (.t o) v → Q v H') : Q (.ref p) (upd H p ho) :=
  h _ _ (Ext.new hp) (r.new hp) ⟨p, ho, rfl, upd_same, r.notin hp, hm.ext (Ext.new (φ := φ) (g := g) hp).toLe⟩ fun q e => by cases e; exact hp
theorem give_tup {ds : List D} {vs : List V} {p : Addr} (r : Rel g H φ S) (hp : H p = none) (hm : Ems g H φ ds vs) (h : ∀ H' v, Ext g H φ H' φ → Rel g H' φ S → TEm g H' φ (.v (.tup ds)) v → Fr H (.v (.tup ds)) v → Q v H') : Q (.ref p) (upd H p (.tup vs)) :=
  h _ _ (Ext.new hp) (r.new hp) (Em.tup (SqT.of upd_same) (hm.ext (Ext.new (φ := φ) (g := g) hp).toLe)) trivial
theorem give {d : D} {v : V} (r : Rel g H φ S) (hm : Em g H φ d v) (h : ∀ H' v, Ext g H φ H' φ → Rel g H' φ S → TEm g H' φ (.v d) v → Fr H (.v d) v → Q v H') : Q v H := h H v Ext.refl r hm trivial
theorem B64_ok {i : Int} (h : B64 i = true) : -(2 ^ 64) < i ∧ i < 2 ^ 64 := by
  unfold B64 at h
  rw [Bool.and_eq_true, decide_eq_true_eq, decide_eq_true_eq] at h
  exact h
theorem opI_sound {op : Operator} {o : Op2} (hb : binC op = some o) {i j z : Int} (hz : opI o i j = some z) {t u : Tok} (I : Inv X pins σ H s) (q : Q (.int z) H) :
    wpAny (model X.prog X.w) X.A (binaryOp op (.int i t) (.int j u)) (EP X pins σ Q) X.xe s := by
  have rx : RelV (.int i) (.int i t) := ⟨_, rfl⟩
  have ry : RelV (.int j) (.int j u) := ⟨_, rfl⟩
  cases op <;> simp only [binC, Option.some.injEq, reduceCtorEq] at hb <;> subst hb <;> simp only [opI] at hz
  case Add => cases hz; exact op_add pins s σ H _ _ _ _ Q I rx ry ⟨_, _, rfl, rfl, q⟩
  case Sub => cases hz; exact op_sub pins s σ H _ _ _ _ Q I rx ry ⟨_, _, rfl, rfl, q⟩
  case Mult =>
    split at hz
    · rename_i hc
      cases hz
      rw [Bool.or_eq_true] at hc
      exact op_mul pins s σ H _ _ _ _ Q I rx ry ⟨_, _, rfl, rfl, hc.elim (fun h => .inl (B64_ok h)) (fun h => .inr (B64_ok h)), q⟩
    · cases hz
  case Mod =>
    split at hz
    · cases hz; exact op_mod pins s σ H _ _ _ _ Q I rx ry ⟨_, _, rfl, rfl, by assumption, q⟩
    · cases hz
  case Pow =>
    split at hz
    · cases hz; exact op_pow pins s σ H _ _ _ _ Q I rx ry ⟨_, _, rfl, rfl, by assumption, q⟩
    · cases hz
  case LShift =>
    split at hz
    · cases hz; exact op_shl pins s σ H _ _ _ _ Q I rx ry ⟨_, _, rfl, rfl, by assumption, q⟩
    · cases hz
  case RShift =>
    split at hz
    · cases hz; exact op_shr pins s σ H _ _ _ _ Q I rx ry ⟨_, _, rfl, rfl, by assumption, q⟩
    · cases hz
  case BitOr => cases hz; exact op_or pins s σ H _ _ _ _ Q I rx ry ⟨_, _, rfl, rfl, q⟩
  case BitXor => cases hz; exact op_xor pins s σ H _ _ _ _ Q I rx ry ⟨_, _, rfl, rfl, q⟩
  case BitAnd => cases hz; exact op_and pins s σ H _ _ _ _ Q I rx ry ⟨_, _, rfl, rfl, q⟩
  case FloorDiv =>
    split at hz
    · cases hz; exact op_fdiv pins s σ H _ _ _ _ Q I rx ry ⟨_, _, rfl, rfl, by assumption, q⟩
    · cases hz
theorem binC_add {op : Operator} (h : binC op = some .add) : op = .Add := by cases op <;> simp_all [binC]
theorem binC_mul {op : Operator} (h : binC op = some .mul) : op = .Mult := by cases op <;> simp_all [binC]
theorem opL_sound {op : Operator} {o : Op2} (hb : binC op = some o) {a b t : T} {x y : V} {v u : Value} (I : Inv X pins σ H s) (rx : RelV x v) (ry : RelV y u) (r : Rel g H φ S) (ha : TEm g H φ a x) (hb' : TEm g H φ b y) (ht : opL S o a b = some t)
    (h : ∀ H' v, Ext g H φ H' φ → Rel g H' φ S → TEm g H' φ t v → Fr H t v → Q v H') : wpAny (model X.prog X.w) X.A (binaryOp op v u) (EP X pins σ Q) X.xe s := by
  unfold opL at ht
  split at ht
  · -- lists put together
    have e := binC_add hb
    subst e
    split at ht
    · rename_i xs ys hx hy
      split at ht
      · rename_i hl
        cases ht
        obtain ⟨p, vs, e1, h1, m1⟩ := ha.lstW r hx
        obtain ⟨q, ws, e2, h2, m2⟩ := hb'.lstW r hy
        exact op_cat pins s σ H _ _ _ _ Q I rx ry ⟨p, q, vs, ws, e1, e2, h1, h2, by rw [← m1.length, ← m2.length]; exact hl, fun n hn => give_new (o := .lst _) r hn ⟨_, rfl, m1.append m2⟩ h⟩
      · cases ht
    · cases ht
  · rename_i k
    have e := binC_mul hb
    subst e
    split at ht
    · rename_i _ xs hx
      split at ht
      · rename_i hl
        cases ht
        obtain ⟨p, vs, e1, h1, m1⟩ := ha.lstW r hx
        cases hb'
        exact op_rep pins s σ H _ _ _ _ Q I rx ry ⟨p, k, vs, e1, rfl, h1, hl.1, hl.2.1, by rw [← m1.length]; exact hl.2.2, fun n hn => give_new (o := .lst _) r hn ⟨_, rfl, m1.rep _⟩ h⟩
      · cases ht
    · cases ht
  · cases ht
theorem op_sound {op : Operator} {o : Op2} (hK : X.K = g.K) (hb : binC op = some o) : OpR X (binaryOp op) (rOp g fun S a b => opE S o a b) := by
  rintro pins s σ H x y v u Q I rx ry ⟨S, φ, a, b, t, r, ha, hb', ht, h⟩
  simp only [opE] at ht
  split at ht
  · -- ints
    rename_i i j
    cases ha
    cases hb'
    obtain ⟨t1, rfl⟩ := rx
    obtain ⟨t2, rfl⟩ := ry
    cases hz : opI o i j with
    | none => rw [hz] at ht; cases ht
    | some z =>
      rw [hz] at ht
      cases ht
      exact opI_sound hb hz I (give r (.int _) h)
  · -- texts
    have e := binC_add hb
    subst e
    split at ht
    · cases ht
      cases ha
      cases hb'
      exact op_add_str pins s σ H _ _ _ _ Q I rx ry ⟨_, _, rfl, rfl, by assumption, give r (.str _) h⟩
    · cases ht
  · -- tuples
    have e := binC_add hb
    subst e
    split at ht
    · rename_i hl
      cases ht
      cases ha with
      | tup h1 m1 =>
        cases hb' with
        | tup h2 m2 =>
          rw [← hK] at h1 h2
          refine op_catA pins s σ H _ _ _ _ Q I rx ry ⟨_, _, _, _, rfl, rfl, h1, h2, by rw [← m1.length, ← m2.length]; exact hl, fun z => ?_, fun _ z => ?_, fun _ _ n hn => give_tup r hn (m1.append m2) h⟩
          · subst z
            cases m1
            rw [hK] at h2
            exact give r (.tup h2 m2) h
          · subst z
            cases m2
            rw [hK] at h1
            rw [List.append_nil] at h
            exact give r (.tup h1 m1) h
    · cases ht
  · have e := binC_mul hb
    subst e
    split at ht
    · rename_i hl
      cases ht
      cases ha with
      | tup h1 m1 =>
        cases hb'
        rw [← hK] at h1
        refine op_repT pins s σ H _ _ _ _ Q I rx ry ⟨_, _, _, rfl, rfl, h1, fun z => ?_, hl.2.1, hl.2.2.1, by rw [← m1.length]; exact hl.2.2.2, fun n hn => give_tup r hn (m1.rep _) h⟩
        subst z
        cases m1
        exact hl.1 rfl
    · cases ht
  · exact opL_sound hb I rx ry r ha hb' ht h

/-! ### comparisons -/
mutual
theorem toPyW_dp {f : Nat → Option PyData} (hf : ∀ (n : Nat) (p : PyData), f n = some p → ∀ v, Em g H φ (.ref n) v → Dp g.K H v p) : ∀ (d : D) (p : PyData) (v : V), toPyW f d = some p → Em g H φ d v → Dp g.K H v p
  | .non, p, _, e, h => by cases h; cases e; exact .non
  | .bl _, p, _, e, h => by cases h; cases e; exact .bl _
  | .int _, p, _, e, h => by cases h; cases e; exact .int _
  | .str _, p, _, e, h => by cases h; cases e; exact .str _
  | .tup ds, p, _, e, h => by
    cases h with
    | tup h1 h2 =>
      rw [toPyW] at e
      cases hq : toPysW f ds with
      | none => rw [hq] at e; cases e
      | some ps =>
        rw [hq] at e
        cases e
        exact .tup h1 (toPysW_dp hf ds ps _ hq h2)
  | .ref n, p, v, e, h => hf n p e v h
  | .fn _, p, _, e, h => by cases e
  | .cls _, p, _, e, h => by cases e
theorem toPysW_dp {f : Nat → Option PyData} (hf : ∀ (n : Nat) (p : PyData), f n = some p → ∀ v, Em g H φ (.ref n) v → Dp g.K H v p) : ∀ (ds : List D) (ps : List PyData) (vs : List V), toPysW f ds = some ps → Ems g H φ ds vs → DpAll g.K H vs ps
  | [], ps, _, e, h => by cases h; cases e; exact .nil
  | d :: ds, ps, _, e, h => by
    cases h with
    | cons h1 h2 =>
      rw [toPysW] at e
      cases hq : toPyW f d with
      | none => rw [hq] at e; cases e
      | some q =>
        rw [hq] at e
        cases hr : toPysW f ds with
        | none => rw [Option.bind_some, hr] at e; cases e
        | some qs =>
          rw [Option.bind_some, hr] at e
          cases e
          exact .cons (toPyW_dp hf d q _ hq h1) (toPysW_dp hf ds qs _ hr h2)
end
theorem refPy_dp (r : Rel g H φ S) : ∀ (k n : Nat) (p : PyData), refPy k S n = some p → ∀ v, Em g H φ (.ref n) v → Dp g.K H v p
  | 0, _, _, e, _, _ => by cases e
  | k + 1, n, p, e, v, h => by
    rw [refPy] at e
    cases hl : lstR S (.v (.ref n)) with
    | none => rw [hl] at e; cases e
    | some ds =>
      rw [hl, Option.bind_some] at e
      cases hq : toPysW (refPy k S) ds with
      | none => rw [hq] at e; cases e
      | some ps =>
        rw [hq] at e
        cases e
        obtain ⟨q, vs, rfl, h1, h2⟩ := TEm.lstR (t := .v (.ref n)) r h hl
        exact .lst h1 (toPysW_dp (refPy_dp r k) ds ps vs hq h2)
theorem toPy_dp (r : Rel g H φ S) {t : T} {p : PyData} {v : V} (e : toPy S t = some p) (h : TEm g H φ t v) : Dp g.K H v p := by
  cases t with
  | v d => exact toPyW_dp (refPy_dp r 3) d p v e h
  | t o =>
    cases o with
    | lst ds =>
      have e' : (toPysW (refPy 3 S) ds).map PyData.list = some p := e
      cases hq : toPysW (refPy 3 S) ds with
      | none => rw [hq] at e'; cases e'
      | some ps =>
        rw [hq] at e'
        cases e'
        obtain ⟨q, ho, rfl, h1, _, vs, rfl, h2⟩ := h
        exact .lst (SqL.of h1) (toPysW_dp (refPy_dp r 3) ds ps vs hq h2)
    | _ => cases e
theorem eqE_sound {a b : T} {x y : V} {c : Bool} (r : Rel g H φ S) (ha : TEm g H φ a x) (hb : TEm g H φ b y) (e : eqE S a b = some c) : ∃ p q, Dp g.K H x p ∧ Dp g.K H y q ∧ SeqAt.shaped p = true ∧ SeqAt.shaped q = true ∧ c = PyData.eqv p q := by
  unfold eqE at e
  split at e
  · rename_i p q h1 h2
    split at e
    · rename_i hs
      cases e
      exact ⟨p, q, toPy_dp r h1 ha, toPy_dp r h2 hb, hs.1, hs.2, rfl⟩
    · cases e
  · cases e
theorem Em.flat {d : D} {v : V} (h : Em g H φ d v) (f : flatD d = true) : flatV v = true := by
  cases h <;> first | rfl | cases f
theorem Ems.flat : ∀ {ds : List D} {vs : List V}, Ems g H φ ds vs → ds.all flatD = true → vs.all flatV = true
  | [], _, h, _ => by cases h; rfl
  | _ :: _, _, h, f => by
    cases h with
    | cons h1 h2 =>
      rw [List.all_cons, Bool.and_eq_true] at f
      rw [List.all_cons, h1.flat f.1, Ems.flat h2 f.2]
      rfl
theorem eqF_eqV {d e : D} {x y : V} (h : Em g H φ d x) (k : Em g H φ e y) (f1 : flatD d = true) (f2 : flatD e = true) : eqV x y = eqF d e := by
  cases h <;> cases k <;> first | rfl | cases f1 | cases f2
theorem any_eqF {d : D} {x : V} (h : Em g H φ d x) (f : flatD d = true) : ∀ {ds : List D} {vs : List V}, Ems g H φ ds vs → ds.all flatD = true → (vs.any fun y => eqV y x) = ds.any fun z => eqF z d
  | [], _, h, _ => by cases h; rfl
  | _ :: _, _, k, f2 => by
    cases k with
    | cons h1 h2 =>
      rw [List.all_cons, Bool.and_eq_true] at f2
      rw [List.any_cons, List.any_cons, eqF_eqV h1 h f2.1 f, any_eqF h f h2 f2.2]
theorem valK_eq {κ : Type} [DecidableEq κ] (k : κ) : ∀ {kvs : List (κ × D)} {ws : List (κ × V)}, ws.map (·.1) = kvs.map (·.1) → Ems g H φ (kvs.map (·.2)) (ws.map (·.2)) →
    (valV ws k).isSome = (valK k kvs).isSome ∧ ∀ d, valK k kvs = some d → ∃ v, valV ws k = some v ∧ Em g H φ d v
  | [], ws, h1, h2 => by
    cases ws with
    | nil => exact ⟨rfl, fun d e => by cases e⟩
    | cons _ _ => cases h1
  | (x, d) :: r, ws, h1, h2 => by
    cases ws with
    | nil => cases h1
    | cons w ws =>
      obtain ⟨y, v⟩ := w
      simp only [List.map_cons, List.cons.injEq] at h1 h2
      obtain ⟨e1, h1⟩ := h1
      subst e1
      cases h2 with
      | cons k1 k2 =>
        have ih := valK_eq k h1 k2
        have hv : valV ((y, v) :: ws) k = if y = k then some v else valV ws k := by
          unfold valV
          rw [List.find?_cons]
          by_cases e : y = k
          · simp [e]
          · simp [e]
        rw [hv]
        unfold valK
        by_cases e : y = k
        · rw [if_pos e, if_pos e]
          exact ⟨rfl, fun d' e' => by cases e'; exact ⟨v, rfl, k1⟩⟩
        · rw [if_neg e, if_neg e]
          exact ih
theorem keyOf_V {d : D} {k : Key} {v : V} (e : keyOf d = some k) (h : Em g H φ d v) : v = kV k := by
  cases h <;> cases e <;> rfl
theorem non_iff {a : T} {x : V} (h : TEm g H φ a x) : decide (x = .non) = decide (a = .v .non) := by
  cases a with
  | v d => cases h <;> simp
  | t o =>
    obtain ⟨p, ho, rfl, _⟩ := h
    simp
theorem intsOf_Em : ∀ {ds : List D} {is : List Int} {vs : List V}, intsOf ds = some is → Ems g H φ ds vs → vs = is.map V.int
  | [], _, _, e, h => by cases h; cases e; rfl
  | d :: ds, is, _, e, h => by
    cases h with
    | cons h1 h2 =>
      cases h1 with
      | int i =>
        have e' : (intsOf ds).map (i :: ·) = some is := e
        cases hq : intsOf ds with
        | none => rw [hq] at e'; cases e'
        | some js =>
          rw [hq] at e'
          cases e'
          rw [intsOf_Em hq h2]
          rfl
      | _ => cases e
theorem inV_of {x : V} {xs : List V} : inV x xs = xs.any fun y => eqV y x := rfl
/-- in, by values -/
theorem dct_at {a : T} {x : V} (r : Rel g H φ S) (ha : TEm g H φ a x) (h : isDct S a = true) : ∃ ws p, x = .ref p ∧ Rd H p (.dK ws) := by
  unfold isDct at h
  split at h
  · rename_i kvs hk
    obtain ⟨p, ho, o', rfl, h1, h2, h3⟩ := ha.objR r hk rfl
    have h3' : unlk o' = .dK kvs := by
      rcases h3 with h3 | h3
      · rw [← h3]; rfl
      · exact h3.symm
    cases o' with
    | dK kvs' =>
      cases h3'
      obtain ⟨ws, rfl, k1, k2⟩ := h2
      exact ⟨ws, p, rfl, .inl h1⟩
    | lk o2 =>
      have h3' : o2 = .dK kvs := h3'
      subst h3'
      obtain ⟨ob, ho', rfl, ws, rfl, k1, k2⟩ := h2
      exact ⟨ws, p, rfl, .inr ⟨ob, h1⟩⟩
    | _ => cases h3'
  · cases h
theorem ems_tups : ∀ {ds : List D} {vs : List V}, Ems g H φ ds vs → ds.all isTupD = true → ∀ z ∈ vs, ∃ t zs, z = V.ref t ∧ SqT g.K H t zs
  | _, _, .nil, _, z, hz => absurd hz (by simp)
  | _, _, .cons (d := d) m ms, h, z, hz => by
    rw [List.all_cons, Bool.and_eq_true] at h
    rcases List.mem_cons.mp hz with e | hz
    · subst e
      cases m with
      | tup h1 h2 => exact ⟨_, _, rfl, h1⟩
      | _ => simp [isTupD] at h
    · exact ems_tups ms h.2 z hz
theorem tups_at {b : T} {y : V} (r : Rel g H φ S) (hb : TEm g H φ b y) (h : allTup S b = true) : ∃ p vs, y = .ref p ∧ SqL g.K H p vs ∧ ∀ z ∈ vs, ∃ t zs, z = V.ref t ∧ SqT g.K H t zs := by
  unfold allTup at h
  split at h
  · rename_i ds hd
    obtain ⟨p, vs, rfl, h1, h2⟩ := hb.lstR r hd
    exact ⟨p, vs, rfl, h1, ems_tups h2 h⟩
  · cases h
theorem keysOf_V : ∀ {ds : List D} {ks : List Key} {vs : List V}, keysOf ds = some ks → Ems g H φ ds vs → vs = ks.map kV
  | [], _, _, e, h => by cases e; cases h; rfl
  | d :: ds, _, _, e, h => by
    obtain ⟨k, h1, e⟩ := Option.bind_eq_some_iff.mp (show (keyOf d).bind (fun k => (keysOf ds).map (k :: ·)) = _ from e)
    obtain ⟨ks, h2, rfl⟩ := Option.map_eq_some_iff.mp e
    cases h with
    | cons m1 m2 => rw [keyOf_V h1 m1, keysOf_V h2 m2]; rfl
theorem any_key {κ α β : Type} [DecidableEq κ] (k : κ) : ∀ {xs : List (κ × α)} {ys : List (κ × β)}, xs.map (·.1) = ys.map (·.1) → (xs.any fun x => decide (x.1 = k)) = ys.any fun y => decide (y.1 = k)
  | [], [], _ => rfl
  | [], _ :: _, e => by cases e
  | _ :: _, [], e => by cases e
  | x :: xs, y :: ys, e => by
    simp only [List.map_cons, List.cons.injEq] at e
    simp only [List.any_cons, e.1, any_key k e.2]
theorem atKey_any (k : List Key) : ∀ (xs : List Ent), (atKey xs k).isSome = xs.any fun x => decide (x.1 = k)
  | [] => rfl
  | x :: xs => by
    unfold atKey
    rw [List.find?_cons, List.any_cons]
    by_cases e : x.1 = k
    · simp [e]
    · simp only [e, decide_false, Bool.false_or]
      exact atKey_any k xs
theorem valK_any {κ : Type} [DecidableEq κ] (k : κ) : ∀ (kvs : List (κ × D)), (valK k kvs).isSome = kvs.any fun x => decide (x.1 = k)
  | [] => rfl
  | x :: xs => by
    unfold valK
    rw [List.any_cons]
    by_cases e : x.1 = k
    · simp [e]
    · simp only [e, if_false, decide_false, Bool.false_or]
      exact valK_any k xs
/-- a dict with tuple keys, where it stands -/
theorem dt_at {t : T} {x : V} {kvs : List (List Key × D)} (hP : X.prog = g.P) (hW : X.w = g.w) (I : Inv X pins σ H s) (r : Rel g H φ S) (ha : TEm g H φ t x) (hk : objR S t = some (.dT kvs)) :
    ∃ p xs, x = .ref p ∧ Rd H p (tdO X.prog X.w p xs) ∧ xs.map (·.1) = kvs.map (·.1) ∧ TdOk g.K H p xs := by
  obtain ⟨p, ho, o', rfl, h1, h2, h3⟩ := ha.objR r hk rfl
  have h3' : unlk o' = .dT kvs := by
    rcases h3 with h3 | h3
    · rw [← h3]; rfl
    · exact h3.symm
  have fin : ∀ a xs, Rd H p (tdO g.P g.w a xs) → xs.map (·.1) = kvs.map (·.1) → TdOk g.K H a xs → ∃ p' xs, V.ref p = V.ref p' ∧ Rd H p' (tdO X.prog X.w p' xs) ∧ xs.map (·.1) = kvs.map (·.1) ∧ TdOk g.K H p' xs := by
    intro a xs hr k1 k2
    rw [← hP, ← hW] at hr
    obtain ⟨rfl, _⟩ := td_here (rd_of I.hok hr)
    exact ⟨a, xs, rfl, hr, k1, k2⟩
  cases o' with
  | dT kvs' =>
    cases h3'
    obtain ⟨a, xs, vs, rfl, k1, k2, _⟩ := h2
    exact fin a xs (.inl h1) k1 k2
  | lk o2 =>
    have h3' : o2 = .dT kvs := h3'
    subst h3'
    obtain ⟨ob, ho', rfl, a, xs, vs, rfl, k1, k2, _⟩ := h2
    exact fin a xs (.inr ⟨ob, h1⟩) k1 k2
  | _ => cases h3'
theorem dkR_at {t : T} {x : V} {kvs : List (Key × D)} (r : Rel g H φ S) (ha : TEm g H φ t x) (hk : objR S t = some (.dK kvs)) :
    ∃ p ws, x = .ref p ∧ Rd H p (.dK ws) ∧ ws.map (·.1) = kvs.map (·.1) ∧ Ems g H φ (kvs.map (·.2)) (ws.map (·.2)) := by
  obtain ⟨p, ho, o', rfl, h1, h2, h3⟩ := ha.objR r hk rfl
  have h3' : unlk o' = .dK kvs := by
    rcases h3 with h3 | h3
    · rw [← h3]; rfl
    · exact h3.symm
  cases o' with
  | dK kvs' =>
    cases h3'
    obtain ⟨ws, rfl, k1, k2⟩ := h2
    exact ⟨p, ws, rfl, .inl h1, k1, k2⟩
  | lk o2 =>
    have h3' : o2 = .dK kvs := h3'
    subst h3'
    obtain ⟨ob, ho', rfl, ws, rfl, k1, k2⟩ := h2
    exact ⟨p, ws, rfl, .inr ⟨ob, h1⟩, k1, k2⟩
  | _ => cases h3'
/-- data looked for in a tuple of data -/
theorem op_inTD {x y : V} {v u : Value} {d : PyData} {ds : List PyData} (hu : X.A.units + 65 < cLine) (I : Inv X pins σ H s) (rx : RelV x v) (ry : RelV y u) (hd : Dp X.K H x d) (he : Dp X.K H y (.tuple ds)) (sd : SeqAt.shaped d = true) (se : SeqAt.shaped (.tuple ds) = true) :
    (∀ Q : VK, Q (.bl (ds.any fun z => PyData.eqv z d)) H → wpAny (model X.prog X.w) X.A (compareOp .In v u) (EP X pins σ Q) X.xe s) ∧ ∀ Q : VK, Q (.bl (!(ds.any fun z => PyData.eqv z d))) H → wpAny (model X.prog X.w) X.A (compareOp .NotIn v u) (EP X pins σ Q) X.xe s := by
  obtain ⟨as, r1⟩ := Dp.reads I d x v hd rx
  obtain ⟨bs, r2⟩ := Dp.reads I (.tuple ds) y u he ry
  have l1 := SeqAt.canLay_of_shaped sd
  have l2 := SeqAt.canLay_of_shaped se
  exact ⟨fun Q q => SeqAt.in_tuple_reads r2 r1 l2 l1 (PyProof.Rows.room_in_shaped sd hu) ⟨.bl _, H, I, rfl, q⟩, fun Q q => SeqAt.notIn_tuple_reads r2 r1 l2 l1 (PyProof.Rows.room_in_shaped sd hu) ⟨.bl _, H, I, rfl, q⟩⟩
theorem memE_sound {a b : T} {x y : V} {v u : Value} {c : Bool} (hP : X.prog = g.P) (hW : X.w = g.w) (hK : X.K = g.K) (hu : X.A.units + 65 < cLine) (I : Inv X pins σ H s) (rx : RelV x v) (ry : RelV y u) (r : Rel g H φ S) (ha : TEm g H φ a x) (hb : TEm g H φ b y) (e : memE S a b = some c) :
    (∀ Q : VK, Q (.bl c) H → wpAny (model X.prog X.w) X.A (compareOp .In v u) (EP X pins σ Q) X.xe s) ∧ ∀ Q : VK, Q (.bl (!c)) H → wpAny (model X.prog X.w) X.A (compareOp .NotIn v u) (EP X pins σ Q) X.xe s := by
  unfold memE at e
  split at e
  · -- a tuple of flat things
    rename_i ds
    split at e
    · rename_i d
      split at e
      · rename_i hf
        cases e
        cases hb with
        | tup h1 h2 =>
          rw [← hK] at h1
          have hx : flatV x = true := Em.flat ha hf.1
          have hv := h2.flat hf.2
          have he := any_eqF ha hf.1 h2 hf.2
          refine ⟨fun Q q => op_in_seq pins s σ H _ _ _ _ Q I rx ry ⟨_, _, rfl, .inr h1, hx, hv, ?_⟩, fun Q q => op_notIn_seq pins s σ H _ _ _ _ Q I rx ry ⟨_, _, rfl, .inr h1, hx, hv, ?_⟩⟩
          · rw [if_neg Bool.false_ne_true, inV_of, he]; exact q
          · rw [if_pos rfl, inV_of, he]; exact q
      · split at e
        · rename_i p qs h1 h2
          split at e
          · rename_i hs
            cases e
            have d1 := toPy_dp r h1 ha
            have d2 := toPy_dp r h2 hb
            rw [← hK] at d1 d2
            exact op_inTD hu I rx ry d1 d2 hs.1 hs.2
          · cases e
        · cases e
    · cases e
  · split at e
    · -- a list
      split at e
      · rename_i p qs h1 h2
        split at e
        · rename_i hs
          cases e
          have d1 := toPy_dp r h1 ha
          have d2 := toPy_dp r h2 hb
          rw [← hK] at d1 d2
          exact ⟨fun Q q => op_inD hu pins s σ H _ _ _ _ Q I rx ry ⟨p, qs, d1, d2, hs.1, hs.2, q⟩, fun Q q => op_notInD hu pins s σ H _ _ _ _ Q I rx ry ⟨p, qs, d1, d2, hs.1, hs.2, q⟩⟩
        · cases e
      · -- a dict in a list of tuples
        split at e
        · rename_i hs
          cases e
          rw [Bool.and_eq_true] at hs
          obtain ⟨kvs, p, hp1, hp2⟩ := dct_at r ha hs.1
          obtain ⟨q, vs, hq1, hq2, hq3⟩ := tups_at r hb hs.2
          subst hp1 hq1
          rw [← hK] at hq2 hq3
          exact ⟨fun Q q' => op_inDT (by omega) pins s σ H _ _ _ _ Q I rx ry ⟨p, q, vs, kvs, rfl, hp2, rfl, hq2, hq3, q'⟩, fun Q q' => op_notInDT (by omega) pins s σ H _ _ _ _ Q I rx ry ⟨p, q, vs, kvs, rfl, hp2, rfl, hq2, hq3, q'⟩⟩
        · cases e
    · -- a dict
      rename_i kvs hk
      split at e
      · rename_i ds
        split at e
        · rename_i he
          have e0 : kvs = [] := by simpa using he
          subst e0
          obtain ⟨ks, hks, rfl⟩ := Option.map_eq_some_iff.mp e
          obtain ⟨p, ws, rfl, hr, k1, _⟩ := dkR_at r hb hk
          have w0 : ws = [] := by simpa using k1
          subst w0
          cases ha with
          | tup t1 t2 =>
            have e1 := keysOf_V hks t2
            subst e1
            rw [← hK] at t1
            obtain ⟨z1, z2⟩ := dk_zero I hr
            cases (show u = Value.ref p from ry)
            cases (show v = Value.ref _ from rx)
            exact ⟨fun Q q => td_in (by omega) I t1 z1 z2 fun s' I' => ⟨.bl false, H, I', rfl, q⟩, fun Q q => td_notIn (by omega) I t1 z1 z2 fun s' I' => ⟨.bl true, H, I', rfl, q⟩⟩
        · cases e
      · rename_i d _
        cases hq : keyOf d with
        | none => rw [hq] at e; cases e
        | some k =>
          rw [hq] at e
          cases e
          obtain ⟨p, ws, rfl, hr, e1, e2⟩ := dkR_at r hb hk
          have hx : x = kV k := keyOf_V hq ha
          have hd : DGet H p x (valV ws k) := .inl ⟨ws, k, hr, hx, rfl⟩
          have hv := (valK_eq k e1 e2).1
          cases (show u = Value.ref p from ry)
          exact ⟨fun Q q => d_in (by omega) I hd rx fun s' I' => ⟨.bl _, H, I', by rw [hv]; rfl, q⟩, fun Q q => d_notIn (by omega) I hd rx fun s' I' => ⟨.bl _, H, I', by rw [hv]; rfl, q⟩⟩
      · cases e
    · -- a dict with tuple keys
      rename_i kvs hk
      split at e
      · rename_i ds
        obtain ⟨ks, hks, rfl⟩ := Option.map_eq_some_iff.mp e
        obtain ⟨p, xs, rfl, hr, k1, k2⟩ := dt_at hP hW I r hb hk
        cases ha with
        | tup t1 t2 =>
          have e1 := keysOf_V hks t2
          subst e1
          rw [← hK] at t1 k2
          have hv : (atKey xs ks).isSome = (valK ks kvs).isSome := by rw [atKey_any, valK_any]; exact any_key ks k1
          cases (show u = Value.ref p from ry)
          cases (show v = Value.ref _ from rx)
          exact ⟨fun Q q => td_in (by omega) I t1 k2.sm (td_dict I hr k2) fun s' I' => ⟨.bl _, H, I', by rw [hv]; rfl, q⟩, fun Q q => td_notIn (by omega) I t1 k2.sm (td_dict I hr k2) fun s' I' => ⟨.bl _, H, I', by rw [hv]; rfl, q⟩⟩
      · cases e
    · cases e
theorem isE_sound {a b : T} {x y : V} {v u : Value} {c : Bool} (I : Inv X pins σ H s) (rx : RelV x v) (ry : RelV y u) (ha : TEm g H φ a x) (hb : TEm g H φ b y) (e : isE a b = some c) :
    (∀ Q : VK, Q (.bl c) H → wpAny (model X.prog X.w) X.A (compareOp .Is v u) (EP X pins σ Q) X.xe s) ∧ ∀ Q : VK, Q (.bl (!c)) H → wpAny (model X.prog X.w) X.A (compareOp .IsNot v u) (EP X pins σ Q) X.xe s := by
  unfold isE at e
  split at e
  · cases e
    cases hb
    exact ⟨fun Q q => op_isN pins s σ H _ _ _ _ Q I rx ry ⟨rfl, by rw [non_iff ha]; exact q⟩, fun Q q => op_notN pins s σ H _ _ _ _ Q I rx ry ⟨rfl, by rw [non_iff ha]; exact q⟩⟩
  · cases e
    cases ha
    cases hb
    exact ⟨fun Q q => op_isBl pins s σ H _ _ _ _ Q I rx ry ⟨_, _, rfl, rfl, q⟩, fun Q q => op_notBl pins s σ H _ _ _ _ Q I rx ry ⟨_, _, rfl, rfl, q⟩⟩
  · cases e
theorem cmp_sound {op : CmpOp} {o : Cm} (hP : X.prog = g.P) (hW : X.w = g.w) (hK : X.K = g.K) (hu : X.A.units + 65 < cLine) (hb : cmpC op = some o) : OpR X (compareOp op) (rOp g fun S a b => (cmpE S o a b).map fun c => .v (.bl c)) := by
  rintro pins s σ H x y v u Q I rx ry ⟨S, φ, a, b, t, r, ha, hb', ht, h⟩
  replace ht : (cmpE S o a b).map (fun c => T.v (.bl c)) = some t := ht
  cases hc : cmpE S o a b with
  | none => rw [hc] at ht; cases ht
  | some c =>
    rw [hc] at ht
    cases ht
    have q : Q (.bl c) H := give r (.bl _) h
    clear h
    have dn : ∀ {f : Bool → Bool} {o : Option Bool}, o.map f = some c → ∃ c', o = some c' ∧ c = f c' := fun {f o} e => by
      cases o with
      | none => cases e
      | some c' => cases e; exact ⟨c', rfl, rfl⟩
    cases op <;> simp only [cmpC, Option.some.injEq] at hb <;> subst hb <;> simp only [cmpE] at hc
    case Eq =>
      obtain ⟨p, q', d1, d2, s1, s2, rfl⟩ := eqE_sound r ha hb' hc
      rw [← hK] at d1 d2
      exact op_eqD (by omega) pins s σ H _ _ _ _ Q I rx ry ⟨p, q', d1, d2, s1, s2, q⟩
    case NotEq =>
      obtain ⟨c', hd, rfl⟩ := dn hc
      obtain ⟨p, q', d1, d2, s1, s2, rfl⟩ := eqE_sound r ha hb' hd
      rw [← hK] at d1 d2
      exact op_neD (by omega) pins s σ H _ _ _ _ Q I rx ry ⟨p, q', d1, d2, s1, s2, q⟩
    case In => exact (memE_sound hP hW hK hu I rx ry r ha hb' hc).1 Q q
    case NotIn =>
      obtain ⟨c', hd, rfl⟩ := dn hc
      exact (memE_sound hP hW hK hu I rx ry r ha hb' hd).2 Q q
    case Is => exact (isE_sound I rx ry ha hb' hc).1 Q q
    case IsNot =>
      obtain ⟨c', hd, rfl⟩ := dn hc
      exact (isE_sound I rx ry ha hb' hd).2 Q q
    case Lt =>
      split at hc
      · rename_i d e
        unfold ltD at hc
        split at hc
        · cases hc
          cases ha
          cases hb'
          exact op_lt pins s σ H _ _ _ _ Q I rx ry ⟨_, _, rfl, rfl, q⟩
        · cases hc
          cases ha
          cases hb'
          exact op_lt_str pins s σ H _ _ _ _ Q I rx ry ⟨_, _, rfl, rfl, q⟩
        · split at hc
          · rename_i xs ys h1 h2
            cases hc
            cases ha with
            | tup t1 m1 =>
              cases hb' with
              | tup t2 m2 =>
                have e1 := intsOf_Em h1 m1
                have e2 := intsOf_Em h2 m2
                subst e1 e2
                rw [← hK] at t1 t2
                exact op_ltT (by omega) pins s σ H _ _ _ _ Q I rx ry ⟨_, _, _, _, rfl, rfl, t1, t2, q⟩
          · cases hc
        · cases hc
      · cases hc
    case LtE =>
      split at hc
      · cases ha
        cases hb'
        cases hc
        exact op_le pins s σ H _ _ _ _ Q I rx ry ⟨_, _, rfl, rfl, q⟩
      · cases hc
    case Gt =>
      split at hc
      · cases ha
        cases hb'
        cases hc
        exact op_gt pins s σ H _ _ _ _ Q I rx ry ⟨_, _, rfl, rfl, q⟩
      · cases hc
    case GtE =>
      split at hc
      · cases ha
        cases hb'
        cases hc
        exact op_ge pins s σ H _ _ _ _ Q I rx ry ⟨_, _, rfl, rfl, q⟩
      · cases hc
end
end Ev
set_option Elab.async false
set_option linter.all false
set_option maxRecDepth 100000
set_option autoImplicit false
set_option maxHeartbeats 1000000
/-! Ev, part F: built-ins, subscripts, methods, by values. -/
namespace Ev
open PySem L2

def biV : Bi → Value
  | .len => .builtin "len" | .all => .builtin "all" | .any => .builtin "any" | .tuple => .type "tuple" | .list => .type "list" | .int => .type "int" | .abs => .builtin "abs"
  | .sorted => .builtin "sorted" | .sum => .builtin "sum" | .max => .builtin "max" | .min => .builtin "min" | .bool => .type "bool" | .str => .type "str"
def rBi (g : G) (b : Bi) : List V → Hp → VK → Prop := fun xs H Q => ∃ S φ x t t', xs = [x] ∧ Rel g H φ S ∧ TEm g H φ t x ∧ biE S b t = some t' ∧
  ∀ H' v, Ext g H φ H' φ → Rel g H' φ S → TEm g H' φ t' v → Fr H t' v → Q v H'

theorem insI_perm (x : Int) : ∀ l : List Int, (insI x l).Perm (x :: l)
  | [] => .refl _
  | y :: r => by
    unfold insI
    split
    · exact .refl _
    · exact ((insI_perm x r).cons y).trans (.swap x y r)
theorem sortI_perm : ∀ l : List Int, (sortI l).Perm l
  | [] => .refl _
  | x :: r => (insI_perm x (sortI r)).trans ((sortI_perm r).cons x)
theorem insI_sorted (x : Int) : ∀ l : List Int, l.Pairwise (· ≤ ·) → (insI x l).Pairwise (· ≤ ·)
  | [], _ => by unfold insI; exact List.pairwise_singleton _ _
  | y :: r, h => by
    unfold insI
    have hr := (List.pairwise_cons.mp h)
    split
    · rename_i hxy
      refine List.pairwise_cons.mpr ⟨fun z hz => ?_, h⟩
      rcases List.mem_cons.mp hz with e | hz
      · omega
      · have := hr.1 z hz
        omega
    · rename_i hxy
      refine List.pairwise_cons.mpr ⟨fun z hz => ?_, insI_sorted x r hr.2⟩
      rcases List.mem_cons.mp ((insI_perm x r).mem_iff.mp hz) with e | hz
      · omega
      · exact hr.1 z hz
theorem sortI_sorted : ∀ l : List Int, (sortI l).Pairwise (· ≤ ·)
  | [] => .nil
  | x :: r => insI_sorted x _ (sortI_sorted r)
theorem sortI_of {a b : List Int} (hp : a.Perm b) (ha : a.Pairwise (· ≤ ·)) : a = sortI b := PySem.W.ksm_same (hp.trans (sortI_perm b).symm) ha (sortI_sorted b)

section
variable {g : G} {X : Cx} {pins : List (Addr × Obj)} {s : Shared} {σ : St} {H : Hp} {φ : List Addr} {S : Store} {Q : VK}
theorem blsOf_Em : ∀ {ds : List D} {bs : List Bool} {vs : List V}, blsOf ds = some bs → Ems g H φ ds vs → vs = bs.map V.bl
  | [], _, _, e, h => by cases h; cases e; rfl
  | d :: ds, bs, _, e, h => by
    cases h with
    | cons h1 h2 =>
      cases h1 with
      | bl i =>
        have e' : (blsOf ds).map (i :: ·) = some bs := e
        cases hq : blsOf ds with
        | none => rw [hq] at e'; cases e'
        | some js =>
          rw [hq] at e'
          cases e'
          rw [blsOf_Em hq h2]
          rfl
      | _ => cases e
theorem Ems.ints (is : List Int) : Ems g H φ (is.map D.int) (is.map V.int) := by
  induction is with
  | nil => exact .nil
  | cons i r ih => exact .cons (.int i) ih
theorem opt_bind {α β : Type} {o : Option α} {f : α → Option β} {b : β} (h : o.bind f = some b) : ∃ a, o = some a ∧ f a = some b := by
  cases o with
  | none => cases h
  | some a => exact ⟨a, rfl, h⟩
theorem opt_map {α β : Type} {o : Option α} {f : α → β} {b : β} (h : o.map f = some b) : ∃ a, o = some a ∧ f a = b := by
  cases o with
  | none => cases h
  | some a => exact ⟨a, rfl, Option.some.inj h⟩
theorem intO_some {t : T} {i : Int} (h : intO t = some i) : t = .v (.int i) := by
  unfold intO at h
  split at h
  · cases h; rfl
  · cases h
theorem lex_tot : ∀ a b : List Int, HT.lexLt a b = false → HT.lexLt b a = false → a = b
  | [], [], _, _ => rfl
  | [], _ :: _, h, _ => by rw [HT.lexLt_nil_cons] at h; cases h
  | _ :: _, [], _, h => by rw [HT.lexLt_nil_cons] at h; cases h
  | x :: xs, y :: ys, h1, h2 => by
    rw [HT.lexLt_cons] at h1 h2
    by_cases e : x = y
    · subst e
      rw [if_pos rfl] at h1 h2
      rw [lex_tot xs ys h1 h2]
    · rw [if_neg e] at h1
      rw [if_neg (Ne.symm e)] at h2
      have a := of_decide_eq_false h1
      have b := of_decide_eq_false h2
      omega
theorem insL_perm (x : List Int) : ∀ l : List (List Int), (insL x l).Perm (x :: l)
  | [] => List.Perm.refl _
  | y :: r => by
    rw [insL]
    split
    · exact ((insL_perm x r).cons y).trans (List.Perm.swap x y r)
    · exact List.Perm.refl _
theorem sortL_perm : ∀ l : List (List Int), (sortL l).Perm l
  | [] => List.Perm.refl _
  | x :: r => (insL_perm x _).trans ((sortL_perm r).cons x)
theorem insL_sorted (x : List Int) : ∀ l : List (List Int), l.Pairwise (fun a b => HT.lexLt b a = false) → (insL x l).Pairwise (fun a b => HT.lexLt b a = false)
  | [], _ => List.pairwise_singleton _ _
  | y :: r, h => by
    obtain ⟨h1, h2⟩ := List.pairwise_cons.mp h
    rw [insL]
    split
    · rename_i hy
      refine List.pairwise_cons.mpr ⟨fun z hz => ?_, insL_sorted x r h2⟩
      rcases List.mem_cons.mp ((insL_perm x r).mem_iff.mp hz) with e | hz
      · rw [e]
        exact NtL.lex_asym _ _ hy
      · exact h1 z hz
    · rename_i hy
      have hy : HT.lexLt y x = false := by simpa using hy
      refine List.pairwise_cons.mpr ⟨fun z hz => ?_, h⟩
      rcases List.mem_cons.mp hz with e | hz
      · rw [e]
        exact hy
      · exact NtL.lex_tr _ _ _ hy (h1 z hz)
theorem sortL_sorted : ∀ l : List (List Int), (sortL l).Pairwise (fun a b => HT.lexLt b a = false)
  | [] => List.Pairwise.nil
  | x :: r => insL_sorted x _ (sortL_sorted r)
theorem lexL_uniq : ∀ {a b : List (List Int)}, a.Perm b → a.Pairwise (fun x y => HT.lexLt y x = false) → b.Pairwise (fun x y => HT.lexLt y x = false) → a = b
  | [], b, p, _, _ => (List.Perm.eq_nil p.symm).symm
  | x :: a, [], p, _, _ => absurd p.length_eq (by simp)
  | x :: a, y :: b, p, ha, hb => by
    obtain ⟨a1, a2⟩ := List.pairwise_cons.mp ha
    obtain ⟨b1, b2⟩ := List.pairwise_cons.mp hb
    have rf : ∀ z : List Int, HT.lexLt z z = false := (NtL.swo_lexL (fun z : List Int => z)).refl
    have h1 : HT.lexLt y x = false := by
      rcases List.mem_cons.mp (p.mem_iff.mpr List.mem_cons_self) with e | h
      · rw [e]; exact rf x
      · exact a1 y h
    have h2 : HT.lexLt x y = false := by
      rcases List.mem_cons.mp (p.mem_iff.mp List.mem_cons_self) with e | h
      · rw [e]; exact rf y
      · exact b1 x h
    have e := lex_tot x y h2 h1
    subst e
    rw [lexL_uniq p.cons_inv a2 b2]
theorem intsOf_map : ∀ {ds : List D} {is : List Int}, intsOf ds = some is → ds = is.map D.int
  | [], is, h => by cases h; rfl
  | .int i :: r, is, h => by
    obtain ⟨js, hj, rfl⟩ := opt_map h
    rw [intsOf_map hj]
    rfl
  | .non :: _, _, h => by cases h
  | .bl _ :: _, _, h => by cases h
  | .str _ :: _, _, h => by cases h
  | .tup _ :: _, _, h => by cases h
  | .ref _ :: _, _, h => by cases h
  | .fn _ :: _, _, h => by cases h
  | .cls _ :: _, _, h => by cases h
theorem intsOf_ints : ∀ is : List Int, Ev.intsOf (is.map D.int) = some is
  | [] => rfl
  | i :: r => by rw [List.map_cons, Ev.intsOf, intsOf_ints r]; rfl
theorem tupsOf_map : ∀ {ds : List D} {xs : List (List Int)}, tupsOf ds = some xs → ds = xs.map tupI
  | [], is, h => by cases h; rfl
  | .tup ds :: r, xs, h => by
    obtain ⟨is, hi, h⟩ := opt_bind h
    obtain ⟨js, hj, rfl⟩ := opt_map h
    rw [tupsOf_map hj, intsOf_map hi]
    rfl
  | .non :: _, _, h => by cases h
  | .bl _ :: _, _, h => by cases h
  | .str _ :: _, _, h => by cases h
  | .int _ :: _, _, h => by cases h
  | .ref _ :: _, _, h => by cases h
  | .fn _ :: _, _, h => by cases h
  | .cls _ :: _, _, h => by cases h
/-- a heap's tuple has one list of ints -/
theorem sqT_uniq {a : Addr} {ns ms : List Int} (I : Inv X pins σ H s) (h1 : SqT X.K H a (ns.map V.int)) (h2 : SqT X.K H a (ms.map V.int)) : ns = ms := by
  obtain ⟨its, r1, ⟨o, ho, _, n, hd⟩, _⟩ := I.tuple h1
  obtain ⟨its2, r2, ⟨o2, ho2, _, n2, hd2⟩, _⟩ := I.tuple h2
  rw [ho] at ho2
  cases ho2
  rw [hd] at hd2
  have e : its = its2 := by
    have := (Data.seq.inj hd2).1
    simpa using this
  subst e
  have i1 : PyProof.Rows.IntsAre its ns := by simpa using intsAre_of r1
  have i2 : PyProof.Rows.IntsAre its ms := by simpa using intsAre_of r2
  rw [← i1.nums, ← i2.nums]
open Classical in
noncomputable def keyT (K : PySem.W.Frag) (H : Hp) (x : V) : List Int := if h : ∃ (ns : List Int) (t : Addr), x = V.ref t ∧ SqT K H t (ns.map V.int) then h.choose else []
theorem keyT_at {a : Addr} {ns : List Int} (I : Inv X pins σ H s) (h : SqT X.K H a (ns.map V.int)) : keyT X.K H (.ref a) = ns := by
  have hx : ∃ (ns : List Int) (t : Addr), V.ref a = V.ref t ∧ SqT X.K H t (ns.map V.int) := ⟨ns, a, rfl, h⟩
  unfold keyT
  rw [dif_pos hx]
  obtain ⟨t, e, h2⟩ := hx.choose_spec
  cases e
  exact sqT_uniq I h2 h
theorem ems_keyT (hK : X.K = g.K) (I : Inv X pins σ H s) : ∀ {xs : List (List Int)} {vs : List V}, Ems g H φ (xs.map tupI) vs → vs.map (keyT X.K H) = xs ∧ ∀ x ∈ vs, ∃ t, x = V.ref t ∧ SqT X.K H t ((keyT X.K H x).map V.int)
  | [], _, .nil => ⟨rfl, fun x hx => absurd hx (by simp)⟩
  | ns :: xs, _, .cons m ms => by
    obtain ⟨h1, h2⟩ := ems_keyT hK I ms
    cases m with
    | tup k1 k2 =>
      have e := intsOf_Em (intsOf_ints ns) k2
      subst e
      rw [← hK] at k1
      have hk := keyT_at I k1
      refine ⟨by rw [List.map_cons, h1, hk], fun x hx => ?_⟩
      rcases List.mem_cons.mp hx with e | hx
      · subst e
        exact ⟨_, rfl, by rw [hk]; exact k1⟩
      · exact h2 x hx
theorem ems_of_keyT (hK : X.K = g.K) : ∀ {vs : List V}, (∀ x ∈ vs, ∃ t, x = V.ref t ∧ SqT X.K H t ((keyT X.K H x).map V.int)) → Ems g H φ ((vs.map (keyT X.K H)).map tupI) vs
  | [], _ => .nil
  | v :: vs, h => by
    obtain ⟨t, rfl, ht⟩ := h v List.mem_cons_self
    refine .cons (.tup (by rw [← hK]; exact ht) (Ems.ints _)) (ems_of_keyT hK fun x hx => h x (List.mem_cons_of_mem _ hx))
theorem maxL_of : ∀ {is : List Int} {m : Int}, maxL is = some m → m ∈ is ∧ ∀ y ∈ is, y ≤ m := by
  have key : ∀ (r : List Int) (x : Int), (r.foldl (fun a b => if b > a then b else a) x = x ∨ r.foldl (fun a b => if b > a then b else a) x ∈ r) ∧ x ≤ r.foldl (fun a b => if b > a then b else a) x ∧ ∀ y ∈ r, y ≤ r.foldl (fun a b => if b > a then b else a) x := by
    intro r
    induction r with
    | nil => intro x; exact ⟨.inl rfl, Int.le_refl _, fun y hy => nomatch hy⟩
    | cons a r ih =>
      intro x
      rw [List.foldl_cons]
      by_cases h : a > x
      · rw [if_pos h]
        obtain ⟨i1, i2, i3⟩ := ih a
        refine ⟨.inr ?_, by omega, fun y hy => ?_⟩
        · rcases i1 with i1 | i1
          · rw [i1]; exact List.mem_cons_self
          · exact List.mem_cons_of_mem _ i1
        · rcases List.mem_cons.mp hy with rfl | hy
          · exact i2
          · exact i3 y hy
      · rw [if_neg h]
        obtain ⟨i1, i2, i3⟩ := ih x
        refine ⟨i1.imp id (List.mem_cons_of_mem _), i2, fun y hy => ?_⟩
        rcases List.mem_cons.mp hy with rfl | hy
        · omega
        · exact i3 y hy
  intro is m h
  cases is with
  | nil => cases h
  | cons x r =>
    cases h
    obtain ⟨i1, i2, i3⟩ := key r x
    refine ⟨?_, fun y hy => ?_⟩
    · rcases i1 with i1 | i1
      · rw [i1]; exact List.mem_cons_self
      · exact List.mem_cons_of_mem _ i1
    · rcases List.mem_cons.mp hy with rfl | hy
      · exact i2
      · exact i3 y hy
theorem minL_of : ∀ {is : List Int} {m : Int}, minL is = some m → m ∈ is ∧ ∀ y ∈ is, m ≤ y := by
  have key : ∀ (r : List Int) (x : Int), (r.foldl (fun a b => if b < a then b else a) x = x ∨ r.foldl (fun a b => if b < a then b else a) x ∈ r) ∧ r.foldl (fun a b => if b < a then b else a) x ≤ x ∧ ∀ y ∈ r, r.foldl (fun a b => if b < a then b else a) x ≤ y := by
    intro r
    induction r with
    | nil => intro x; exact ⟨.inl rfl, Int.le_refl _, fun y hy => nomatch hy⟩
    | cons a r ih =>
      intro x
      rw [List.foldl_cons]
      by_cases h : a < x
      · rw [if_pos h]
        obtain ⟨i1, i2, i3⟩ := ih a
        refine ⟨.inr ?_, by omega, fun y hy => ?_⟩
        · rcases i1 with i1 | i1
          · rw [i1]; exact List.mem_cons_self
          · exact List.mem_cons_of_mem _ i1
        · rcases List.mem_cons.mp hy with rfl | hy
          · exact i2
          · exact i3 y hy
      · rw [if_neg h]
        obtain ⟨i1, i2, i3⟩ := ih x
        refine ⟨i1.imp id (List.mem_cons_of_mem _), i2, fun y hy => ?_⟩
        rcases List.mem_cons.mp hy with rfl | hy
        · omega
        · exact i3 y hy
  intro is m h
  cases is with
  | nil => cases h
  | cons x r =>
    cases h
    obtain ⟨i1, i2, i3⟩ := key r x
    refine ⟨?_, fun y hy => ?_⟩
    · rcases i1 with i1 | i1
      · rw [i1]; exact List.mem_cons_self
      · exact List.mem_cons_of_mem _ i1
    · rcases List.mem_cons.mp hy with rfl | hy
      · exact i2
      · exact i3 y hy
theorem intKs_keys {α : Type} : ∀ {kvs : List (Key × α)} {is : List Int}, intKs kvs = some is → kvs.map (·.1) = is.map Sum.inl
  | [], _, h => by cases h; rfl
  | (.inl i, a) :: r, _, h => by
    obtain ⟨js, hj, rfl⟩ := opt_map (show (intKs r).map (i :: ·) = some _ from h)
    simp [intKs_keys hj]
  | (.inr x, a) :: r, _, h => by cases h
theorem bi_sound (b : Bi) (hK : X.K = g.K) (hu : X.A.units + 65 < cLine) (hc : X.calm = true) : CallR X (biV b) (rBi g b) := by
  rintro pins s σ H xs us Q I rs ⟨S, φ, x, t, t', rfl, r, ha, ht, h⟩
  cases b
  case len =>
    unfold biE at ht
    simp only at ht
    split at ht
    · split at ht
      · cases ht
        cases ha
        exact call_len pins s σ H _ _ Q I rs ⟨_, _, rfl, ⟨by assumption, rfl⟩, give r (.int _) h⟩
      · cases ht
    · split at ht
      · rename_i ds hs
        cases ht
        obtain ⟨p, vs, rfl, h1, h2⟩ := ha.seqR r hs
        rw [← hK] at h1
        refine call_len pins s σ H _ _ Q I rs ⟨_, vs.length, rfl, ?_, ?_⟩
        · rcases h1 with h1 | h1
          · exact .inl ⟨_, h1, rfl⟩
          · exact .inr ⟨_, h1, rfl⟩
        · rw [← h2.length]
          exact give r (.int _) h
      · split at ht
        · rename_i kvs hk
          cases ht
          obtain ⟨p, ho, rfl, h1, ws, rfl, e1, e2⟩ := ha.objW r hk rfl
          obtain ⟨u, rfl, ru⟩ := vals1 rs
          cases (show u = Value.ref p from ru)
          have hl : (ws.length : Int) = (kvs.length : Int) := by
            have := congrArg List.length e1
            simp at this
            rw [this]
          exact d_len I (.inl h1) fun tk s' I' => ⟨.int kvs.length, H, I', ⟨tk, by rw [hl]⟩, give r (.int _) h⟩
        · cases ht
  case all =>
    obtain ⟨ds, hd, ht⟩ := opt_bind ht
    obtain ⟨bs, hb, rfl⟩ := opt_map ht
    obtain ⟨p, vs, rfl, h1, h2⟩ := ha.lstR r hd
    rw [← hK] at h1
    have e := blsOf_Em hb h2
    subst e
    exact cr_all hc pins s σ H _ _ Q I rs ⟨p, bs, rfl, h1, give r (.bl _) h⟩
  case any =>
    obtain ⟨ds, hd, ht⟩ := opt_bind ht
    obtain ⟨bs, hb, rfl⟩ := opt_map ht
    obtain ⟨p, vs, rfl, h1, h2⟩ := ha.lstR r hd
    rw [← hK] at h1
    have e := blsOf_Em hb h2
    subst e
    exact cr_any hc pins s σ H _ _ Q I rs ⟨p, bs, rfl, h1, give r (.bl _) h⟩
  case tuple =>
    obtain ⟨ds, hd, rfl⟩ := opt_map ht
    obtain ⟨p, vs, rfl, h1, h2⟩ := ha.seqR r hd
    refine call_tuple_of pins s σ H _ _ Q I rs ⟨p, vs, rfl, ?_⟩
    rcases h1 with h1 | h1
    · rw [← hK] at h1
      exact .inl ⟨h1, fun n hn => give_tup r hn h2 h⟩
    · have h1' := h1
      rw [← hK] at h1'
      exact .inr ⟨h1', give r (.tup h1 h2) h⟩
  case list =>
    obtain ⟨ds, hd, rfl⟩ := opt_map ht
    obtain ⟨p, vs, rfl, h1, h2⟩ := ha.seqR r hd
    rw [← hK] at h1
    exact call_list_of pins s σ H _ _ Q I rs ⟨p, vs, rfl, h1, fun n hn => give_new (o := .lst _) r hn ⟨_, rfl, h2⟩ h⟩
  case int =>
    unfold biE at ht
    simp only at ht
    split at ht
    · cases ht
      cases ha
      exact call_int1 pins s σ H _ _ Q I rs (.inl ⟨_, rfl, give r (.int _) h⟩)
    · cases ht
      cases ha
      exact call_int1 pins s σ H _ _ Q I rs (.inr ⟨_, rfl, give r (.int _) h⟩)
    · cases ht
  case abs =>
    obtain ⟨i, hi, rfl⟩ := opt_map ht
    have e := intO_some hi
    subst e
    cases ha
    exact call_abs pins s σ H _ _ Q I rs ⟨i, rfl, give r (.int _) h⟩
  case max =>
    obtain ⟨ds, hd, ht⟩ := opt_bind ht
    obtain ⟨is, hb, ht⟩ := opt_bind ht
    obtain ⟨m, hm, rfl⟩ := opt_map ht
    obtain ⟨p, vs, rfl, h1, h2⟩ := ha.lstR r hd
    rw [← hK] at h1
    have e := intsOf_Em hb h2
    subst e
    obtain ⟨m1, m2⟩ := maxL_of hm
    refine cr_max hc pins s σ H _ _ Q I rs ⟨p, is, rfl, h1, List.length_pos_of_mem m1, fun m' k1 k2 => ?_⟩
    have e : m' = m := Int.le_antisymm (m2 _ k1) (k2 _ m1)
    subst e
    exact give r (.int _) h
  case min =>
    obtain ⟨ds, hd, ht⟩ := opt_bind ht
    obtain ⟨is, hb, ht⟩ := opt_bind ht
    obtain ⟨m, hm, rfl⟩ := opt_map ht
    obtain ⟨p, vs, rfl, h1, h2⟩ := ha.lstR r hd
    rw [← hK] at h1
    have e := intsOf_Em hb h2
    subst e
    obtain ⟨m1, m2⟩ := minL_of hm
    refine cr_min hc pins s σ H _ _ Q I rs ⟨p, is, rfl, h1, List.length_pos_of_mem m1, fun m' k1 k2 => ?_⟩
    have e : m' = m := Int.le_antisymm (k2 _ m1) (m2 _ k1)
    subst e
    exact give r (.int _) h
  case sorted =>
    unfold biE at ht
    simp only at ht
    split at ht
    case h_2 =>
      split at ht
      · rename_i kvs hk
        split at ht
        · rename_i hl
          obtain ⟨is, hi, rfl⟩ := opt_map ht
          obtain ⟨p, ws, rfl, hr, k1, _⟩ := dkR_at r ha hk
          have e1 := intKs_keys hi
          have e2 : is.length = kvs.length := by
            have := congrArg List.length e1
            simpa using this.symm
          refine call_sortedDI hc pins s σ H _ _ Q I rs ⟨p, ws, is, rfl, hr, k1.trans e1, by omega, fun ys q k1 k2 hn => ?_⟩
          have e := sortI_of k1 k2
          subst e
          exact give_new (o := .lst _) r hn ⟨_, rfl, Ems.ints _⟩ h
        · cases ht
      · cases ht
    rename_i ds hd
    obtain ⟨rs', hb, rfl⟩ := opt_map ht
    obtain ⟨p, vs, rfl, h1, h2⟩ := ha.lstR r hd
    rw [← hK] at h1
    unfold sortD at hb
    split at hb
    · rename_i is hb'
      cases hb
      have e := intsOf_Em hb' h2
      subst e
      refine cr_sortedI pins s σ H _ _ Q I rs ⟨p, is, rfl, h1, fun ns' q k1 k2 hn => ?_⟩
      have e := sortI_of k1 k2
      subst e
      exact give_new (o := .lst _) r hn ⟨_, rfl, Ems.ints _⟩ h
    · obtain ⟨xs, hb', rfl⟩ := opt_map hb
      have e := tupsOf_map hb'
      subst e
      obtain ⟨k1, k2⟩ := ems_keyT hK I h2
      refine cr_sortedTI (by omega) pins s σ H _ _ Q I rs ⟨p, vs, keyT X.K H, rfl, h1, k2, fun ys q hs hst hn => ?_⟩
      have e : ys.map (keyT X.K H) = sortL xs := by
        refine lexL_uniq ?_ (List.pairwise_map.mpr (hs.imp fun {x y} z => z)) (sortL_sorted xs)
        have p1 := hst.perm.map (keyT X.K H)
        rw [k1] at p1
        exact p1.trans (sortL_perm xs).symm
      rw [← e] at h
      exact give_new (o := .lst _) r hn ⟨_, rfl, ems_of_keyT hK fun x hx => k2 x (hst.perm.mem_iff.mp hx)⟩ h
  case sum =>
    obtain ⟨ds, hd, ht⟩ := opt_bind ht
    obtain ⟨is, hb, rfl⟩ := opt_map ht
    obtain ⟨p, vs, rfl, h1, h2⟩ := ha.lstR r hd
    rw [← hK] at h1
    have e := intsOf_Em hb h2
    subst e
    exact cr_sum hc pins s σ H _ _ Q I rs ⟨p, is, rfl, h1, give r (.int _) h⟩
  case bool =>
    unfold biE at ht
    simp only at ht
    split at ht
    · cases ht
      cases ha
      exact call_bool1 pins s σ H _ _ Q I rs (.inl ⟨_, rfl, give r (.bl _) h⟩)
    · cases ht
      cases ha
      exact call_bool1 pins s σ H _ _ Q I rs (.inr ⟨_, rfl, give r (.bl _) h⟩)
    · cases ht
  case str =>
    unfold biE at ht
    simp only at ht
    split at ht
    · split at ht
      · rename_i hl
        cases ht
        cases ha
        exact call_str_int pins s σ H _ _ Q I rs ⟨_, rfl, hl, give r (.str _) h⟩
      · cases ht
    · cases ht
  all_goals cases ht

theorem atI_Em {ds : List D} {vs : List V} {i : Int} {d : D} (h : Ems g H φ ds vs) (e : atI ds i = some d) : ∃ v, atI vs i = some v ∧ Em g H φ d v := by
  unfold atI at e ⊢
  obtain ⟨j, h1, h2⟩ := opt_bind e
  obtain ⟨v, h3, h4⟩ := h.get h2
  rw [← h.length, h1]
  exact ⟨v, h3, h4⟩
theorem dk_get {t : T} {x : V} {kvs : List (Key × D)} {k : Key} {d : D} (r : Rel g H φ S) (ha : TEm g H φ t x) (hk : objR S t = some (.dK kvs)) (hv : valK k kvs = some d) : ∃ p v, x = .ref p ∧ DGet H p (kV k) (some v) ∧ Em g H φ d v := by
  obtain ⟨p, ho, o', rfl, h1, h2, h3⟩ := ha.objR r hk rfl
  have h3' : unlk o' = .dK kvs := by
    rcases h3 with h3 | h3
    · rw [← h3]; rfl
    · exact h3.symm
  obtain ⟨ws, hr, e1, e2⟩ : ∃ ws, Rd H p (.dK ws) ∧ ws.map (·.1) = kvs.map (·.1) ∧ Ems g H φ (kvs.map (·.2)) (ws.map (·.2)) := by
    cases o' with
    | dK kvs' =>
      cases h3'
      obtain ⟨ws, rfl, k1, k2⟩ := h2
      exact ⟨ws, .inl h1, k1, k2⟩
    | lk o2 =>
      have h3' : o2 = .dK kvs := h3'
      subst h3'
      obtain ⟨ob, ho', rfl, ws, rfl, k1, k2⟩ := h2
      exact ⟨ws, .inr ⟨ob, h1⟩, k1, k2⟩
    | _ => cases h3'
  obtain ⟨v, k1, k2⟩ := (valK_eq k e1 e2).2 d hv
  exact ⟨p, v, rfl, .inl ⟨ws, k, hr, rfl, k1.symm⟩, k2⟩
theorem idx_sound (hK : X.K = g.K) (hu : X.A.units + 65 < cLine) : IxR X (rOp g fun S a i => (idxE S a i).map T.v) := by
  rintro value slice pins s σ H x y v u Q I rx ry ⟨S, φ, a, i, t, r, ha, hb, ht, h⟩ hs
  obtain ⟨d, hd, rfl⟩ := opt_map (f := T.v) (o := idxE S a i) ht
  unfold idxE at hd
  split at hd
  · split at hd
    · obtain ⟨c, hc, rfl⟩ := opt_map hd
      cases ha
      cases hb
      exact ix_str value slice pins s σ H _ _ _ _ Q I rx ry ⟨_, _, _, rfl, rfl, by assumption, hc, give r (.str _) h⟩ hs
    · cases hd
  · cases hb
    split at hd
    · rename_i ds hds
      obtain ⟨p, vs, rfl, h1, h2⟩ := ha.seqR r hds
      rw [← hK] at h1
      obtain ⟨w, e1, e2⟩ := atI_Em h2 hd
      rcases h1 with h1 | h1
      · exact ix_list value slice pins s σ H _ _ _ _ Q I rx ry ⟨p, vs, _, w, rfl, rfl, h1, e1, give r e2 h⟩ hs
      · exact ix_tup value slice pins s σ H _ _ _ _ Q I rx ry ⟨p, vs, _, w, rfl, rfl, h1, e1, give r e2 h⟩ hs
    · split at hd
      · rename_i kvs hk
        obtain ⟨p, w, rfl, e1, e2⟩ := dk_get r ha hk hd
        cases (show v = Value.ref p from rx)
        exact PyProof.Rows.tail_any (dict_typeIs I e1) PySem.F.slot_dict_getitem.lookup (d_getItem (by omega) I e1 ry fun w' s' I' rw' => ⟨w, H, I', rw', give r e2 h⟩) hs
      · cases hd
  · cases hb
    split at hd
    · rename_i kvs hk
      obtain ⟨p, w, rfl, e1, e2⟩ := dk_get r ha hk hd
      cases (show v = Value.ref p from rx)
      exact PyProof.Rows.tail_any (dict_typeIs I e1) PySem.F.slot_dict_getitem.lookup (d_getItem (by omega) I e1 ry fun w' s' I' rw' => ⟨w, H, I', rw', give r e2 h⟩) hs
    · cases hd
  · cases hd
theorem cut_Em {ds : List D} {vs : List V} {lo hi : Option Int} (h : Ems g H φ ds vs) : Ems g H φ (cut ds lo hi) (cutV vs lo hi) := by
  unfold cut cutV
  rw [← h.length]
  exact (h.drop _).take _
def rSlc (g : G) : V → Option Int → Option Int → Hp → VK → Prop := fun x lo hi H Q => ∃ S φ a t, Rel g H φ S ∧ TEm g H φ a x ∧ slcE S a lo hi = some t ∧ ∀ H' v, Ext g H φ H' φ → Rel g H' φ S → TEm g H' φ t v → Fr H t v → Q v H'
theorem slc_sound (hK : X.K = g.K) : SlR X (rSlc g) := by
  rintro pins s σ H x v vl vu lo hi sl Q I rx hs pl pu ⟨S, φ, a, t, r, ha, ht, h⟩
  unfold slcE at ht
  split at ht
  · cases ht
    cases ha with
    | tup h1 h2 =>
      have h1' := h1
      rw [← hK] at h1'
      refine sl_tupA pins s σ H _ v vl vu lo hi sl Q I rx hs pl pu ⟨_, _, rfl, h1', fun hw => ?_, fun hw n hn => give_tup r hn (cut_Em h2) h⟩
      have e : ∀ {α : Type} (xs : List α), (HT.sIx xs.length 0 lo = 0 ∧ HT.sIx xs.length xs.length hi = xs.length) → (xs.drop (HT.sIx xs.length 0 lo)).take (HT.sIx xs.length xs.length hi - HT.sIx xs.length 0 lo) = xs := by
        intro α xs hz
        rw [hz.1, hz.2]
        simp
      have e2 := e _ (by rw [h2.length]; exact hw)
      unfold cut at h
      rw [e2] at h
      exact give r (.tup h1 h2) h
  · cases ht
  · obtain ⟨ds, hd, rfl⟩ := opt_map ht
    obtain ⟨p, vs, rfl, h1, h2⟩ := ha.lstR r hd
    rw [← hK] at h1
    exact sl_list pins s σ H _ v vl vu lo hi sl Q I rx hs pl pu ⟨p, vs, rfl, h1, fun n hn => give_new (o := .lst _) r hn ⟨_, rfl, cut_Em h2⟩ h⟩
end
end Ev
set_option Elab.async false
set_option linter.all false
set_option maxRecDepth 100000
set_option autoImplicit false
set_option maxHeartbeats 4000000
/-! Ev, part W: an instance with its own __eq__, compared by == and !=. -/
namespace Ev
open PySem PySem.Spec PyProof.Rows
section
variable {prog : Program} {w : World} {A : Around} {E : Value → Shared → Prop} {s : Shared} {K : PySem.W.Frag} {x C f : Addr} {ox : Obj} {od : Option Obj} {b tb : Value}
/-- the class leaves != to object -/
def leavesNe (K : PySem.W.Frag) (C : Addr) : Prop := PySem.W.findIn K (.ref C) "__ne__" = some (some (.builtin "object.__ne__")) ∧ PySem.W.mroIn K C (.type "object") = some true
/-- object.__ne__ turns the answer of __eq__ about -/
theorem entry_ne {Q : PySem.Fin → Shared → Prop} (hu : A.units < cLine) (X : K.In s.heap) (I : PySem.W.InstAt s.heap x ox C od) (hs : PySem.W.findIn K (.ref C) "__eq__" = some (some (.ref f))) (hf : PySem.W.isFn K (.ref f) = true)
    (h : wpAny (model prog w) A (call (.ref f) [.ref x, b]) (fun v s' => ∃ r, v = .bool r ∧ Q (.done (.ret (.bool (!r)))) s') E s) : wpAny (model prog w) A (Builtin.«object.__ne__» ⟨[.ref x, b], []⟩) Q E s := by
  unfold Builtin.«object.__ne__»
  refine wpAny_bind (wpAny_of_eq (a := ((Value.ref x : Value), [b])) (by first | rfl | (simp only [Builtin.slotArgs]; rfl)) ?_)
  refine wpAny_bind (wpAny_cRoomFor hu (wpAny_bind (PySem.W.ifBound_K X I hs hf (wpAny_mono h (fun v s' hv => ?_) fun _ _ e => e))))
  obtain ⟨r, rfl, q⟩ := hv
  refine wpAny_bind (wpAny_truthy_bool ?_)
  exact wpAny_pure q
theorem ne_answer {Q : Value → Shared → Prop} (hu : A.units + 1 < cLine) (X : K.In s.heap) (I : PySem.W.InstAt s.heap x ox C od) (hn : leavesNe K C) (hs : PySem.W.findIn K (.ref C) "__eq__" = some (some (.ref f))) (hf : PySem.W.isFn K (.ref f) = true)
    (h : wpAny (model prog w) A.in1 (call (.ref f) [.ref x, b]) (fun v s' => ∃ r, v = .bool r ∧ Q (.bool (!r)) s') E s) : wpAny (model prog w) A (tryCompare (.ref x) "__ne__" b) (fun r s' => ∃ v, r = some v ∧ Q v s') E s := by
  have inner : wpAny (model prog w) A (call (.builtin "object.__ne__") [.ref x, b]) (fun v s' => ∃ r, v = .bool r ∧ Q (.bool r) s') E s := by
    refine wpAny_call (codeAny_call_builtin F.cmp_object.ne.plain F.cmpEntry_ne (PySem.W.check_slot F.cmpKind_ne F.cmpSplit_ne (I.type.andThen (PySem.W.looks_mroIn X hn.2)) (F.cmpArgs_ne _ _) (entry_ne hu X I hs hf (wpAny_mono h (fun v s' hv => ?_) fun _ _ e => e))))
    obtain ⟨r, rfl, q⟩ := hv
    exact ⟨r, rfl, _, rfl, q⟩
  have asked : wpAny (model prog w) A (callSpecialIfBound? (.ref x) "__ne__" [b]) (fun v s' => ∃ r, v = some (.bool r) ∧ Q (.bool r) s') E s := by
    simp only [callSpecialIfBound?, bindSpecialIfBound?]
    refine wpAny_holding (wpAny_bind (wpAny_bind (wpAny_bind (I.type.here ((PySem.W.looks_findIn X hn.1).here (wpAny_bind (wpAny_askSetting (wpAny_ite ?_))))))))
    have fin : wpAny (model prog w) A (call (.builtin "object.__ne__") ([.ref x] ++ [b]) >>= fun v => pure (some v)) (fun v s' => ∃ r, v = some (.bool r) ∧ Q (.bool r) s') E s := by
      refine wpAny_bind (wpAny_mono inner (fun v s' hv => ?_) fun _ _ e => e)
      obtain ⟨r, rfl, q⟩ := hv
      exact wpAny_pure ⟨r, rfl, q⟩
    split
    · exact wpAny_bind (wpAny_of_eq (F.cmp_object.ne.bind _) (wpAny_pure (by exact fin)))
    · exact wpAny_tryCatch (wpAny_bind (wpAny_of_eq (F.cmp_object.ne.bind _) (wpAny_pure (by exact fin))))
  unfold tryCompare
  refine wpAny_bind (wpAny_mono asked (fun v s' hv => ?_) fun _ _ e => e)
  obtain ⟨r, rfl, q⟩ := hv
  exact wpAny_pure ⟨_, rfl, q⟩
/-- x != b -/
theorem own_ne {Q : Value → Shared → Prop} (hu : A.units + 1 < cLine) (X : K.In s.heap) (I : PySem.W.InstAt s.heap x ox C od) (hb : PySem.W.Looks (model prog w) s.heap (typeOf b) tb) (hnf : PySem.W.notFirst K C tb = true) (hn : leavesNe K C)
    (hs : PySem.W.findIn K (.ref C) "__eq__" = some (some (.ref f))) (hf : PySem.W.isFn K (.ref f) = true)
    (h : wpAny (model prog w) A.in1 (call (.ref f) [.ref x, b]) (fun v s' => ∃ r, v = .bool r ∧ Q (.bool (!r)) s') E s) : wpAny (model prog w) A (richCompare .NotEq (.ref x) b) Q E s := by
  have one := ne_answer hu X I hn hs hf h
  unfold richCompare
  simp only [oneThing_ref]
  refine wpAny_holding (wpAny_bind (wpAny_cRoomFor (Nat.lt_of_succ_lt hu) ?_))
  refine wpAny_bind (I.type.here (wpAny_bind (hb.here ?_)))
  split
  · rename_i q
    have e : PySem.W.subIn K tb (.ref C) = some false := by
      rcases Bool.or_eq_true_iff.mp hnf with e | e
      · rw [beq_iff_eq.mp e] at q; simp at q
      · exact beq_iff_eq.mp e
    refine wpAny_bind ((PySem.W.looks_subIn X e).here ?_)
    simp only [Bool.false_eq_true, if_false]
    refine wpAny_bind (wpAny_mono one (fun r s' z => ?_) fun _ _ e => e)
    obtain ⟨v, rfl, q⟩ := z
    exact wpAny_pure q
  · refine wpAny_bind (wpAny_pure ?_)
    simp only [Bool.false_eq_true, if_false]
    refine wpAny_bind (wpAny_mono one (fun r s' z => ?_) fun _ _ e => e)
    obtain ⟨v, rfl, q⟩ := z
    exact wpAny_pure q
end
end Ev
set_option Elab.async false
set_option linter.all false
set_option maxRecDepth 100000
set_option autoImplicit false
set_option maxHeartbeats 1000000
/-! Ev, part G: where one stands, the readings, expressions but comprehensions. -/
namespace Ev
open PySem L2

/-- the built-in types' names that isinstance may meet -/
def tyNames : List String := ["NoneType", "bool", "int", "str", "tuple", "list", "dict"]
/-- a def's promise: what the interpreter says of it -/
def spOf (g : G) (n : Nat) (run : List D → Store → R D) : Sp := fun vs H Q E => vs.length = n ∧ ∃ ds S φ, Rel g H φ S ∧ Ems g H φ ds vs ∧
  Post g (fun cls dx _ H' => E cls dx H') H φ [] (fun d S' H' φ' => ∀ v, Em g H' φ' d v → Q v H') (run ds S)
/-- what the text must be -/
structure GOk (g : G) (cx : Cxt) : Prop where
  nd : g.T.flds.Nodup
  fun_ : ∀ x i, g.T.funs.lookup x = some i → g.mg x = some (.ref (g.fa i)) ∧ PySem.W.keepIn g.K (.ref (g.fa i)) = true
  cls_ : ∀ x i, g.T.clss.lookup x = some i → g.mg x = some (.ref (g.ca i))
  cst_ : ∀ x d, g.T.csts.lookup x = some d → ∃ u v, g.mg x = some u ∧ RelV v u ∧ ∀ H φ, Em g H φ d v
  blt_ : ∀ x ∈ bltns, g.mg x = none
  at_ : ∀ c f, cx.at_ c f = true → Cls g.K (g.ca c) ∧ NoAttr g.K (g.ca c) (g.fn f)
  ic_ : ∀ c, cx.ic c = true → Cls g.K (g.ca c) ∧ PySem.W.findIn g.K (.ref (g.ca c)) "__class__" = some (some (.builtin "object.__class__")) ∧
    PySem.W.specialIn g.K (.builtin "object.__class__") "__get__" = some (some (.builtin "getset_descriptor.__get__")) ∧ PySem.W.takesIn g.K (.builtin "object.__class__") = some true ∧ PySem.W.mroIn g.K (g.ca c) (.type "object") = some true ∧
    ∀ s ∈ tyNames, PySem.W.kitOne g.K (.ref (g.ca c)) (.type s) = some false
  cc_ : ∀ x m n, cx.ic m = true → g.T.clss.lookup x = some n → PySem.W.kitOne g.K (.ref (g.ca m)) (.ref (g.ca n)) = some (cx.sb m n)
  xi_ : ∀ c, cx.xi c = true → ExcC g.K (g.ca c) ∧ PySem.W.kitOne g.K (.ref (g.ca c)) (.type "ValueError") = some (cx.sb c 1000)
  rs_ : ∀ c, cx.rs c = true → cx.xi c = true ∧ g.xf c = none ∧ PySem.W.keepIn g.K (.ref (g.ca c)) = true ∧ PySem.W.excIn g.K (g.ca c) [.type "ValueError", .type "Exception", .type "BaseException", .type "object"] "ValueError.__new__" = true ∧
    PySem.W.subIn g.K (.ref (g.ca c)) (.type "BaseException") = some true ∧ PySem.W.typeIn g.K (.ref (g.ca c)) = some (.type "type")
  ex_ : ∀ x c d, cx.xi c = true → g.T.clss.lookup x = some d → PySem.W.kitOne g.K (.ref (g.ca c)) (.ref (g.ca d)) = some (cx.sb c d) ∧ (cx.xi d = true → PySem.W.exmOne g.K (.ref (g.ca c)) (.ref (g.ca d)) = some (cx.sb c d))
  xa_ : ∀ c f, cx.xa c f = true → ExcC g.K (g.ca c) ∧ PySem.W.findIn g.K (.ref (g.ca c)) (g.fn f) = some none
  x0_ : ∀ x c, g.T.exs.lookup x = some (c, none) → g.mg x = some (.ref (g.ca c)) ∧ PySem.W.keepIn g.K (.ref (g.ca c)) = true ∧ PySem.W.excIn g.K (g.ca c) [.type "ValueError", .type "Exception", .type "BaseException", .type "object"] "ValueError.__new__" = true
  x1_ : ∀ x c f, g.T.exs.lookup x = some (c, some f) → g.mg x = some (.ref (g.ca c)) ∧ OexC g.K (g.ca c) ∧ ∃ fI fd ps, PySem.W.findIn g.K (.ref (g.ca c)) "__init__" = some (some (.ref fI)) ∧ PySem.W.typeIn g.K (.ref fI) = some (.type "function") ∧ Binds g.K fd ps [] ∧
    FnOk g.P g.w g.K g.mg g.base (L2.CX g.P g.w) 1 fI fd ps (spX (g.ca c) (g.fn f))
  eq_ : ∀ c f, cx.eq c = some f → cx.ic c = true ∧ PySem.W.findIn g.K (.ref (g.ca c)) "__eq__" = some (some (.ref (g.fa f))) ∧ PySem.W.isFn g.K (.ref (g.fa f)) = true ∧ leavesNe g.K (g.ca c) ∧
    (∀ s ∈ tyNames, PySem.W.notFirst g.K (g.ca c) (.type s) = true) ∧ ∀ m, cx.ic m = true → PySem.W.notFirst g.K (g.ca c) (.ref (g.ca m)) = true
  vn_ : g.mg "ValueError" = none
  tc_ : ∀ x s n, s ∈ tyNames → g.T.clss.lookup x = some n → PySem.W.kitOne g.K (.type s) (.ref (g.ca n)) = some false
/-- what the calls keep, at level k -/
structure COk (g : G) (cx : Cxt) (k : Nat) : Prop where
  lv_ : cx.lv = true → 2 ≤ k
  eq_ : ∀ c f, cx.eq c = some f → (∀ ds S, cx.cj f ds S = .bad) ∨ ∃ j fd ps, k = j + 1 ∧ (∀ ds S, ds.length ≠ ps.length → cx.cj f ds S = .bad) ∧ FnOk g.P g.w g.K g.mg g.base (L2.CX g.P g.w) j (g.fa f) fd ps (spOf g ps.length (cx.cj f)) ∧ Binds g.K fd ps []
  call_ : ∀ x i, g.T.funs.lookup x = some i → ∃ fd ps, (∀ ds S, ds.length ≠ ps.length → cx.call i ds S = .bad) ∧ FnOk g.P g.w g.K g.mg g.base (L2.CX g.P g.w) k (g.fa i) fd ps (spOf g ps.length (cx.call i)) ∧ Binds g.K fd ps []
  mak_ : ∀ x c, g.T.clss.lookup x = some c → PySem.W.keepIn g.K (.ref (g.ca c)) = true ∧ ((∀ ds S, cx.mak c ds S = .bad) ∨ ∃ j f fd ps ini, k = j + 1 ∧ (∀ ds S, ds.length ≠ ps.length → ini ds S = .bad) ∧ Mk g.K (g.ca c) f ∧
    FnOk g.P g.w g.K g.mg g.base (L2.CX g.P g.w) j f fd ps (spOf g ps.length ini) ∧ Binds g.K fd ps [] ∧
    ∀ ds S, cx.mak c ds S = (ini (.ref S.length :: ds) (S ++ [.ins c []])).bind fun d S1 => if d = .non then .ok (.ref S.length) S1 else .bad)
/-- where one stands -/
structure XOk (g : G) (N : List Str) (k : Nat) (sc : Scope) (W : WX) (X : Cx) : Prop where
  prog : X.prog = g.P
  hw : X.w = g.w
  K : X.K = g.K
  mg : X.mg = g.mg
  base : X.base = g.base
  hN : X.N = N
  nd : N.Nodup
  hsc : X.env.scope = sc
  room : Room k X.A
  calm : X.calm = true
  tk : Takes X W

/-! ### readings -/
def KE (g : G) (H0 : Hp) (Q : VK) : T → Store → Hp → List Addr → Prop := fun t _ H' φ' => ∀ v, TEm g H' φ' t v → Fr H0 t v → Q v H'
def tE (g : G) (W : WX) (m : Env → Store → R T) : TE := fun τ H Q => ∃ σ S φ, Rel g H φ S ∧ RelE g H φ σ τ ∧ Post g W H φ τ (KE g H Q) (m σ S)
def tT (g : G) (W : WX) (m : Env → Store → R Bool) : TT := fun τ H Q => ∃ σ S φ, Rel g H φ S ∧ RelE g H φ σ τ ∧ Post g W H φ τ (fun b _ H' _ => Q b H') (m σ S)
def tD (g : G) (W : WX) (m : Env → Store → R (List D)) : TA := fun τ H Q => ∃ σ S φ, Rel g H φ S ∧ RelE g H φ σ τ ∧ Post g W H φ τ (fun ds _ H' φ' => ∀ vs, Ems g H' φ' ds vs → Q vs H') (m σ S)

theorem PEimp {X : Cx} {e : Expr} {t t' : TE} (h : PE X e t) (k : ∀ τ H Q, t' τ H Q → t τ H Q) : PE X e t' := ⟨fun pins s τ H Q I q => h.run pins s τ H Q I (k τ H Q q)⟩
theorem PTimp {X : Cx} {e : Expr} {t t' : TT} (h : PT X e t) (k : ∀ τ H Q, t' τ H Q → t τ H Q) : PT X e t' := ⟨fun pins s τ H Q I q => h.run pins s τ H Q I (k τ H Q q)⟩
theorem PAimp {X : Cx} {e : List Expr} {t t' : TA} (h : PA X e t) (k : ∀ τ H Q, t' τ H Q → t τ H Q) : PA X e t' := ⟨fun pos pins s τ H Q I q => h.run pos pins s τ H Q I (k τ H Q q)⟩
section
variable {g : G} {W : WX} {H H1 : Hp} {φ φ1 : List Addr} {τ : St} {σ : Env} {S1 : Store} {β : Type} {K : β → Store → Hp → List Addr → Prop}
theorem use_e {m : Env → Store → R T} {f : T → Store → R β} {Q : VK} (rel : Rel g H1 φ1 S1) (rE : RelE g H1 φ1 σ τ) (ex : Ext g H φ H1 φ1) (h : Post g W H φ τ K ((m σ S1).bind f))
    (cont : ∀ t S2 H2 φ2 v, Ext g H1 φ1 H2 φ2 → Rel g H2 φ2 S2 → TEm g H2 φ2 t v → Fr H1 t v → Post g W H φ τ K (f t S2) → Q v H2) : tE g W m τ H1 Q :=
  ⟨σ, S1, φ1, rel, rE, Post.mono (Post.shift ex (Post.bnd h)) fun t S2 H2 φ2 e2 r2 p v em fr => cont t S2 H2 φ2 v e2 r2 em fr p⟩
theorem use_t {m : Env → Store → R Bool} {f : Bool → Store → R β} {Q : Bool → Hp → Prop} (rel : Rel g H1 φ1 S1) (rE : RelE g H1 φ1 σ τ) (ex : Ext g H φ H1 φ1) (h : Post g W H φ τ K ((m σ S1).bind f))
    (cont : ∀ t S2 H2 φ2, Ext g H1 φ1 H2 φ2 → Rel g H2 φ2 S2 → Post g W H φ τ K (f t S2) → Q t H2) : tT g W m τ H1 Q :=
  ⟨σ, S1, φ1, rel, rE, Post.mono (Post.shift ex (Post.bnd h)) fun t S2 H2 φ2 e2 r2 p => cont t S2 H2 φ2 e2 r2 p⟩
theorem use_d {m : Env → Store → R (List D)} {f : List D → Store → R β} {Q : List V → Hp → Prop} (rel : Rel g H1 φ1 S1) (rE : RelE g H1 φ1 σ τ) (ex : Ext g H φ H1 φ1) (h : Post g W H φ τ K ((m σ S1).bind f))
    (cont : ∀ t S2 H2 φ2 v, Ext g H1 φ1 H2 φ2 → Rel g H2 φ2 S2 → Ems g H2 φ2 t v → Post g W H φ τ K (f t S2) → Q v H2) : tD g W m τ H1 Q :=
  ⟨σ, S1, φ1, rel, rE, Post.mono (Post.shift ex (Post.bnd h)) fun t S2 H2 φ2 e2 r2 p v em => cont t S2 H2 φ2 v e2 r2 em p⟩
/-- the last step of an operation -/
theorem fin_op {H0 : Hp} {φ0 : List Addr} {Q : VK} {o : Option T} (ex : Ext g H0 φ0 H1 φ1) (h : Post g W H0 φ0 τ (KE g H0 Q) (ofO S1 o)) :
    ∃ t, o = some t ∧ ∀ H' v, Ext g H1 φ1 H' φ1 → Rel g H' φ1 S1 → TEm g H' φ1 t v → Fr H1 t v → Q v H' := by
  obtain ⟨t, ht, p⟩ := Post.ofO (α := T) h
  exact ⟨t, ht, fun H' v e r m f => p H' φ1 (ex.trans e) r v m (f.ext ex)⟩
theorem fin_v {H0 : Hp} {φ0 : List Addr} {Q : VK} {t : T} {v : V} (ex : Ext g H0 φ0 H1 φ1) (h : Post g W H0 φ0 τ (KE g H0 Q) (.ok t S1)) (r : Rel g H1 φ1 S1) (m : TEm g H1 φ1 t v) (f : Fr H0 t v) : Q v H1 := h H1 φ1 ex r v m f
end
theorem R.bind_assoc {α β γ : Type} (r : R α) (f : α → Store → R β) (h : β → Store → R γ) : (r.bind f).bind h = r.bind fun a S => (f a S).bind h := by
  cases r <;> rfl
theorem dens1 {cx : Cxt} {a : Ex} {σ : Env} {S : Store} {β : Type} (f : List T → Store → R β) : (dens cx [a] σ S).bind f = ((den cx a).e σ S).bind fun t S' => f [t] S' := by
  simp only [dens, R.bind_assoc]
  rfl
theorem dens2 {cx : Cxt} {a b : Ex} {σ : Env} {S : Store} {β : Type} (f : List T → Store → R β) : (dens cx [a, b] σ S).bind f = ((den cx a).e σ S).bind fun t S1 => ((den cx b).e σ S1).bind fun u S2 => f [t, u] S2 := by
  simp only [dens, R.bind_assoc]
  rfl
theorem dens3 {cx : Cxt} {a b c : Ex} {σ : Env} {S : Store} {β : Type} (f : List T → Store → R β) :
    (dens cx [a, b, c] σ S).bind f = ((den cx a).e σ S).bind fun t S1 => ((den cx b).e σ S1).bind fun u S2 => ((den cx c).e σ S2).bind fun v S3 => f [t, u, v] S3 := by
  simp only [dens, R.bind_assoc]
  rfl

/-! ### facts of the syntax -/
section
variable {env : PySem.Env}
theorem starE {e : Expr} {es : List Expr} (h : isStar e = false) : starEach (e :: es) env = (false, eval e env) :: starEach es env := by
  cases e <;> first | rfl | cases h
theorem starP {pos : Pos} : ∀ {es : List Expr}, es.any isStar = false → (backTo pos (starEach es env)).any (·.1) = false
  | [], _ => rfl
  | e :: es, h => by
    rw [List.any_cons, Bool.or_eq_false_iff] at h
    rw [starE h.1]
    have := starP (pos := pos) h.2
    unfold backTo at this ⊢
    rw [List.map_cons, List.any_cons, this]
    rfl
theorem starA {pos : Pos} : ∀ {es : List Expr}, es.any isStar = false → (backTo pos (starEach es env)).all (fun x => !x.1) = true
  | [], _ => rfl
  | e :: es, h => by
    rw [List.any_cons, Bool.or_eq_false_iff] at h
    rw [starE h.1]
    have := starA (pos := pos) h.2
    unfold backTo at this ⊢
    rw [List.map_cons, List.all_cons, this]
    rfl
theorem plainIx {b : Expr} (h : isSlice b = false) : PlainIx b := fun o i => by
  cases b <;> first | rfl | cases h
theorem noFold {e : Expr} (h : isSet e = false) : ∀ x, foldedSetIterable e env x = pure x := fun x => by
  cases e <;> first | rfl | cases h
theorem noMark {op : CmpOp} {e : Expr} (h : isSet e = false) : behindInMarks op e = false := by
  cases e <;> first | rfl | cases h
theorem noMark2 {op op' : CmpOp} {b c : Expr} (h : isSet c = false) : lastMarks [op, op'] [b, c] = false := by
  show behindInMarks op' c = false
  exact noMark h
theorem noSuper {o : Expr} {f : Str} {t : Sem Value} (h : isCall0 o = false) : attributeBase o f env t = t := by
  unfold attributeBase
  cases o with
  | Call fn args kws pos =>
    cases fn <;> cases args <;> cases kws <;> first | rfl | cases h
  | _ => rfl
theorem noSwap {e : Expr} {t : Option Expr} {l : Nat} (h : isComp e = false) : swapsWith e t l env = pure false := by
  cases e <;> first | rfl | cases h
theorem noStores {tg e : Expr} (h : isTup e = false) : swappedStores [tg] e env = pure none := by
  unfold swappedStores
  cases tg <;> cases e <;> first | rfl | cases h
theorem noTest {a : Expr} (h : plainT a = true) : ∀ whole, isTrue a env whole = (do let v ← whole; standAt a.pos; holding [v] (truthy v)) := fun whole => by
  cases a with
  | UnaryOp op x pos => cases op <;> first | rfl | cases h
  | BoolOp _ _ _ => cases h
  | IfExp _ _ _ _ => cases h
  | Compare _ _ _ _ => cases h
  | _ => rfl
end
theorem okN_iff {x : Str} (h : okN x = true) : (x == ("__debug__" : Str)) = false ∧ (x == ("__classdict__" : Str)) = false ∧ x ≠ "__name__" := by
  unfold okN at h
  simp only [Bool.and_eq_true, Bool.not_eq_true', decide_eq_false_iff_not] at h
  exact ⟨h.1.1, h.1.2, h.2⟩
theorem visC_iff {sc : Scope} {x : Str} (h : visC sc x = true) : Vis sc x := by
  unfold visC at h
  split at h
  · exact .inl (by assumption)
  · exact .inr (.inl (by assumption))
  · exact .inr (.inr (by assumption))
  · cases h
theorem locC_iff {sc : Scope} {x : Str} (h : locC sc x = true) : Loc sc x := by
  unfold locC at h
  split at h
  · exact .inl (by assumption)
  · exact .inr (by assumption)
  · cases h
section
variable {g : G} {N : List Str} {k : Nat} {sc : Scope} {W : WX} {X : Cx} {cx : Cxt}
theorem XOk.gl (x : XOk g N k sc W X) {n : Str} (h : glC sc n = true) : Gl X n := by
  unfold glC at h
  have h' := of_decide_eq_true h
  show X.env.scope.names.lookup n = _
  rw [x.hsc]
  exact h'
theorem XOk.units (x : XOk g N k sc W X) : X.A.units + 65 < cLine := by
  have := x.room.un
  omega

/-- a test by the truth of the value -/
theorem truth_sound {S : Store} {H : Hp} {φ : List Addr} {t : T} {v : V} {c : Bool} (r : Rel g H φ S) (h : TEm g H φ t v) (e : truth S t = some c) : TruV g.K v H c := by
  have rest : ∀ o, objW S t = some o → (match (some o : Option O) with
      | some (.lst ds) => some (!ds.isEmpty)
      | some (.lk (.lst ds)) => some (!ds.isEmpty)
      | some (.dK kvs) => some (!kvs.isEmpty)
      | _ => none) = some c → TruV g.K v H c := by
    intro o ho hc
    have hx : isX o = false := by
      cases o with
      | exn c fs => cases hc
      | _ => rfl
    obtain ⟨p, h', rfl, h1, h2⟩ := h.objW r ho hx
    split at hc
    · rename_i ds e'
      cases e'
      cases hc
      obtain ⟨vs, rfl, h3⟩ := h2
      refine .inl ⟨vs, SqL.of h1, ?_⟩
      cases h3 <;> rfl
    · rename_i ds e'
      cases e'
      cases hc
      obtain ⟨ob, ho', rfl, vs, rfl, h3⟩ := h2
      refine .inl ⟨vs, .inl (.inr ⟨ob, h1⟩), ?_⟩
      cases h3 <;> rfl
    · rename_i kvs e'
      cases e'
      cases hc
      obtain ⟨ws, rfl, h3, _⟩ := h2
      refine .inr (.inr ⟨ws, h1, ?_⟩)
      cases ws <;> cases kvs <;> first | rfl | cases h3
    · cases hc
  unfold truth at e
  split at e
  · cases h; cases e; rfl
  · cases h; cases e; rfl
  · cases h; cases e; rfl
  · split at e
    · cases h; cases e; exact ⟨by assumption, rfl⟩
    · cases e
  · cases e
    cases h with
    | tup h1 h2 =>
      refine .inr (.inl ⟨_, h1, ?_⟩)
      cases h2 <;> rfl
  · cases e
  · cases e
  · cases ho : objW S t with
    | none => rw [ho] at e; cases e
    | some o =>
      rw [ho] at e
      exact rest o ho e
theorem pt_of {e : Expr} {m : Ev.Env → Store → R T} (x : XOk g N k sc W X) (h : PE X e (tE g W m)) (hp : plainT e = true) : PT X e (tT g W (Den.of m).b) := by
  refine PTimp (pt_truth h (noTest hp)) ?_
  rintro τ H Q ⟨σ, S, φ, r, rE, p⟩
  refine use_e r rE Ext.refl p fun t S1 H1 φ1 v e1 r1 m1 _ p1 => ?_
  obtain ⟨c, hc, p2⟩ := Post.ofO p1
  exact ⟨c, by rw [x.K]; exact truth_sound r1 m1 hc, p2 H1 φ1 e1 r1⟩
/-- an expression both ways -/
def PB (g : G) (W : WX) (X : Cx) (e : Expr) (d : Den) : Prop := PE X e (tE g W d.e) ∧ PT X e (tT g W d.b)
theorem pb_of {e : Expr} {m : Ev.Env → Store → R T} (x : XOk g N k sc W X) (hp : plainT e = true) (h : PE X e (tE g W m)) : PB g W X e (Den.of m) := ⟨h, pt_of x h hp⟩

theorem s_var {i : Nat} {n : Str} {pos : Pos} (x : XOk g N k sc W X) (hi : slot N n = some i) (hv : visC sc n = true) (ho : okN n = true) : PB g W X (.Name n pos) (den cx (.var i)) := by
  refine pb_of x rfl (PEimp (pe_var (i := i) (by rw [x.hN]; exact slot_at hi) (by rw [x.hsc]; exact visC_iff hv) (okN_iff ho).1 (okN_iff ho).2.1) ?_)
  rintro τ H Q ⟨σ, S, φ, r, rE, p⟩
  obtain ⟨t, ht, p2⟩ := Post.ofO p
  obtain ⟨d, hd, rfl⟩ := opt_map ht
  have hσ : σ[i]? = some (some d) := by
    cases hq : σ[i]? with
    | none => rw [hq] at hd; cases hd
    | some o => rw [hq] at hd; cases o with
      | none => cases hd
      | some d' => cases hd; rfl
  obtain ⟨v, h1, h2⟩ := rE.at_ i d hσ
  exact ⟨v, h1, p2 H φ Ext.refl r v h2 trivial⟩
theorem s_cst {d : D} {v : V} {e : Expr} (x : XOk g N k sc W X) (hp : plainT e = true) (h : PE X e (tC v)) (hm : ∀ H φ, Em g H φ d v) : PB g W X e (den cx (.cst d)) := by
  refine pb_of x hp (PEimp h ?_)
  rintro τ H Q ⟨σ, S, φ, r, rE, p⟩
  exact p H φ Ext.refl r v (hm H φ) trivial
theorem s_op {a b : Expr} {a' b' : Ex} {op : Operator} {o : Op2} {pos : Pos} (x : XOk g N k sc W X) (ho : binC op = some o) (ha : PB g W X a (den cx a')) (hb : PB g W X b (den cx b')) : PB g W X (.BinOp a op b pos) (den cx (.nd (.op o) [a', b'])) := by
  refine pb_of x rfl (PEimp (pe_op (op_sound x.K ho) ha.1 hb.1) ?_)
  rintro τ H Q ⟨σ, S, φ, r, rE, p⟩
  replace p : Post g W H φ τ (KE g H Q) ((dens cx [a', b'] σ S).bind fun ts S' => app cx S' (.op o) ts) := p
  rw [dens2] at p
  refine use_e r rE Ext.refl p fun t1 S1 H1 φ1 v1 e1 r1 m1 f1 p1 => ?_
  refine use_e r1 (rE.ext e1) e1 p1 fun t2 S2 H2 φ2 v2 e2 r2 m2 f2 p2 => ?_
  obtain ⟨t, ht, k⟩ := fin_op (e1.trans e2) p2
  exact ⟨S2, φ2, t1, t2, t, r2, m1.ext e2, m2, ht, k⟩
theorem s_neg {a : Expr} {a' : Ex} {pos : Pos} (x : XOk g N k sc W X) (ha : PB g W X a (den cx a')) : PB g W X (.UnaryOp .USub a pos) (den cx (.nd .neg [a'])) := by
  refine pb_of x rfl (PEimp (pe_un un_neg ha.1) ?_)
  rintro τ H Q ⟨σ, S, φ, r, rE, p⟩
  replace p : Post g W H φ τ (KE g H Q) ((dens cx [a'] σ S).bind fun ts S' => app cx S' .neg ts) := p
  rw [dens1] at p
  refine use_e r rE Ext.refl p fun t1 S1 H1 φ1 v1 e1 r1 m1 f1 p1 => ?_
  obtain ⟨t, ht, k⟩ := fin_op e1 p1
  obtain ⟨i, hi, rfl⟩ := opt_map ht
  have e := intO_some hi
  subst e
  cases m1
  exact ⟨i, rfl, give r1 (.int _) k⟩
end
end Ev
set_option Elab.async false
set_option linter.all false
set_option maxRecDepth 100000
set_option autoImplicit false
set_option maxHeartbeats 1000000
/-! Ev, part H: and, or, not, if; displays, subscripts, fields, isinstance, built-ins, calls. -/
namespace Ev
open PySem L2
section
variable {g : G} {N : List Str} {k : Nat} {sc : Scope} {W : WX} {X : Cx} {cx : Cxt}

theorem Post.ke {H H1 : Hp} {φ φ1 : List Addr} {τ : St} {Q : VK} {r : R T} (e : Ext g H φ H1 φ1) (h : Post g W H φ τ (KE g H Q) r) : Post g W H1 φ1 τ (KE g H1 Q) r :=
  Post.mono (Post.shift e h) fun _ _ _ _ _ _ q v m f => q v m (f.ext e)
theorem pwOf {op : BoolOp} {es : List Expr} {pos : Pos} {t : TT} (h : PT X (.BoolOp op es pos) t) : PW X (.BoolOp op es pos) t := ⟨fun whole pins s τ H Q I q => h.run pins s τ H Q I q⟩
theorem s_one {op : BoolOp} {a : Expr} {d : Den} {pos : Pos} (h : PB g W X a d) : PB g W X (.BoolOp op [a] pos) d :=
  ⟨pe_one h.1, match op with
    | .And => (pw_and1 h.2).pt
    | .Or => (pw_or1 h.2).pt⟩
theorem s_and {a b : Expr} {r : List Expr} {a' b' : Ex} {pos : Pos} (ha : PB g W X a (den cx a')) (hb : PB g W X (.BoolOp .And (b :: r) pos) (den cx b')) : PB g W X (.BoolOp .And (a :: b :: r) pos) (den cx (.and a' b')) := by
  constructor
  · refine PEimp (pe_and ha.1 hb.1) ?_
    rintro τ H Q ⟨σ, S, φ, r, rE, p⟩
    refine use_e r rE Ext.refl p fun t1 S1 H1 φ1 v1 e1 r1 m1 f1 p1 => ?_
    split at p1
    · cases m1
      exact ⟨true, rfl, by rw [if_pos rfl]; exact ⟨σ, S1, φ1, r1, rE.ext e1, Post.ke e1 p1⟩⟩
    · cases m1
      exact ⟨false, rfl, by rw [if_neg Bool.false_ne_true]; exact fin_v e1 p1 r1 (.bl false) trivial⟩
    · exact (show False from p1).elim
  · refine PTimp (pw_and ha.2 (pwOf hb.2)).pt ?_
    rintro τ H Q ⟨σ, S, φ, r, rE, p⟩
    refine use_t r rE Ext.refl p fun c S1 H1 φ1 e1 r1 p1 => ?_
    cases c with
    | true =>
      rw [if_pos rfl] at p1 ⊢
      exact ⟨σ, S1, φ1, r1, rE.ext e1, Post.shift e1 p1⟩
    | false =>
      rw [if_neg Bool.false_ne_true] at p1 ⊢
      exact p1 H1 φ1 e1 r1
theorem s_or {a b : Expr} {r : List Expr} {a' b' : Ex} {pos : Pos} (ha : PB g W X a (den cx a')) (hb : PB g W X (.BoolOp .Or (b :: r) pos) (den cx b')) : PB g W X (.BoolOp .Or (a :: b :: r) pos) (den cx (.or a' b')) := by
  constructor
  · refine PEimp (pe_or ha.1 hb.1) ?_
    rintro τ H Q ⟨σ, S, φ, r, rE, p⟩
    refine use_e r rE Ext.refl p fun t1 S1 H1 φ1 v1 e1 r1 m1 f1 p1 => ?_
    split at p1
    · cases m1
      exact ⟨false, rfl, by rw [if_neg Bool.false_ne_true]; exact ⟨σ, S1, φ1, r1, rE.ext e1, Post.ke e1 p1⟩⟩
    · cases m1
      exact ⟨true, rfl, by rw [if_pos rfl]; exact fin_v e1 p1 r1 (.bl true) trivial⟩
    · exact (show False from p1).elim
  · refine PTimp (pw_or ha.2 (pwOf hb.2)).pt ?_
    rintro τ H Q ⟨σ, S, φ, r, rE, p⟩
    refine use_t r rE Ext.refl p fun c S1 H1 φ1 e1 r1 p1 => ?_
    cases c with
    | true =>
      rw [if_pos rfl] at p1 ⊢
      exact p1 H1 φ1 e1 r1
    | false =>
      rw [if_neg Bool.false_ne_true] at p1 ⊢
      exact ⟨σ, S1, φ1, r1, rE.ext e1, Post.shift e1 p1⟩
theorem s_not {a : Expr} {a' : Ex} {pos : Pos} (ha : PB g W X a (den cx a')) : PB g W X (.UnaryOp .Not a pos) (den cx (.not a')) := by
  constructor
  · refine PEimp (pe_not ha.1) ?_
    rintro τ H Q ⟨σ, S, φ, r, rE, p⟩
    refine use_e r rE Ext.refl p fun t1 S1 H1 φ1 v1 e1 r1 m1 f1 p1 => ?_
    split at p1
    · cases m1
      exact ⟨_, rfl, fin_v e1 p1 r1 (.bl _) trivial⟩
    · exact (show False from p1).elim
  · refine PTimp (pt_not ha.2) ?_
    rintro τ H Q ⟨σ, S, φ, r, rE, p⟩
    refine use_t r rE Ext.refl p fun c S1 H1 φ1 e1 r1 p1 => ?_
    exact p1 H1 φ1 e1 r1
theorem pt_ifExp {c a b : Expr} {pos : Pos} {tc ta tb : TT} (hc : PT X c tc) (ha : PT X a ta) (hb : PT X b tb) : PT X (.IfExp c a b pos) (fun σ H Q => tc σ H fun d H1 => if d = true then ta σ H1 Q else tb σ H1 Q) := by
  refine ⟨fun pins s σ H Q I h => ?_⟩
  show wpAny _ _ (do if ← isTrue c X.env (eval c X.env) then isTrue a X.env (eval a X.env) else isTrue b X.env (eval b X.env)) _ _ s
  refine wpAny_bind (thn (hc.run pins s σ H _ I h) fun d s1 ⟨H1, I1, q1⟩ => ?_)
  cases d with
  | true => exact ha.run pins s1 σ H1 Q I1 q1
  | false => exact hb.run pins s1 σ H1 Q I1 q1
theorem s_ite {c a b : Expr} {c' a' b' : Ex} {pos : Pos} (hc : PB g W X c (den cx c')) (ha : PB g W X a (den cx a')) (hb : PB g W X b (den cx b')) : PB g W X (.IfExp c a b pos) (den cx (.ite c' a' b')) := by
  constructor
  · refine PEimp (pe_ifExp hc.2 ha.1 hb.1) ?_
    rintro τ H Q ⟨σ, S, φ, r, rE, p⟩
    refine use_t r rE Ext.refl p fun d S1 H1 φ1 e1 r1 p1 => ?_
    cases d with
    | true =>
      rw [if_pos rfl] at p1 ⊢
      exact ⟨σ, S1, φ1, r1, rE.ext e1, Post.ke e1 p1⟩
    | false =>
      rw [if_neg Bool.false_ne_true] at p1 ⊢
      exact ⟨σ, S1, φ1, r1, rE.ext e1, Post.ke e1 p1⟩
  · refine PTimp (pt_ifExp hc.2 ha.2 hb.2) ?_
    rintro τ H Q ⟨σ, S, φ, r, rE, p⟩
    refine use_t r rE Ext.refl p fun d S1 H1 φ1 e1 r1 p1 => ?_
    cases d with
    | true =>
      rw [if_pos rfl] at p1 ⊢
      exact ⟨σ, S1, φ1, r1, rE.ext e1, Post.shift e1 p1⟩
    | false =>
      rw [if_neg Bool.false_ne_true] at p1 ⊢
      exact ⟨σ, S1, φ1, r1, rE.ext e1, Post.shift e1 p1⟩
/-- rOp of a comparison, its answer a bool -/
theorem rCmp {H H2 : Hp} {φ φ2 : List Addr} {τ : St} {S2 : Store} {t1 t2 : T} {x y : V} {o : Cm} {α : Type} {K : α → Store → Hp → List Addr → Prop} {f : Bool → Store → R α} {Q : Bool → Hp → Prop} (ex : Ext g H φ H2 φ2) (r2 : Rel g H2 φ2 S2) (m1 : TEm g H2 φ2 t1 x) (m2 : TEm g H2 φ2 t2 y)
    (p : Post g W H φ τ K ((ofO S2 (cmpE S2 o t1 t2)).bind f)) (k : ∀ c H3, cmpE S2 o t1 t2 = some c → Ext g H2 φ2 H3 φ2 → Rel g H3 φ2 S2 → Post g W H φ τ K (f c S2) → Q c H3) :
    rOp g (fun S a b => (cmpE S o a b).map fun c => T.v (.bl c)) x y H2 (fun z H3 => ∃ c, z = .bl c ∧ Q c H3) := by
  cases hc : cmpE S2 o t1 t2 with
  | none => rw [hc] at p; exact (show False from p).elim
  | some c =>
    rw [hc] at p
    refine ⟨S2, φ2, t1, t2, .v (.bl c), r2, m1, m2, (by show (cmpE S2 o t1 t2).map _ = _; rw [hc]; rfl), fun H' v e r' m f' => ?_⟩
    cases m
    exact ⟨c, rfl, k c H' hc e r' p⟩
theorem s_ch {a b c : Expr} {a' b' c' : Ex} {op op' : CmpOp} {o o' : Cm} {pos : Pos} (x : XOk g N k sc W X) (ho : cmpC op = some o) (ho' : cmpC op' = some o') (hs : isSet c = false) (ha : PB g W X a (den cx a')) (hb : PB g W X b (den cx b')) (hc : PB g W X c (den cx c')) :
    PB g W X (.Compare a [op, op'] [b, c] pos) (den cx (.ch o o' a' b' c')) := by
  constructor
  · refine PEimp (pe_chain (cmp_sound x.prog x.hw x.K x.units ho) (cmp_sound x.prog x.hw x.K x.units ho') ha.1 hb.1 hc.1 (noMark2 hs)) ?_
    rintro τ H Q ⟨σ, S, φ, r, rE, p⟩
    refine use_e r rE Ext.refl p fun t1 S1 H1 φ1 v1 e1 r1 m1 f1 p1 => ?_
    refine use_e r1 (rE.ext e1) e1 p1 fun t2 S2 H2 φ2 v2 e2 r2 m2 f2 p2 => ?_
    refine rCmp (e1.trans e2) r2 (m1.ext e2) m2 p2 fun q H3 _ e3 r3 p3 => ?_
    cases q with
    | true =>
      rw [if_pos rfl] at p3 ⊢
      refine use_e r3 (rE.ext ((e1.trans e2).trans e3)) ((e1.trans e2).trans e3) p3 fun t4 S4 H4 φ4 v4 e4 r4 m4 f4 p4 => ?_
      obtain ⟨t, ht, k'⟩ := fin_op (((e1.trans e2).trans e3).trans e4) p4
      exact ⟨S4, φ4, t2, t4, t, r4, m2.ext (e3.trans e4), m4, ht, k'⟩
    | false =>
      rw [if_neg Bool.false_ne_true] at p3 ⊢
      exact fin_v ((e1.trans e2).trans e3) p3 r3 (.bl false) trivial
  · refine PTimp (pt_chain (cmp_sound x.prog x.hw x.K x.units ho) (cmp_sound x.prog x.hw x.K x.units ho') ha.1 hb.1 hc.1 (noMark2 hs)) ?_
    rintro τ H Q ⟨σ, S, φ, r, rE, p⟩
    replace p : Post g W H φ τ (fun b _ H' _ => Q b H') (((den cx (.ch o o' a' b' c')).e σ S).bind fun t S' => ofO S' (truth S' t)) := p
    have p : Post g W H φ τ (fun b _ H' _ => Q b H') (((den cx a').e σ S).bind fun x S1 => ((den cx b').e σ S1).bind fun y S2 => (ofO S2 (cmpE S2 o x y)).bind fun r S3 =>
      (if r = true then ((den cx c').e σ S3).bind fun z S4 => ofO S4 ((cmpE S4 o' y z).map fun q => T.v (.bl q)) else .ok (.v (.bl false)) S3).bind fun t S' => ofO S' (truth S' t)) := by
      have e := p
      simp only [den, Den.of, R.bind_assoc] at e
      exact e
    refine use_e r rE Ext.refl p fun t1 S1 H1 φ1 v1 e1 r1 m1 f1 p1 => ?_
    refine use_e r1 (rE.ext e1) e1 p1 fun t2 S2 H2 φ2 v2 e2 r2 m2 f2 p2 => ?_
    refine rCmp (e1.trans e2) r2 (m1.ext e2) m2 p2 fun q H3 _ e3 r3 p3 => ?_
    cases q with
    | true =>
      rw [if_pos rfl] at p3 ⊢
      rw [R.bind_assoc] at p3
      refine use_e r3 (rE.ext ((e1.trans e2).trans e3)) ((e1.trans e2).trans e3) p3 fun t4 S4 H4 φ4 v4 e4 r4 m4 f4 p4 => ?_
      have p5 : Post g W H φ τ (fun b _ H' _ => Q b H') ((ofO S4 (cmpE S4 o' t2 t4)).bind fun c S' => .ok c S') := by
        cases hq : cmpE S4 o' t2 t4 with
        | none => rw [hq] at p4; exact p4
        | some c => rw [hq] at p4; exact p4
      exact rCmp (((e1.trans e2).trans e3).trans e4) r4 (m2.ext (e3.trans e4)) m4 p5 fun q H5 _ e5 r5 p6 => p6 H5 φ4 ((((e1.trans e2).trans e3).trans e4).trans e5) r5
    | false =>
      rw [if_neg Bool.false_ne_true] at p3 ⊢
      exact ⟨false, rfl, p3 H3 φ2 ((e1.trans e2).trans e3) r3⟩

/-! ### parts that are laid -/
theorem alloc_ok {H H1 : Hp} {φ φ1 : List Addr} {t : T} {S1 : Store} {v : V} (e : Ext g H φ H1 φ1) (r : Rel g H1 φ1 S1) (m : TEm g H1 φ1 t v) (f : Fr H t v) :
    ∃ φ2, Ext g H φ H1 φ2 ∧ Le g H1 φ1 H1 φ2 ∧ Rel g H1 φ2 (alloc t S1).2 ∧ Em g H1 φ2 (alloc t S1).1 v := by
  cases t with
  | v d => exact ⟨φ1, e, ⟨fun _ _ h => h, fun _ _ h => h, fun _ _ _ h => h⟩, r, m⟩
  | t o =>
    obtain ⟨p, ho, rfl, h1, h2, h3⟩ := m
    refine ⟨φ1 ++ [p], Ext.take_in e (f p rfl), Le.more, Rel.take_in r h1 h2 h3, .ref ?_⟩
    rw [← r.len, List.getElem?_append_right (Nat.le_refl _)]
    simp
theorem alloc_bind {β : Type} (r : R T) (f : D → Store → R β) : r.alloc.bind f = r.bind fun t S => f (alloc t S).1 (alloc t S).2 := by
  cases r <;> rfl
theorem s_args {c : Expr → Option Ex} (hc : ∀ e e', c e = some e' → PB g W X e (den cx e')) : ∀ (es : List Expr) (es' : List Ex), seqM c es = some es' → es.any isStar = false → PA X es (tD g W (ded cx es'))
  | [], es', h, _ => by
    cases h
    refine PAimp pa_nil ?_
    rintro τ H Q ⟨σ, S, φ, r, rE, p⟩
    exact p H φ Ext.refl r [] .nil
  | e :: es, es', h, hs => by
    rw [List.any_cons, Bool.or_eq_false_iff] at hs
    obtain ⟨e', h1, h2⟩ := opt_bind h
    obtain ⟨r', h3, rfl⟩ := opt_map h2
    refine PAimp (pa_cons (hc e e' h1).1 (s_args hc es r' h3 hs.2) (starE hs.1)) ?_
    rintro τ H Q ⟨σ, S, φ, r, rE, p⟩
    replace p : Post g W H φ τ (fun ds _ H' φ' => ∀ vs, Ems g H' φ' ds vs → Q vs H') (((den cx e').e σ S).alloc.bind fun d S1 => (ded cx r' σ S1).bind fun ds S2 => .ok (d :: ds) S2) := p
    rw [alloc_bind] at p
    refine use_e r rE Ext.refl p fun t1 S1 H1 φ1 v1 e1 r1 m1 f1 p1 => ?_
    obtain ⟨φ2, e2, l2, r2, m2⟩ := alloc_ok e1 r1 m1 f1
    refine use_d r2 (rE.ext e2) e2 p1 fun ds S3 H3 φ3 vs e3 r3 m3 p3 => ?_
    exact p3 H3 φ3 (e2.trans e3) r3 (v1 :: vs) (.cons (m2.ext e3.toLe) m3)
theorem s_tup {es : List Expr} {es' : List Ex} {j : Nat} {pos : Pos} (x : XOk g N k sc W X) (h : PA X es (tD g W (ded cx es'))) : PB g W X (.Tuple es j pos) (den cx (.na .tup es')) := by
  refine pb_of x rfl (PEimp (pe_tup h) ?_)
  rintro τ H Q ⟨σ, S, φ, r, rE, p⟩
  refine use_d r rE Ext.refl p fun ds S1 H1 φ1 vs e1 r1 m1 p1 => ?_
  replace p1 : Post g W H φ τ (KE g H Q) (if ds.length ≤ sizeLine then .ok (.v (.tup ds)) S1 else .bad) := p1
  split at p1
  · exact ⟨by rw [← m1.length]; assumption, fun n hn => give_tup r1 hn m1 fun H' v e r' m f => fin_v (e1.trans e) p1 r' m trivial⟩
  · exact (show False from p1).elim
theorem s_lst {es : List Expr} {es' : List Ex} {pos : Pos} (x : XOk g N k sc W X) (h : PA X es (tD g W (ded cx es'))) : PB g W X (.List es pos) (den cx (.na .lst es')) := by
  refine pb_of x rfl (PEimp (pe_lst h) ?_)
  rintro τ H Q ⟨σ, S, φ, r, rE, p⟩
  refine use_d r rE Ext.refl p fun ds S1 H1 φ1 vs e1 r1 m1 p1 => ?_
  replace p1 : Post g W H φ τ (KE g H Q) (if ds.length ≤ sizeLine then .ok (.t (.lst ds)) S1 else .bad) := p1
  split at p1
  · exact ⟨by rw [← m1.length]; assumption, fun n hn => give_new (o := .lst ds) r1 hn ⟨_, rfl, m1⟩ fun H' v e r' m f => fin_v (e1.trans e) p1 r' m (f.ext e1)⟩
  · exact (show False from p1).elim
theorem s_dct {pos : Pos} (x : XOk g N k sc W X) : PB g W X (.Dict [] [] pos) (den cx (.nd .dct [])) := by
  refine pb_of x rfl (PEimp pe_dnewK ?_)
  rintro τ H Q ⟨σ, S, φ, r, rE, p⟩
  intro n hn
  exact give_new (o := .dK []) r hn ⟨[], rfl, rfl, .nil⟩ fun H' v e r' m f => fin_v e p r' m f
theorem s_idx {a i : Expr} {a' i' : Ex} {pos : Pos} (x : XOk g N k sc W X) (hs : isSlice i = false) (ha : PB g W X a (den cx a')) (hi : PB g W X i (den cx i')) : PB g W X (.Subscript a i pos) (den cx (.nd .idx [a', i'])) := by
  refine pb_of x rfl (PEimp (pe_ix (idx_sound x.K x.units) ha.1 hi.1 (plainIx hs)) ?_)
  rintro τ H Q ⟨σ, S, φ, r, rE, p⟩
  replace p : Post g W H φ τ (KE g H Q) ((dens cx [a', i'] σ S).bind fun ts S' => app cx S' .idx ts) := p
  rw [dens2] at p
  refine use_e r rE Ext.refl p fun t1 S1 H1 φ1 v1 e1 r1 m1 f1 p1 => ?_
  refine use_e r1 (rE.ext e1) e1 p1 fun t2 S2 H2 φ2 v2 e2 r2 m2 f2 p2 => ?_
  obtain ⟨t, ht, k⟩ := fin_op (e1.trans e2) p2
  exact ⟨S2, φ2, t1, t2, t, r2, m1.ext e2, m2, ht, k⟩
end
end Ev
set_option Elab.async false
set_option linter.all false
set_option maxRecDepth 100000
set_option autoImplicit false
set_option maxHeartbeats 4000000
/-! Ev, part V: a tuple from behind, t[::-1]. -/
namespace Ev
open PySem PySem.Spec PyProof.Rows HT
section
variable {prog : Program} {w : World} {A : Around} {E : Value → Shared → Prop} {s : Shared}
theorem adjust_back (n : Nat) : Builtin.Slice.sliceAdjust none none (-1) (n : Int) = ((n : Int) - 1, -1) := by
  unfold Builtin.Slice.sliceAdjust
  simp
theorem places_back (n : Nat) : Builtin.Slice.slicePlaces ((n : Int) - 1) (-1) (-1) = n := by
  unfold Builtin.Slice.slicePlaces
  rw [if_neg (by decide)]
  by_cases h : n = 0
  · subst h
    rfl
  · rw [if_pos (by omega)]
    have e : (-(-1) : Int) = 1 := rfl
    rw [e, Int.ediv_one]
    omega
theorem fm_congr {α β : Type} {f g : α → Option β} : ∀ {l : List α}, (∀ m ∈ l, f m = g m) → l.filterMap f = l.filterMap g
  | [], _ => rfl
  | a :: l, h => by
    rw [List.filterMap_cons, List.filterMap_cons, h a List.mem_cons_self, fm_congr (l := l) fun m hm => h m (List.mem_cons_of_mem _ hm)]
theorem pick_back (xs : Array Value) : ((List.range xs.size).filterMap fun (m : Nat) => xs[(((xs.size : Int) - 1) + (m : Int) * (-1)).toNat]?) = xs.toList.reverse := by
  have e : (List.range xs.size).filterMap (fun (m : Nat) => xs[(((xs.size : Int) - 1) + (m : Int) * (-1)).toNat]?) = ((List.range xs.size).map (fun k => xs.size - 1 - k)).filterMap (fun i => xs[i]?) := by
    rw [List.filterMap_map]
    refine fm_congr fun m hm => ?_
    have hm' := List.mem_range.mp hm
    have : (((xs.size : Int) - 1) + (m : Int) * (-1)).toNat = xs.size - 1 - m := by omega
    show xs[(((xs.size : Int) - 1) + (m : Int) * (-1)).toNat]? = xs[xs.size - 1 - m]?
    rw [this]
  rw [e, PySem.W.krv_range, List.filterMap_reverse, PySem.W.krv_all]
theorem applied_back {sl : Addr} {vl vu vs : Value} {n : Nat} {Q : Int × Int × Nat → Shared → Prop} (hs : s.heap.IsSliceOf sl vl vu vs) (pl : IsPart vl none) (pu : IsPart vu none) (ps : IsPart vs (some (-1)))
    (h : Q ((n : Int) - 1, -1, n) s) : wpAny (model prog w) A (Builtin.Slice.sliceApplied (.ref sl) (pure (n : Int))) Q E s := by
  obtain ⟨os, hos, hcs, hds⟩ := id hs
  unfold Builtin.Slice.sliceApplied Builtin.Slice.sliceFields
  refine wpAny_bind (wpAny_bind (wpAny_field hos hds (x := vl) rfl (wpAny_bind (wpAny_field hos hds (x := vu) rfl (wpAny_bind (wpAny_field hos hds (x := vs) rfl (wpAny_pure (wpAny_bind (slicePart_ ps ?_)))))))))
  show wpAny _ _ (if ((-1 : Int) == 0) = true then _ else _) _ _ s
  rw [if_neg (by decide)]
  refine wpAny_bind (slicePart_ pl (wpAny_bind (slicePart_ pu (wpAny_bind (wpAny_pure ?_)))))
  show wpAny _ _ (match Builtin.Slice.sliceAdjust none none (-1) (n : Int) with | (lo, hi) => pure (lo, (-1 : Int), Builtin.Slice.slicePlaces lo hi (-1))) _ _ s
  rw [adjust_back]
  show wpAny _ _ (pure ((n : Int) - 1, (-1 : Int), Builtin.Slice.slicePlaces ((n : Int) - 1) (-1) (-1))) _ _ s
  rw [places_back]
  exact wpAny_pure h
theorem tuple_back {t sl : Addr} {items : Array Value} {vl vu vs : Value} {Q : Value → Shared → Prop} (ht : IsTup s.heap t items) (hs : s.heap.IsSliceOf sl vl vu vs) (pl : IsPart vl none) (pu : IsPart vu none) (ps : IsPart vs (some (-1)))
    (hsz : items.size ≤ sizeLine) (h : Q (.ref s.heap.objs.size) { s with heap := s.heap.push { cls := .type "tuple", data := .seq items.toList.reverse.toArray } }) : wpAny (model prog w) A (getItem (.ref t) (.ref sl)) Q E s := by
  have fit : sizeOk (.seq items.toList.reverse.toArray) := by
    show items.toList.reverse.toArray.size ≤ sizeLine
    rw [List.size_toArray, List.length_reverse, Array.length_toList]
    exact hsz
  obtain ⟨os, hos, hcs, hds⟩ := id hs
  have isSl : s.TypeIs (.ref sl) "slice" := ⟨os, hos, hcs⟩
  unfold getItem
  try with_reducible refine wpAny_holding ?_
  first | refine wpAny_bind (wpAny_pure ?_) | skip
  refine wpAny_bind (wpAny_sequenceKey ht.typeIs (by decide) (wpAny_bind (wpAny_callSpecial?_slot (name := Str.ofString "__getitem__") ht.typeIs PyProof.Rows.slot_tuple_getitem
    (wpAny_call_entry PyProof.Rows.slot_tuple_getitem ht.typeIs entry_tuple_getitem ?_ (args_tuple_getitem _ _)))))
  show wpAny _ _ (Builtin.Tuple.tupleItemsOf (.ref t) >>= _) _ _ s
  refine wpAny_bind (tupleItemsOf_ ht (wpAny_bind (wpAny_typeOf isSl ?_)))
  rw [if_pos (by decide)]
  refine wpAny_bind (applied_back hs pl pu ps ?_)
  have no : ¬ ((((items.size : Int) - 1) == 0 && (-1 : Int) == 1 && items.size == items.size) = true) := by simp
  show wpAny _ _ (if ((((items.size : Int) - 1) == 0 && (-1 : Int) == 1 && items.size == items.size) = true) then _ else _) _ _ s
  rw [if_neg no, pick_back]
  first
    | exact wpAny_bind (m := Builtin.Tuple.tupleExact _) (wpAny_newObj_type (wpAny_pure ⟨_, rfl, wpAny_pure h⟩) fit)
    | exact wpAny_bind (m := Builtin.Tuple.tupleExact _) (wpAny_newObj_type (wpAny_bind (wpAny_pure (wpAny_pure ⟨_, rfl, wpAny_pure h⟩))) fit)
    | exact wpAny_bind (wpAny_bind (m := Builtin.Tuple.tupleExact _) (wpAny_newObj_type (wpAny_pure (wpAny_pure ⟨_, rfl, wpAny_pure h⟩)) fit))
    | exact wpAny_bind (wpAny_bind (m := Builtin.Tuple.tupleExact _) (wpAny_newObj_type (wpAny_pure ⟨_, rfl, wpAny_pure h⟩) fit))
end
end Ev
set_option Elab.async false
set_option linter.all false
set_option maxRecDepth 100000
set_option autoImplicit false
set_option maxHeartbeats 1000000
/-! Ev, part I: slices, fields, isinstance, built-ins, calls, methods. -/
namespace Ev
open PySem L2
section
variable {g : G} {N : List Str} {k : Nat} {sc : Scope} {W : WX} {X : Cx} {cx : Cxt}

theorem s_sl0 {a : Expr} {a' : Ex} {p2 pos : Pos} (x : XOk g N k sc W X) (ha : PB g W X a (den cx a')) : PB g W X (.Subscript a (.Slice none none none p2) pos) (den cx (.nd (.slc 0) [a'])) := by
  refine pb_of x rfl (PEimp (pe_slice (slc_sound x.K) ha.1 po_none po_none) ?_)
  rintro τ H Q ⟨σ, S, φ, r, rE, p⟩
  replace p : Post g W H φ τ (KE g H Q) ((dens cx [a'] σ S).bind fun ts S' => app cx S' (.slc 0) ts) := p
  rw [dens1] at p
  refine use_e r rE Ext.refl p fun t1 S1 H1 φ1 v1 e1 r1 m1 f1 p1 => ?_
  obtain ⟨t, ht, k⟩ := fin_op e1 p1
  exact ⟨S1, φ1, t1, t, r1, m1, ht, k⟩
theorem s_sl1 {a l : Expr} {a' l' : Ex} {p2 pos : Pos} (x : XOk g N k sc W X) (ha : PB g W X a (den cx a')) (hl : PB g W X l (den cx l')) : PB g W X (.Subscript a (.Slice (some l) none none p2) pos) (den cx (.nd (.slc 1) [a', l'])) := by
  refine pb_of x rfl (PEimp (pe_slice (slc_sound x.K) ha.1 (po_some hl.1) po_none) ?_)
  rintro τ H Q ⟨σ, S, φ, r, rE, p⟩
  replace p : Post g W H φ τ (KE g H Q) ((dens cx [a', l'] σ S).bind fun ts S' => app cx S' (.slc 1) ts) := p
  rw [dens2] at p
  refine use_e r rE Ext.refl p fun t1 S1 H1 φ1 v1 e1 r1 m1 f1 p1 => ?_
  refine use_e r1 (rE.ext e1) e1 p1 fun t2 S2 H2 φ2 v2 e2 r2 m2 f2 p2 => ?_
  obtain ⟨t, ht, k⟩ := fin_op (e1.trans e2) p2
  obtain ⟨i, hi, ht⟩ := opt_bind ht
  have e := intO_some hi
  subst e
  cases m2
  exact ⟨i, rfl, S2, φ2, t1, t, r2, m1.ext e2, ht, k⟩
theorem s_sl2 {a l : Expr} {a' l' : Ex} {p2 pos : Pos} (x : XOk g N k sc W X) (ha : PB g W X a (den cx a')) (hl : PB g W X l (den cx l')) : PB g W X (.Subscript a (.Slice none (some l) none p2) pos) (den cx (.nd (.slc 2) [a', l'])) := by
  refine pb_of x rfl (PEimp (pe_slice (slc_sound x.K) ha.1 po_none (po_some hl.1)) ?_)
  rintro τ H Q ⟨σ, S, φ, r, rE, p⟩
  replace p : Post g W H φ τ (KE g H Q) ((dens cx [a', l'] σ S).bind fun ts S' => app cx S' (.slc 2) ts) := p
  rw [dens2] at p
  refine use_e r rE Ext.refl p fun t1 S1 H1 φ1 v1 e1 r1 m1 f1 p1 => ?_
  refine use_e r1 (rE.ext e1) e1 p1 fun t2 S2 H2 φ2 v2 e2 r2 m2 f2 p2 => ?_
  obtain ⟨t, ht, k⟩ := fin_op (e1.trans e2) p2
  obtain ⟨i, hi, ht⟩ := opt_bind ht
  have e := intO_some hi
  subst e
  cases m2
  exact ⟨i, rfl, S2, φ2, t1, t, r2, m1.ext e2, ht, k⟩
theorem s_sl {a l h : Expr} {a' l' h' : Ex} {p2 pos : Pos} (x : XOk g N k sc W X) (ha : PB g W X a (den cx a')) (hl : PB g W X l (den cx l')) (hh : PB g W X h (den cx h')) : PB g W X (.Subscript a (.Slice (some l) (some h) none p2) pos) (den cx (.sl a' l' h')) := by
  refine pb_of x rfl (PEimp (pe_slice (slc_sound x.K) ha.1 (po_some hl.1) (po_some hh.1)) ?_)
  rintro τ H Q ⟨σ, S, φ, r, rE, p⟩
  refine use_e r rE Ext.refl p fun t1 S1 H1 φ1 v1 e1 r1 m1 f1 p1 => ?_
  refine use_e r1 (rE.ext e1) e1 p1 fun t2 S2 H2 φ2 v2 e2 r2 m2 f2 p2 => ?_
  split at p2
  · exact (show False from p2).elim
  · rename_i i hi
    have e := intO_some hi
    subst e
    cases m2
    refine ⟨i, rfl, ?_⟩
    refine use_e r2 (rE.ext (e1.trans e2)) (e1.trans e2) p2 fun t3 S3 H3 φ3 v3 e3 r3 m3 f3 p3 => ?_
    obtain ⟨t, ht, k⟩ := fin_op ((e1.trans e2).trans e3) p3
    obtain ⟨j, hj, ht⟩ := opt_bind ht
    have e := intO_some hj
    subst e
    cases m3
    exact ⟨j, rfl, S3, φ3, t1, t, r3, m1.ext (e2.trans e3), ht, k⟩

/-! ### fields -/
theorem fn_at {f : Nat} (h : f < g.T.flds.length) : g.T.flds[f]? = some (g.fn f) := by
  unfold G.fn
  rw [List.getElem?_eq_getElem h, List.getD_eq_getElem?_getD, List.getElem?_eq_getElem h]
  rfl
theorem fn_inj (nd : g.T.flds.Nodup) {f f' : Nat} (h : f < g.T.flds.length) (h' : f' < g.T.flds.length) (e : g.fn f = g.fn f') : f = f' := nodup_ix nd (fn_at h) (by rw [e]; exact fn_at h')
theorem flds_get (nd : g.T.flds.Nodup) {H : Hp} {φ : List Addr} {f : Nat} (hf : f < g.T.flds.length) : ∀ {fs : List (Nat × D)} {ws : List (Str × V)}, ws.map (·.1) = fs.map (fun p => g.fn p.1) → Ems g H φ (fs.map (·.2)) (ws.map (·.2)) → (∀ p ∈ fs, p.1 < g.T.flds.length) →
    ∀ d, fs.lookup f = some d → ∃ v, ws.lookup (g.fn f) = some v ∧ Em g H φ d v
  | [], _, _, _, _, _, h => by cases h
  | (q, d) :: fs, ws, e, m, hl, d', h => by
    cases ws with
    | nil => cases e
    | cons w ws =>
      obtain ⟨n, v⟩ := w
      simp only [List.map_cons, List.cons.injEq] at e m
      obtain ⟨e1, e2⟩ := e
      have hq := hl (q, d) List.mem_cons_self
      cases m with
      | cons m1 m2 =>
        rw [List.lookup_cons] at h ⊢
        by_cases hqf : f = q
        · subst hqf
          have hb : (f == f) = true := by simp
          rw [hb] at h
          cases h
          have hb2 : (g.fn f == n) = true := by rw [e1]; simp
          rw [hb2]
          exact ⟨v, rfl, m1⟩
        · have hb : (f == q) = false := by simp [hqf]
          rw [hb] at h
          have hb2 : (g.fn f == n) = false := by
            rw [e1]
            refine beq_eq_false_iff_ne.mpr fun z => hqf (fn_inj nd hf hq z)
          rw [hb2]
          exact flds_get nd hf e2 m2 (fun p hp => hl p (List.mem_cons_of_mem _ hp)) d' h
theorem flds_put (nd : g.T.flds.Nodup) {H : Hp} {φ : List Addr} {f : Nat} {d : D} {v : V} (hf : f < g.T.flds.length) (hm : Em g H φ d v) : ∀ {fs : List (Nat × D)} {ws : List (Str × V)}, ws.map (·.1) = fs.map (fun p => g.fn p.1) → Ems g H φ (fs.map (·.2)) (ws.map (·.2)) → (∀ p ∈ fs, p.1 < g.T.flds.length) →
    (putF (g.fn f) v ws).map (·.1) = (putN f d fs).map (fun p => g.fn p.1) ∧ Ems g H φ ((putN f d fs).map (·.2)) ((putF (g.fn f) v ws).map (·.2)) ∧ ∀ p ∈ putN f d fs, p.1 < g.T.flds.length
  | [], ws, e, m, hl => by
    cases ws with
    | nil => exact ⟨rfl, .cons hm .nil, fun p hp => by
        have : p = (f, d) := by simpa [putN] using hp
        rw [this]; exact hf⟩
    | cons _ _ => cases e
  | (q, d') :: fs, ws, e, m, hl => by
    cases ws with
    | nil => cases e
    | cons w ws =>
      obtain ⟨n, v'⟩ := w
      simp only [List.map_cons, List.cons.injEq] at e m
      obtain ⟨e1, e2⟩ := e
      have hq := hl (q, d') List.mem_cons_self
      cases m with
      | cons m1 m2 =>
        unfold putF putN
        by_cases hqf : q = f
        · have h2 : n = g.fn f := by rw [e1, hqf]
          rw [if_pos hqf, if_pos h2]
          refine ⟨by simp only [List.map_cons, List.cons.injEq]; exact ⟨e1, e2⟩, .cons hm m2, fun p hp => ?_⟩
          rcases List.mem_cons.mp hp with hp | hp
          · rw [hp]; exact hq
          · exact hl p (List.mem_cons_of_mem _ hp)
        · have h2 : ¬ n = g.fn f := by rw [e1]; exact fun z => hqf (fn_inj nd hq hf z)
          rw [if_neg hqf, if_neg h2]
          obtain ⟨i1, i2, i3⟩ := flds_put nd hf hm e2 m2 (fun p hp => hl p (List.mem_cons_of_mem _ hp))
          refine ⟨by simp only [List.map_cons, List.cons.injEq]; exact ⟨e1, i1⟩, .cons m1 i2, fun p hp => ?_⟩
          rcases List.mem_cons.mp hp with hp | hp
          · rw [hp]; exact hq
          · exact i3 p hp
theorem PEor {e : Expr} {t1 t2 : TE} (h1 : PE X e t1) (h2 : PE X e t2) : PE X e (fun τ H Q => t1 τ H Q ∨ t2 τ H Q) := ⟨fun pins s τ H Q I q => q.elim (h1.run pins s τ H Q I) (h2.run pins s τ H Q I)⟩
def tFldv (K : PySem.W.Frag) (ta : TE) (f : Str) : TE := fun σ H Q => ta σ H fun x H1 => (∃ a C dx fs v, x = .ref a ∧ H1 a = some (.ins C dx fs) ∧ Cls K C ∧ NoAttr K C f ∧ fs.lookup f = some v ∧ Q v H1) ∨
  ∃ (a C d : Addr) (fs : List (Str × V)) (v : V), x = .ref a ∧ H1 a = some (exo a C (some d)) ∧ H1 d = some (exd d fs) ∧ ExcC K C ∧ PySem.W.findIn K (.ref C) f = some none ∧ fs.lookup f = some v ∧ Q v H1
/-- e.f, an attribute of an instance or of an exception -/
theorem pe_fldv {e : Expr} {f : Str} {pos : Pos} {ta : TE} (he : PE X e ta) (hb : attributeBase e f X.env (eval e X.env) = eval e X.env) : PE X (.Attribute e f pos) (tFldv X.K ta f) := by
  refine ⟨fun pins s σ H Q I h => ?_⟩
  refine attr_of hb (thn (he.run pins s σ H _ I h) fun u s1 ⟨x, H1, I1, rx, h1⟩ => ?_)
  rcases h1 with ⟨a, C, dx, fs, v, ex, ea, c, n, l, q⟩ | ⟨a, C, d, fs, v, ex, ha, hd, E, hno, l, q⟩
  · subst ex
    obtain rfl : u = Value.ref a := rx
    exact getattr_ok I1 ea c n l fun u' s2 I2 ru => ⟨v, H1, I2, ru, q⟩
  · subst ex
    obtain rfl : u = Value.ref a := rx
    obtain ⟨oe, od, J, k⟩ := exo_inst I1 ha fun d' z => by cases z; exact ⟨fs, hd⟩
    obtain ⟨o, mA, rfl, hn, ho, hr⟩ := k d fs rfl hd
    obtain ⟨od', ho', hl⟩ := lookIn_ns hn
    rw [ho] at ho'
    cases ho'
    obtain ⟨u, hu, ru⟩ := RelO.some_of (v := v) (o := mA f) (by rw [← l]; exact hr f)
    exact HandSPX.exc_get I1.kIn J E.hg E.hk E.hs (PySem.W.findObj_own E.hd hno rfl (by rw [hl, hu])) (handed_of ru) ⟨v, H1, I1.tok _, ru, q⟩
theorem xat_of {S : Store} {H : Hp} {φ : List Addr} {t : T} {v : V} {c : Nat} {fs : List (Nat × D)} (r : Rel g H φ S) (h : TEm g H φ t v) (e : objW S t = some (.exn c fs)) : ∃ a, v = .ref a ∧ XAt g H φ a c fs := by
  cases t with
  | v d =>
    cases d with
    | ref n =>
      obtain ⟨a, h1, h2⟩ := r.exn n c fs e
      cases h with
      | ref hn =>
        rw [h1] at hn
        cases hn
        exact ⟨a, rfl, h2⟩
    | _ => cases e
  | t o' =>
    cases e
    obtain ⟨p, ho, h1, h2, _, h4⟩ := h
    exact h4.elim
theorem tyX_sound {S : Store} {H : Hp} {φ : List Addr} {t : T} {v : V} {c : Nat} (r : Rel g H φ S) (h : TEm g H φ t v) (e : tyX S t = some c) : ∃ a dx, v = .ref a ∧ H a = some (exo a (g.ca c) dx) ∧ ∀ d, dx = some d → ∃ fs, H d = some (exd d fs) := by
  unfold tyX at e
  split at e
  · rename_i c' fs hk
    cases e
    obtain ⟨a, rfl, hx⟩ := xat_of r h hk
    rcases hx with ⟨_, h1⟩ | ⟨dx, f, d', v, _, h2, h3, h4⟩
    · exact ⟨a, none, rfl, h1, fun d z => by cases z⟩
    · exact ⟨a, some dx, rfl, h2, fun d z => by cases z; exact ⟨_, h3⟩⟩
  · cases e
theorem CallRor {f : Value} {r1 r2 : List V → Hp → VK → Prop} (h1 : CallR X f r1) (h2 : CallR X f r2) : CallR X f (fun xs H Q => r1 xs H Q ∨ r2 xs H Q) := fun pins s σ H xs us Q I r q => q.elim (h1 pins s σ H xs us Q I r) (h2 pins s σ H xs us Q I r)
theorem s_fld {o : Expr} {o' : Ex} {f : Str} {j : Nat} {pos : Pos} (x : XOk g N k sc W X) (G : GOk g cx) (hs : isCall0 o = false) (hj : g.T.flds[j]? = some f) (ho : PB g W X o (den cx o')) : PB g W X (.Attribute o f pos) (den cx (.nd (.fld j) [o'])) := by
  have hl : j < g.T.flds.length := (List.getElem?_eq_some_iff.mp hj).1
  have hf : f = g.fn j := by
    rw [fn_at hl] at hj
    exact (Option.some.inj hj).symm
  subst hf
  refine pb_of x rfl (PEimp (pe_fldv ho.1 (noSuper hs)) ?_)
  rintro τ H Q ⟨σ, S, φ, r, rE, p⟩
  replace p : Post g W H φ τ (KE g H Q) ((dens cx [o'] σ S).bind fun ts S' => app cx S' (.fld j) ts) := p
  rw [dens1] at p
  refine use_e r rE Ext.refl p fun t1 S1 H1 φ1 v1 e1 r1 m1 f1 p1 => ?_
  replace p1 : Post g W H φ τ (KE g H Q) (match objW S1 t1 with
    | some (.ins c fs) => if cx.at_ c j = true then ofO S1 ((fs.lookup j).map T.v) else .bad
    | some (.exn c fs) => if cx.xa c j = true then ofO S1 ((fs.lookup j).map T.v) else .bad
    | _ => .bad) := p1
  split at p1
  · rename_i c fs hk
    split at p1
    · rename_i hat
      obtain ⟨t, ht, k⟩ := fin_op e1 p1
      obtain ⟨d, hd, rfl⟩ := opt_map ht
      obtain ⟨p, ho, rfl, h1, dx, ws, rfl, e2, m2, hl2⟩ := m1.objW r1 hk rfl
      obtain ⟨v, hv, mv⟩ := flds_get G.nd hl e2 m2 hl2 d hd
      obtain ⟨c1, c2⟩ := G.at_ c j hat
      exact .inl ⟨p, g.ca c, dx, ws, v, rfl, h1, by rw [x.K]; exact c1, by rw [x.K]; exact c2, hv, give r1 mv k⟩
    · exact (show False from p1).elim
  · rename_i c fs hk
    split at p1
    · rename_i hat
      obtain ⟨t, ht, k⟩ := fin_op e1 p1
      obtain ⟨d, hd, rfl⟩ := opt_map ht
      obtain ⟨a, rfl, hx⟩ := xat_of r1 m1 hk
      obtain ⟨c1, c2⟩ := G.xa_ c j hat
      rcases hx with ⟨rfl, _⟩ | ⟨dx, f, d', v, rfl, h2, h3, h4⟩
      · cases hd
      · have hf : j = f := by
          by_cases hjf : j = f
          · exact hjf
          · have hb : (j == f) = false := by simp [hjf]
            simp [List.lookup, hb] at hd
        subst hf
        have hdd : d' = d := by simpa [List.lookup] using hd
        subst hdd
        exact .inr ⟨a, g.ca c, dx, [(g.fn j, v)], v, rfl, h2, h3, by rw [x.K]; exact c1, by rw [x.K]; exact c2, by simp [List.lookup], give r1 h4 k⟩
    · exact (show False from p1).elim
  · exact (show False from p1).elim

/-! ### isinstance -/
theorem tyB_sound {S : Store} {H : Hp} {φ : List Addr} {t : T} {v : V} {n : String} (r : Rel g H φ S) (h : TEm g H φ t v) (e : tyB S t = some n) : TyX g.K H v (.type n) ∧ n ∈ tyNames := by
  have rest : ∀ o, objR S t = some o → (match (some o : Option O) with | some (.lst _) => some "list" | some (.dK _) => some "dict" | _ => none) = some n → TyX g.K H v (.type n) ∧ n ∈ tyNames := by
    intro o ho hc
    have hx : isX o = false := by
      cases o with
      | exn c fs => cases hc
      | _ => rfl
    obtain ⟨p, h', o', rfl, h1, h2, h3⟩ := h.objR r ho hx
    have hu : ∀ u, (u = o) → (∀ z, u ≠ .lk z) → unlk o' = u := fun u e1 e2 => by
      rcases h3 with h3 | h3
      · rw [← h3, ← e1]
        cases u <;> first | rfl | exact absurd rfl (e2 _)
      · rw [← h3, e1]
    split at hc
    · rename_i ds e'
      cases e'
      cases hc
      have hu := hu _ rfl (fun z => nofun)
      refine ⟨?_, by simp [tyNames]⟩
      cases o' with
      | lst ds' =>
        obtain ⟨vs, rfl, _⟩ := h2
        exact .base (.lst h1)
      | lk o2 =>
        have : o2 = .lst ds := hu
        subst this
        obtain ⟨ob, ho', rfl, vs, rfl, _⟩ := h2
        exact .base (.frz h1)
      | _ => cases hu
    · rename_i kvs e'
      cases e'
      cases hc
      have hu := hu _ rfl (fun z => nofun)
      refine ⟨?_, by simp [tyNames]⟩
      cases o' with
      | dK ds' =>
        obtain ⟨vs, rfl, _⟩ := h2
        exact .base (.dK h1)
      | lk o2 =>
        have : o2 = .dK kvs := hu
        subst this
        obtain ⟨ob, ho', rfl, vs, rfl, _⟩ := h2
        exact .fDict h1
      | _ => cases hu
    · cases hc
  unfold tyB at e
  split at e
  · cases h; cases e; exact ⟨.base .non, by simp [tyNames]⟩
  · cases h; cases e; exact ⟨.base (.bl _), by simp [tyNames]⟩
  · cases h; cases e; exact ⟨.base (.int _), by simp [tyNames]⟩
  · cases h; cases e; exact ⟨.base (.str _), by simp [tyNames]⟩
  · cases e
    cases h with
    | tup h1 h2 =>
      refine ⟨?_, by simp [tyNames]⟩
      rcases h1 with (h1 | ⟨o, h1⟩) | ⟨o, its, n, h1, h3, _⟩
      · exact .base (.tup h1)
      · exact .fTuple h1
      · exact .kTuple h1 h3
  · cases e
  · cases e
  · cases ho : objR S t with
    | none => rw [ho] at e; cases e
    | some o =>
      rw [ho] at e
      exact rest o ho e
theorem tyC_sound (G : GOk g cx) {S : Store} {H : Hp} {φ : List Addr} {t : T} {v : V} {c : Nat} (r : Rel g H φ S) (h : TEm g H φ t v) (e : tyC S t = some c) (hc : cx.ic c = true) : TyX g.K H v (.ref (g.ca c)) := by
  unfold tyC at e
  split at e
  · rename_i c' fs hk
    cases e
    obtain ⟨p, ho, rfl, h1, dx, ws, rfl, _⟩ := h.objW r hk rfl
    obtain ⟨i1, i2, i3, i4, i5, _⟩ := G.ic_ c hc
    exact .base (.ins h1 i1 i2 i3 i4 i5)
  · cases e
theorem tyN_facts {n : Str} {s : String} (h : tyN n = some s) : bootBuiltins n = some (.type s) ∧ n ∈ bltns ∧ s ∈ tyNames := by
  unfold tyN at h
  repeat' split at h
  all_goals first | (cases h; rename_i e; subst e; exact ⟨by decide +kernel, by decide +kernel, by decide⟩) | cases h
theorem s_isiB {a : Expr} {a' : Ex} {n : Str} {s : String} {p p2 pos : Pos} (x : XOk g N k sc W X) (G : GOk g cx) (hg : glC sc "isinstance" = true) (ht : glC sc n = true) (ho : okN n = true) (hn : tyN n = some s) (hs : isStar a = false) (ha : PB g W X a (den cx a')) :
    PB g W X (.Call (.Name "isinstance" p) [a, .Name n p2] [] pos) (den cx (.nd (.isi (.b s)) [a'])) := by
  obtain ⟨b1, b2, b3⟩ := tyN_facts hn
  refine pb_of x rfl (PEimp (pe_callB call_isi (x.gl hg) (by rw [x.mg]; exact G.blt_ _ (by decide +kernel)) (by decide +kernel) (pa_cons ha.1 (pa_cons (pe_bltn (v := .ty s) (x.gl ht) (by rw [x.mg]; exact G.blt_ _ b2) b1 rfl (okN_iff ho).2.2 (okN_iff ho).1) pa_nil) (starE hs)) (by decide +kernel) (by decide +kernel) (starE hs)) ?_)
  rintro τ H Q ⟨σ, S, φ, r, rE, p⟩
  replace p : Post g W H φ τ (KE g H Q) ((dens cx [a'] σ S).bind fun ts S' => app cx S' (.isi (.b s)) ts) := p
  rw [dens1] at p
  refine use_e r rE Ext.refl p fun t1 S1 H1 φ1 v1 e1 r1 m1 f1 p1 => ?_
  replace p1 : Post g W H φ τ (KE g H Q) (match tyB S1 t1 with
      | some u => ofO S1 ((kitB u s).map fun c => T.v (.bl c))
      | none => match tyC S1 t1 with
        | some m => if cx.ic m = true then .ok (.v (.bl false)) S1 else .bad
        | none => .bad) := p1
  split at p1
  · rename_i u hu
    obtain ⟨t, hx, k⟩ := fin_op e1 p1
    obtain ⟨c, hc, rfl⟩ := opt_map hx
    obtain ⟨y1, y2⟩ := tyB_sound r1 m1 hu
    rw [← x.K] at y1
    exact ⟨v1, .ty s, .type u, .type s, c, rfl, .ty s, y1, kit_ty hc, give r1 (.bl _) k⟩
  · split at p1
    · rename_i m hm
      split at p1
      · rename_i hi
        have y := tyC_sound G r1 m1 hm hi
        rw [← x.K] at y
        refine ⟨v1, .ty s, .ref (g.ca m), .type s, false, rfl, .ty s, y, ?_, fin_v e1 p1 r1 (.bl _) trivial⟩
        rw [x.K]
        exact (G.ic_ m hi).2.2.2.2.2 s b3
      · exact (show False from p1).elim
    · exact (show False from p1).elim
theorem s_isiC {a : Expr} {a' : Ex} {n : Str} {i : Nat} {p p2 pos : Pos} (x : XOk g N k sc W X) (G : GOk g cx) (hg : glC sc "isinstance" = true) (ht : glC sc n = true) (ho : okN n = true) (hn : g.T.clss.lookup n = some i) (hs : isStar a = false) (ha : PB g W X a (den cx a')) :
    PB g W X (.Call (.Name "isinstance" p) [a, .Name n p2] [] pos) (den cx (.nd (.isi (.c i)) [a'])) := by
  refine pb_of x rfl (PEimp (pe_callB (CallRor call_isi call_isX) (x.gl hg) (by rw [x.mg]; exact G.blt_ _ (by decide +kernel)) (by decide +kernel) (pa_cons ha.1 (pa_cons (pe_glob (v := .ref (g.ca i)) (x.gl ht) (by rw [x.mg]; exact G.cls_ _ _ hn) rfl (okN_iff ho).1) pa_nil) (starE hs)) (by decide +kernel) (by decide +kernel) (starE hs)) ?_)
  rintro τ H Q ⟨σ, S, φ, r, rE, p⟩
  replace p : Post g W H φ τ (KE g H Q) ((dens cx [a'] σ S).bind fun ts S' => app cx S' (.isi (.c i)) ts) := p
  rw [dens1] at p
  refine use_e r rE Ext.refl p fun t1 S1 H1 φ1 v1 e1 r1 m1 f1 p1 => ?_
  replace p1 : Post g W H φ τ (KE g H Q) (match tyC S1 t1 with
      | some m => if cx.ic m = true then .ok (.v (.bl (cx.sb m i))) S1 else .bad
      | none => match tyX S1 t1 with
        | some m => if cx.xi m = true then .ok (.v (.bl (cx.sb m i))) S1 else .bad
        | none => match tyB S1 t1 with
          | some _ => .ok (.v (.bl false)) S1
          | none => .bad) := p1
  split at p1
  · rename_i m hm
    split at p1
    · rename_i hi
      have y := tyC_sound G r1 m1 hm hi
      rw [← x.K] at y
      refine .inl ⟨v1, .ref (g.ca i), .ref (g.ca m), .ref (g.ca i), _, rfl, .own _, y, ?_, fin_v e1 p1 r1 (.bl _) trivial⟩
      rw [x.K]
      exact G.cc_ n m i hi hn
    · exact (show False from p1).elim
  · split at p1
    · rename_i m hm
      split at p1
      · rename_i hi
        obtain ⟨a, dx, rfl, y1, y2⟩ := tyX_sound r1 m1 hm
        refine .inr ⟨a, g.ca m, dx, .ref (g.ca i), .ref (g.ca i), _, rfl, y1, y2, by rw [x.K]; exact (G.xi_ m hi).1, fun u hu => hu, ?_, fin_v e1 p1 r1 (.bl _) trivial⟩
        rw [x.K]
        exact (G.ex_ n m i hi hn).1
      · exact (show False from p1).elim
    · split at p1
      · rename_i u hu
        obtain ⟨y1, y2⟩ := tyB_sound r1 m1 hu
        rw [← x.K] at y1
        refine .inl ⟨v1, .ref (g.ca i), .type u, .ref (g.ca i), false, rfl, .own _, y1, ?_, fin_v e1 p1 r1 (.bl _) trivial⟩
        rw [x.K]
        exact G.tc_ n u i y2 hn
      · exact (show False from p1).elim
/-- isinstance(e, ValueError) -/
theorem s_isiV {a : Expr} {a' : Ex} {p p2 pos : Pos} (x : XOk g N k sc W X) (G : GOk g cx) (hg : glC sc "isinstance" = true) (ht : glC sc "ValueError" = true) (hs : isStar a = false) (ha : PB g W X a (den cx a')) :
    PB g W X (.Call (.Name "isinstance" p) [a, .Name "ValueError" p2] [] pos) (den cx (.nd (.isi .ve) [a'])) := by
  refine pb_of x rfl (PEimp (pe_callB call_isX (x.gl hg) (by rw [x.mg]; exact G.blt_ _ (by decide +kernel)) (by decide +kernel) (pa_cons ha.1 (pa_cons (pe_bltn (v := .ty "ValueError") (x.gl ht) (by rw [x.mg]; exact G.vn_) PyProof.Rows.Boot.«ValueError» rfl (by decide +kernel) (by decide +kernel)) pa_nil) (starE hs)) (by decide +kernel) (by decide +kernel) (starE hs)) ?_)
  rintro τ H Q ⟨σ, S, φ, r, rE, p⟩
  replace p : Post g W H φ τ (KE g H Q) ((dens cx [a'] σ S).bind fun ts S' => app cx S' (.isi .ve) ts) := p
  rw [dens1] at p
  refine use_e r rE Ext.refl p fun t1 S1 H1 φ1 v1 e1 r1 m1 f1 p1 => ?_
  replace p1 : Post g W H φ τ (KE g H Q) (match tyX S1 t1 with
      | some m => if cx.xi m = true then .ok (.v (.bl (cx.sb m 1000))) S1 else .bad
      | none => .bad) := p1
  split at p1
  · rename_i m hm
    split at p1
    · rename_i hi
      obtain ⟨a, dx, rfl, y1, y2⟩ := tyX_sound r1 m1 hm
      refine ⟨a, g.ca m, dx, .ty "ValueError", .type "ValueError", _, rfl, y1, y2, by rw [x.K]; exact (G.xi_ m hi).1, fun u hu => hu, ?_, fin_v e1 p1 r1 (.bl _) trivial⟩
      rw [x.K]
      exact (G.xi_ m hi).2
    · exact (show False from p1).elim
  · exact (show False from p1).elim

/-! ### from behind -/
def tBk (K : PySem.W.Frag) (te : TE) : TE := fun σ H Q => te σ H fun x H1 => ∃ a xs, x = .ref a ∧ ((SqL K H1 a xs ∧ ∀ p, H1 p = none → Q (.ref p) (upd H1 p (.lst xs.reverse))) ∨ (SqT K H1 a xs ∧ ∀ p, H1 p = none → Q (.ref p) (upd H1 p (.tup xs.reverse))))
open PySem.Spec PyProof.Rows in
theorem pe_bk {e : Expr} {te : TE} {c : Nat} {p1 p2 p3 pos : Pos} (he : PE X e te) : PE X (.Subscript e (.Slice none none (some (.UnaryOp .USub (.Constant (.int 1) c p1) p2)) p3) pos) (tBk X.K te) := by
  refine ⟨fun pins s σ H Q I rd => Subscript_ (thn (he.run pins s σ H _ I rd) ?_)⟩
  rintro v s1 ⟨x, H1, I1, r1, a, xs, rfl, both⟩
  cases r1
  have step : PO X (some (.UnaryOp .USub (.Constant (.int 1) c p1) p2)) (tPart (tUn (rU fun i => .int (-i)) (tC (.int 1)))) := po_some (pe_un un_neg pe_int)
  refine wpAny_Slice (thn (po_none.run pins s1 σ H1 (fun o H2 => o = none ∧ H2 = H1) I1 ⟨rfl, rfl⟩) ?_)
  rintro vl s2 ⟨l, H2, I2, pl, rfl, rfl⟩
  refine thn (po_none.run pins s2 σ H2 (fun o H3 => o = none ∧ H3 = H2) I2 ⟨rfl, rfl⟩) ?_
  rintro vu s3 ⟨u, H3, I3, pu, rfl, rfl⟩
  refine thn (step.run pins s3 σ H3 (fun o H4 => o = some (-1) ∧ H4 = H3) I3 ⟨1, rfl, -1, rfl, rfl, rfl⟩) ?_
  rintro vs s4 ⟨o, H4, I4, ps, rfl, rfl⟩
  have J : Inv X pins σ H4 { s4 with heap := s4.heap.push { cls := .type "slice", data := .fields #[vl, vu, vs] } } := I4.kept (t' := s4.toks) fun b ob q => Heap.get?_push_of_some _ q
  show wpAny (model X.prog X.w) X.A (subscriptTail e (.Slice none none (some (.UnaryOp .USub (.Constant (.int 1) c p1) p2)) p3) (.ref a) (.ref s4.heap.objs.size)) (EP X pins σ Q) X.xe _
  rcases both with ⟨hx, q⟩ | ⟨hx, q⟩
  · obtain ⟨its, rv, ht, hz⟩ := J.list hx
    have hlen := rv.length
    refine tail_any (ops := [.ref a, .ref s4.heap.objs.size]) ht.isList.typeIs (PySem.slot_list_getitem.lookup) (wpAny_getItem_list_slice ht.isList (Heap.IsSliceOf.new _ vl vu vs) pl pu ps (by decide) ?_ (by rw [List.size_toArray]; omega)) (by with_unfolding_all rfl)
    rw [PySem.W.krv_pick]
    refine ⟨.ref _, _, J.laid (t' := s4.toks) (o := .lst xs.reverse) (fun b ob q => Heap.get?_push_of_some _ q) (Nat.le_refl _) ⟨by rw [List.length_reverse]; exact hz, _, 0, rv.reverse, Heap.get?_push_size _ rfl⟩, rfl, q _ (J.hok.fresh (Nat.le_refl _))⟩
  · obtain ⟨its, rv, ht, hz⟩ := J.tuple hx
    have hlen := rv.length
    refine tail_any (ops := [.ref a, .ref s4.heap.objs.size]) ht.typeIs (PyProof.Rows.slot_tuple_getitem.lookup) (tuple_back ht (Heap.IsSliceOf.new _ vl vu vs) pl pu ps (by rw [List.size_toArray]; omega) ?_) (by with_unfolding_all rfl)
    refine ⟨.ref _, _, J.laid (t' := s4.toks) (o := .tup xs.reverse) (fun b ob q => Heap.get?_push_of_some _ q) (Nat.le_refl _) ⟨by rw [List.length_reverse]; exact hz, _, rv.reverse, _, Heap.get?_push_size _ rfl, rfl, 0, rfl⟩, rfl, q _ (J.hok.fresh (Nat.le_refl _))⟩
theorem s_bk {a : Expr} {a' : Ex} {c : Nat} {p1 p2 p3 pos : Pos} (x : XOk g N k sc W X) (ha : PB g W X a (den cx a')) : PB g W X (.Subscript a (.Slice none none (some (.UnaryOp .USub (.Constant (.int 1) c p1) p2)) p3) pos) (den cx (.nd .bk [a'])) := by
  refine pb_of x rfl (PEimp (pe_bk ha.1) ?_)
  rintro τ H Q ⟨σ, S, φ, r, rE, p⟩
  replace p : Post g W H φ τ (KE g H Q) ((dens cx [a'] σ S).bind fun ts S' => app cx S' .bk ts) := p
  rw [dens1] at p
  refine use_e r rE Ext.refl p fun t1 S1 H1 φ1 v1 e1 r1 m1 f1 p1 => ?_
  obtain ⟨t, ht, kk⟩ := fin_op (o := bkE S1 t1) e1 p1
  unfold bkE at ht
  split at ht
  · cases ht
    cases m1 with
    | tup h1 h2 => exact ⟨_, _, rfl, .inr ⟨by rw [x.K]; exact h1, fun q hq => give_tup r1 hq h2.reverse kk⟩⟩
  · obtain ⟨ds, hd, rfl⟩ := opt_map ht
    obtain ⟨q, vs, rfl, h1, h2⟩ := m1.lstR r1 hd
    exact ⟨_, _, rfl, .inl ⟨by rw [x.K]; exact h1, fun q' hq => give_new (o := .lst _) r1 hq ⟨_, rfl, h2.reverse⟩ kk⟩⟩
/-! ### comparisons -/
theorem OpRor {f : Value → Value → Sem Value} {r1 r2 : R2} (h1 : OpR X f r1) (h2 : OpR X f r2) : OpR X f (fun x y H Q => r1 x y H Q ∨ r2 x y H Q) := fun pins s σ H x y v u Q I rx ry q => q.elim (h1 pins s σ H x y v u Q I rx ry) (h2 pins s σ H x y v u Q I rx ry)
def rOwn (g : G) (cx : Cxt) (o : Cm) : R2 := fun vx vy H Q => ∃ S φ n y c fs f, (o = .eq ∨ o = .ne) ∧ Rel g H φ S ∧ S[n]? = some (.ins c fs) ∧ cx.eq c = some f ∧ knownT cx S (.v y) = true ∧ Em g H φ (.ref n) vx ∧ Em g H φ y vy ∧
  Post g (fun _ _ _ _ => False) H φ [] (fun d S' H' φ' => ∃ b, d = .bl b ∧ Q (.bl (negB o b)) H') (cx.cj f [.ref n, y] S)
theorem known_ty (G : GOk g cx) {S : Store} {H : Hp} {φ : List Addr} {t : T} {v : V} {c f : Nat} (hq : cx.eq c = some f) (r : Rel g H φ S) (h : TEm g H φ t v) (e : knownT cx S t = true) : ∃ tb, TyX g.K H v tb ∧ PySem.W.notFirst g.K (g.ca c) tb = true := by
  obtain ⟨_, _, _, _, q1, q2⟩ := G.eq_ c f hq
  unfold knownT at e
  rw [Bool.or_eq_true] at e
  rcases e with e | e
  · obtain ⟨u, hu⟩ := Option.isSome_iff_exists.mp e
    obtain ⟨y1, y2⟩ := tyB_sound r h hu
    exact ⟨_, y1, q1 _ y2⟩
  · split at e
    · rename_i m hm
      exact ⟨_, tyC_sound G r h hm e, q2 m e⟩
    · cases e
theorem own_sound (x : XOk g N k sc W X) (G : GOk g cx) (C : COk g cx k) {op : CmpOp} {o : Cm} (ho : cmpC op = some o) : OpR X (compareOp op) (rOwn g cx o) := by
  rintro pins s σ H vx vy v u Q I rx ry ⟨S, φ, n, y, c, fs, f, hop, r, hn, hq, hk, m1, m2, p⟩
  obtain ⟨_, e1, e2, e3, _, _⟩ := G.eq_ c f hq
  rcases C.eq_ c f hq with hb | ⟨j, fd, ps, rfl, hlen, F, B⟩
  · rw [hb] at p
    exact p.elim
  have hl : ([D.ref n, y] : List D).length = ps.length := by
    by_cases h : ([D.ref n, y] : List D).length = ps.length
    · exact h
    · rw [hlen _ _ h] at p
      exact p.elim
  obtain ⟨tb, y1, y2⟩ := known_ty G hq r (t := .v y) m2 hk
  rw [← x.K] at y1 y2 e1 e2 e3 B
  obtain ⟨P, Z, pp, _⟩ := kit_of I ry y1
  have hb := Z.ty (model X.prog X.w) s.heap I.kIn pp
  obtain ⟨a, ho', h1, h2, dx, ws, rfl, _⟩ := r.at_ n _ hn rfl
  cases m1 with
  | ref hn' =>
    rw [h1] at hn'
    cases hn'
    cases rx
    obtain ⟨mA, J, _⟩ := ins_get I.hok h2
    obtain ⟨od, J, _⟩ := J.look
    obtain ⟨mm, hF⟩ := I.fr
    have F' := F
    rw [← x.prog, ← x.hw, ← x.K, ← x.mg, ← x.base] at F'
    have r2 : Vals [V.ref a, vy] [Value.ref a, u] := .cons rfl (.cons ry .nil)
    have word : spOf g ps.length (cx.cj f) [.ref a, vy] H (fun d H' => ∃ b, d = .bl b ∧ Q (.bl (negB o b)) H') (fun _ _ _ => False) :=
      ⟨hl, [.ref n, y], S, φ, r, .cons (.ref h1) (.cons m2 .nil), Post.mono p fun d S' H' φ' _ _ ⟨b, hd, q⟩ w mw => by subst hd; cases mw; exact ⟨b, rfl, q⟩⟩
    have run : ∀ A : Around, Room j A → A.frames = X.A.frames → wpAny (model X.prog X.w) A (call (.ref (g.fa f)) [.ref a, u]) (fun w s' => ∃ b, w = .bool b ∧ ∃ H', Inv X pins σ H' s' ∧ Q (.bl (negB o b)) H') X.xe s := by
      intro A hA hfr
      have e0 : Env0 X.prog X.w X.K X.mg X.base A X.stack s H := by
        have e := I.env0
        exact ⟨by rw [hfr]; exact e.frames, e.mod, e.bs, e.bsz, e.funs, e.frf, e.hok, e.bare⟩
      have bound := B s [.ref a, u] I.kIn (by rw [List.append_nil]; exact hl)
      rw [List.append_nil] at bound
      refine wpAny_call (codeAny_mono (F'.run A X.stack s H ⟨[.ref a, u], []⟩ _ _ _ (fun _ _ _ => False) hA e0 bound r2 word) fun r s' back => ?_)
      rcases r with er | fl
      · exact passL pins σ H s er s' I back
      cases fl with
      | ret w =>
        obtain ⟨z, H', I', rz, b, ez, q⟩ := I.after back
        subst ez
        cases (show w = Value.bool b from rz)
        exact ⟨b, rfl, H', I', q⟩
      | next => exact False.elim back
      | brk => exact False.elim back
      | cont => exact False.elim back
    have hj : Room j X.A := x.room.mono (Nat.le_succ j)
    rcases hop with rfl | rfl
    · have : op = .Eq := by cases op <;> simp_all [cmpC]
      subst this
      show wpAny (model X.prog X.w) X.A (richCompare .Eq (.ref a) u) (EP X pins σ Q) X.xe s
      refine PySem.W.cmp_K (op := .Eq) (tb := tb) (by have := x.units; omega) hF I.ok.mod.kin J hb y2 e1 e2 (thn (run X.A hj rfl) fun w s' hw => ?_)
      obtain ⟨b, rfl, H', I', q⟩ := hw
      exact ⟨.bl b, H', I', rfl, q⟩
    · have : op = .NotEq := by cases op <;> simp_all [cmpC]
      subst this
      show wpAny (model X.prog X.w) X.A (richCompare .NotEq (.ref a) u) (EP X pins σ Q) X.xe s
      refine own_ne (by have := x.units; omega) I.kIn J hb y2 e3 e1 e2 (thn (run X.A.in1 x.room.in1 rfl) fun w s' hw => ?_)
      obtain ⟨b, rfl, H', I', q⟩ := hw
      exact ⟨b, rfl, .bl (!b), H', I', rfl, q⟩
theorem ownQ_some {S : Store} {o : Cm} {a b : T} {q : Nat × D × D} (h : ownQ cx S o a b = some q) : (o = .eq ∨ o = .ne) ∧ ∃ n y c fs f, a = .v (.ref n) ∧ b = .v y ∧ S[n]? = some (.ins c fs) ∧ knownT cx S (.v y) = true ∧ cx.eq c = some f ∧ q = (f, .ref n, y) := by
  unfold ownQ at h
  split at h
  · rename_i ho
    refine ⟨ho, ?_⟩
    split at h
    · rename_i n y
      split at h
      · rename_i c fs hs
        split at h
        · rename_i hk
          obtain ⟨f, hf, rfl⟩ := opt_map h
          exact ⟨n, y, c, fs, f, rfl, rfl, hs, hk, hf, rfl⟩
        · cases h
      · cases h
    · cases h
  · cases h
/-- a comparison within what is still to come -/
theorem rCmpO {H H2 : Hp} {φ φ2 : List Addr} {τ : St} {S2 : Store} {t1 t2 : T} {v1 v2 : V} {o : Cm} {α : Type} {K : α → Store → Hp → List Addr → Prop} {f : T → Store → R α} {Q : VK} (ex : Ext g H φ H2 φ2) (r2 : Rel g H2 φ2 S2) (m1 : TEm g H2 φ2 t1 v1) (m2 : TEm g H2 φ2 t2 v2)
    (p : Post g W H φ τ K ((app cx S2 (.cmp o) [t1, t2]).bind f)) (k : ∀ b S3 H3 φ3, Ext g H φ H3 φ3 → Rel g H3 φ3 S3 → Post g W H φ τ K (f (.v (.bl b)) S3) → Q (.bl b) H3) :
    (rOp g fun S a b => (cmpE S o a b).map fun c => .v (.bl c)) v1 v2 H2 Q ∨ rOwn g cx o v1 v2 H2 Q := by
  cases hq : ownQ cx S2 o t1 t2 with
  | none =>
    have e : app cx S2 (.cmp o) [t1, t2] = ofO S2 ((cmpE S2 o t1 t2).map fun c => .v (.bl c)) := by
      show (match ownQ cx S2 o t1 t2 with | some q => _ | none => _) = _
      rw [hq]
    rw [e] at p
    cases hc : cmpE S2 o t1 t2 with
    | none =>
      rw [hc] at p
      exact (show False from p).elim
    | some c =>
      rw [hc] at p
      refine .inl ⟨S2, φ2, t1, t2, .v (.bl c), r2, m1, m2, by (show (cmpE S2 o t1 t2).map _ = _; rw [hc]; rfl), fun H' v e' r' m f' => ?_⟩
      cases m
      exact k c S2 H' φ2 (ex.trans e') r' p
  | some q =>
    have e : app cx S2 (.cmp o) [t1, t2] = (cx.cj q.1 [q.2.1, q.2.2] S2).nox.bind (ownK o) := by
      show (match ownQ cx S2 o t1 t2 with | some q => _ | none => _) = _
      rw [hq]
    rw [e] at p
    obtain ⟨ho, n, y, c, fs, f', rfl, rfl, hs, hk, hf, rfl⟩ := ownQ_some hq
    refine .inr ⟨S2, φ2, n, y, c, fs, f', ho, r2, hs, hf, hk, m1, m2, ?_⟩
    dsimp only at p ⊢
    generalize cx.cj f' [.ref n, y] S2 = rr at p ⊢
    cases rr with
    | bad => exact p
    | ex cc dd S3 => exact (show False from p).elim
    | ok d S3 =>
      intro H3 φ3 e3 r3
      replace p : Post g W H φ τ K ((ownK o d S3).bind f) := p
      cases d with
      | bl b => exact ⟨b, rfl, k (negB o b) S3 H3 φ3 (ex.trans e3) r3 p⟩
      | _ => exact (show False from p).elim
theorem s_cmp {a b : Expr} {a' b' : Ex} {op : CmpOp} {o : Cm} {pos : Pos} (x : XOk g N k sc W X) (G : GOk g cx) (C : COk g cx k) (ho : cmpC op = some o) (hs : isSet b = false) (ha : PB g W X a (den cx a')) (hb : PB g W X b (den cx b')) : PB g W X (.Compare a [op] [b] pos) (den cx (.nd (.cmp o) [a', b'])) := by
  have both := OpRor (cmp_sound x.prog x.hw x.K x.units ho) (own_sound x G C ho)
  refine ⟨PEimp (pe_cmpR both ha.1 hb.1 (noMark hs)) ?_, PTimp (pt_cmpR both ha.1 hb.1 (noMark hs)) ?_⟩
  · rintro τ H Q ⟨σ, S, φ, r, rE, p⟩
    have p : Post g W H φ τ (KE g H Q) ((dens cx [a', b'] σ S).bind fun ts S' => app cx S' (.cmp o) ts) := p
    rw [dens2] at p
    refine use_e r rE Ext.refl p fun t1 S1 H1 φ1 v1 e1 r1 m1 f1 p1 => ?_
    refine use_e r1 (rE.ext e1) e1 p1 fun t2 S2 H2 φ2 v2 e2 r2 m2 f2 p2 => ?_
    have p2' : Post g W H φ τ (KE g H Q) ((app cx S2 (.cmp o) [t1, t2]).bind fun t S => .ok t S) := by
      have e : (app cx S2 (.cmp o) [t1, t2]).bind (fun t S => .ok t S) = app cx S2 (.cmp o) [t1, t2] := by cases app cx S2 (.cmp o) [t1, t2] <;> rfl
      rw [e]
      exact p2
    exact rCmpO (e1.trans e2) r2 (m1.ext e2) m2 p2' fun b S3 H3 φ3 e3 r3 p3 => fin_v e3 p3 r3 (.bl b) trivial
  · rintro τ H Q ⟨σ, S, φ, r, rE, p⟩
    replace p : Post g W H φ τ (fun b _ H' _ => Q b H') (((dens cx [a', b'] σ S).bind fun ts S' => app cx S' (.cmp o) ts).bind fun t S' => ofO S' (truth S' t)) := p
    rw [R.bind_assoc, dens2] at p
    refine use_e r rE Ext.refl p fun t1 S1 H1 φ1 v1 e1 r1 m1 f1 p1 => ?_
    refine use_e r1 (rE.ext e1) e1 p1 fun t2 S2 H2 φ2 v2 e2 r2 m2 f2 p2 => ?_
    exact rCmpO (Q := fun v H' => ∃ b, v = .bl b ∧ Q b H') (e1.trans e2) r2 (m1.ext e2) m2 p2 fun b S3 H3 φ3 e3 r3 p3 => ⟨b, rfl, p3 H3 φ3 e3 r3⟩

/-! ### built-ins by name -/
theorem s_max {a b : Expr} {a' b' : Ex} {p pos : Pos} (x : XOk g N k sc W X) (G : GOk g cx) (hg : glC sc "max" = true) (hs : isStar a = false) (hs2 : isStar b = false) (ha : PB g W X a (den cx a')) (hb : PB g W X b (den cx b')) :
    PB g W X (.Call (.Name "max" p) [a, b] [] pos) (den cx (.nd .max2 [a', b'])) := by
  refine pb_of x rfl (PEimp (pe_callB (call_max2 x.calm) (x.gl hg) (by rw [x.mg]; exact G.blt_ _ (by decide +kernel)) (by decide +kernel) (pa_cons ha.1 (pa_cons hb.1 pa_nil (starE hs2)) (starE hs)) (by decide +kernel) (by decide +kernel) (starE hs) (starP (by simp [hs2]))) ?_)
  rintro τ H Q ⟨σ, S, φ, r, rE, p⟩
  replace p : Post g W H φ τ (KE g H Q) ((dens cx [a', b'] σ S).bind fun ts S' => app cx S' .max2 ts) := p
  rw [dens2] at p
  refine use_e r rE Ext.refl p fun t1 S1 H1 φ1 v1 e1 r1 m1 f1 p1 => ?_
  refine use_e r1 (rE.ext e1) e1 p1 fun t2 S2 H2 φ2 v2 e2 r2 m2 f2 p2 => ?_
  have main : ∀ i j : Int, t1 = .v (.int i) → t2 = .v (.int j) → ∃ i j, [v1, v2] = [V.int i, V.int j] ∧ Q (.int (if j > i then j else i)) H2 := by
    rintro i j rfl rfl
    cases m1
    cases m2
    exact ⟨i, j, rfl, fin_v (e1.trans e2) p2 r2 (.int _) trivial⟩
  cases t1 with
  | t _ => exact (show False from p2).elim
  | v d =>
    cases d with
    | int i =>
      cases t2 with
      | t _ => exact (show False from p2).elim
      | v d2 =>
        cases d2 with
        | int j => exact main i j rfl rfl
        | _ => exact (show False from p2).elim
    | _ => exact (show False from p2).elim
theorem s_min {a b : Expr} {a' b' : Ex} {p pos : Pos} (x : XOk g N k sc W X) (G : GOk g cx) (hg : glC sc "min" = true) (hs : isStar a = false) (hs2 : isStar b = false) (ha : PB g W X a (den cx a')) (hb : PB g W X b (den cx b')) :
    PB g W X (.Call (.Name "min" p) [a, b] [] pos) (den cx (.nd .min2 [a', b'])) := by
  refine pb_of x rfl (PEimp (pe_callB (call_min2 x.calm) (x.gl hg) (by rw [x.mg]; exact G.blt_ _ (by decide +kernel)) (by decide +kernel) (pa_cons ha.1 (pa_cons hb.1 pa_nil (starE hs2)) (starE hs)) (by decide +kernel) (by decide +kernel) (starE hs) (starP (by simp [hs2]))) ?_)
  rintro τ H Q ⟨σ, S, φ, r, rE, p⟩
  replace p : Post g W H φ τ (KE g H Q) ((dens cx [a', b'] σ S).bind fun ts S' => app cx S' .min2 ts) := p
  rw [dens2] at p
  refine use_e r rE Ext.refl p fun t1 S1 H1 φ1 v1 e1 r1 m1 f1 p1 => ?_
  refine use_e r1 (rE.ext e1) e1 p1 fun t2 S2 H2 φ2 v2 e2 r2 m2 f2 p2 => ?_
  have main : ∀ i j : Int, t1 = .v (.int i) → t2 = .v (.int j) → ∃ i j, [v1, v2] = [V.int i, V.int j] ∧ Q (.int (if j < i then j else i)) H2 := by
    rintro i j rfl rfl
    cases m1
    cases m2
    exact ⟨i, j, rfl, fin_v (e1.trans e2) p2 r2 (.int _) trivial⟩
  cases t1 with
  | t _ => exact (show False from p2).elim
  | v d =>
    cases d with
    | int i =>
      cases t2 with
      | t _ => exact (show False from p2).elim
      | v d2 =>
        cases d2 with
        | int j => exact main i j rfl rfl
        | _ => exact (show False from p2).elim
    | _ => exact (show False from p2).elim
theorem bi1_facts {n : Str} {b : Bi} (h : bi1.lookup n = some b) : bootBuiltins n = some (biV b) ∧ n ∈ bltns := by
  have hm := PySem.mem_of_lookup h
  simp only [bi1, List.mem_cons, List.not_mem_nil, or_false, Prod.mk.injEq] at hm
  rcases hm with ⟨rfl, rfl⟩ | ⟨rfl, rfl⟩ | ⟨rfl, rfl⟩ | ⟨rfl, rfl⟩ | ⟨rfl, rfl⟩ | ⟨rfl, rfl⟩ | ⟨rfl, rfl⟩ | ⟨rfl, rfl⟩ | ⟨rfl, rfl⟩ | ⟨rfl, rfl⟩ | ⟨rfl, rfl⟩ | ⟨rfl, rfl⟩ | ⟨rfl, rfl⟩ <;> exact ⟨by decide +kernel, by decide +kernel⟩
theorem s_bi {a : Expr} {a' : Ex} {n : Str} {b : Bi} {p pos : Pos} (x : XOk g N k sc W X) (G : GOk g cx) (hg : glC sc n = true) (ho : okN n = true) (hb : bi1.lookup n = some b) (hs : isStar a = false) (ha : PB g W X a (den cx a')) :
    PB g W X (.Call (.Name n p) [a] [] pos) (den cx (.nd (.bi b) [a'])) := by
  obtain ⟨b1, b2⟩ := bi1_facts hb
  have hc := bi_sound b x.K x.units x.calm
  have hm : X.mg n = none := by rw [x.mg]; exact G.blt_ _ b2
  have main : PE X (.Call (.Name n p) [a] [] pos) (tCB (rBi g b) (tCons (tE g W (den cx a').e) tNil)) := by
    cases hv : biV b with
    | builtin id =>
      rw [hv] at hc b1
      exact pe_callB hc (x.gl hg) hm b1 (pa_cons ha.1 pa_nil (starE hs)) (okN_iff ho).2.2 (okN_iff ho).1 (starE hs)
    | type T =>
      rw [hv] at hc b1
      exact pe_callTy hc (x.gl hg) hm b1 (pa_cons ha.1 pa_nil (starE hs)) (okN_iff ho).2.2 (okN_iff ho).1 (starE hs)
    | _ => cases b <;> cases hv
  refine pb_of x rfl (PEimp main ?_)
  rintro τ H Q ⟨σ, S, φ, r, rE, p⟩
  replace p : Post g W H φ τ (KE g H Q) ((dens cx [a'] σ S).bind fun ts S' => app cx S' (.bi b) ts) := p
  rw [dens1] at p
  refine use_e r rE Ext.refl p fun t1 S1 H1 φ1 v1 e1 r1 m1 f1 p1 => ?_
  obtain ⟨t, ht, k⟩ := fin_op e1 p1
  exact ⟨S1, φ1, v1, t1, t, rfl, r1, m1, ht, k⟩

/-! ### calls -/
theorem Post.conv {H : Hp} {φ : List Addr} {τ : St} {α : Type} {K : α → Store → Hp → List Addr → Prop} {r : R α} (h : Post g W H φ τ K r) : Post g (fun cls dx _ H' => W cls dx τ H') H φ [] K r := by
  cases r with
  | ok a S => exact h
  | ex c dd S => exact h
  | bad => exact h
theorem s_call {es : List Expr} {es' : List Ex} {n : Str} {i : Nat} {p pos : Pos} (x : XOk g N k sc W X) (G : GOk g cx) (C : COk g cx k) (hg : glC sc n = true) (ho : okN n = true) (hn : g.T.funs.lookup n = some i) (hne : es.isEmpty = false) (hs : es.any isStar = false) (ha : PA X es (tD g W (ded cx es'))) :
    PB g W X (.Call (.Name n p) es [] pos) (den cx (.na (.call i) es')) := by
  refine pb_of x rfl ?_
  obtain ⟨fd, ps, hb, F, B⟩ := C.call_ n i hn
  cases es with
  | nil => cases hne
  | cons e es =>
    rw [List.any_cons, Bool.or_eq_false_iff] at hs
    have F' := F
    rw [← x.prog, ← x.hw, ← x.K, ← x.mg, ← x.base] at F'
    rw [← x.K] at B
    refine PEimp (pe_callS F' x.room (x.gl hg) (by rw [x.mg]; exact (G.fun_ n i hn).1) (by rw [x.K]; exact (G.fun_ n i hn).2) B (fun σ => passAt x.tk σ) ha (okN_iff ho).1 (starE hs.1) (starP hs.2)) ?_
    rintro τ H Q ⟨σ, S, φ, r, rE, p⟩
    refine use_d r rE Ext.refl p fun ds S1 H1 φ1 vs e1 r1 m1 p1 => ?_
    replace p1 : Post g W H φ τ (KE g H Q) ((cx.call i ds S1).bind fun d S' => .ok (.v d) S') := p1
    refine ⟨?_, ds, S1, φ1, r1, m1, Post.conv (Post.mono (Post.shift e1 (Post.bnd p1)) fun d S2 H2 φ2 e2 r2 q v m => fin_v (e1.trans e2) q r2 m trivial)⟩
    by_cases hl : ds.length = ps.length
    · rw [← m1.length]; exact hl
    · rw [hb ds S1 hl] at p1
      exact (show False from p1).elim
/-- the instance is made -/
theorem run_makeS {X : Cx} {CX : CXT} {k : Nat} {f C : Addr} {fd : FuncData} {ps : List Str} {sp : Sp} {E : XK} {pins : List (Addr × Obj)} {σ : St} {H : Hp} {s : Shared} {Q : VK} {us : List Value} {vs : List V} (M : Mk X.K C f) (F : FnOk X.prog X.w X.K X.mg X.base CX k f fd ps sp) (hr : Room (k + 1) X.A) (hb : Binds X.K fd ps [])
    (hx : PassesAt CX X σ E) (I : Inv X pins σ H s) (r : Vals vs us)
    (h : ∀ x dx, H x = none → H dx = none → dx ≠ x → sp (.ref x :: vs) (upd (upd H dx (.own x)) x (.ins C dx [])) (fun v H2 => v = .non ∧ Q (.ref x) H2) E) :
    wpAny (model X.prog X.w) X.A (call (.ref C) us) (EP X pins σ Q) X.xe s := by
  have hq := h (s.heap.objs.size + 1) s.heap.objs.size (I.hok.fresh (Nat.le_succ _)) (I.hok.fresh (Nat.le_refl _)) (Nat.ne_of_lt (Nat.lt_succ_self _))
  have I2 := Inv.made (C := C) I
  have r2 : Vals (V.ref (s.heap.objs.size + 1) :: vs) (Value.ref (s.heap.objs.size + 1) :: us) := .cons rfl r
  have hl : (Value.ref (s.heap.objs.size + 1) :: us).length = ps.length := by
    have e := r2.length
    rw [F.len _ _ _ _ hq] at e
    exact e.symm
  have b := hb _ (Value.ref (s.heap.objs.size + 1) :: us) I2.kIn (by rw [List.append_nil]; exact hl)
  rw [List.append_nil] at b
  refine wpAny_call (make_map (f := f) I.kIn M.makes M.init (beq_iff_eq.mp M.fn) (codeAny_mono (F.run _ X.stack _ _ ⟨Value.ref (s.heap.objs.size + 1) :: us, []⟩ (Value.ref (s.heap.objs.size + 1) :: us) _ _ E (hr.make C us [])
    (I2.env0.make C us []) b r2 hq) fun r s' hq' => ?_))
  cases r with
  | error e => exact hx pins _ _ e s' I2 hq'
  | ok fl =>
    cases fl with
    | ret u =>
      obtain ⟨v, H', I3, rv, ev, q3⟩ := I2.after hq'
      subst ev
      exact ⟨rv, ⟨V.ref (s.heap.objs.size + 1), H', I3, rfl, q3⟩⟩
    | next => exact False.elim hq'
    | brk => exact False.elim hq'
    | cont => exact False.elim hq'
def tMakeS (C : Addr) (sp : Sp) (E : St → XK) (t : TA) : TE := fun σ H Q => t σ H fun vs H1 => ∀ x dx, H1 x = none → H1 dx = none → dx ≠ x → sp (.ref x :: vs) (upd (upd H1 dx (.own x)) x (.ins C dx [])) (fun v H2 => v = .non ∧ Q (.ref x) H2) (E σ)
theorem pe_makeS {X : Cx} {CX : CXT} {k : Nat} {f C : Addr} {fd : FuncData} {ps : List Str} {sp : Sp} {E : St → XK} {x : Str} {p pos : Pos} {e : Expr} {es : List Expr} {t : TA} (M : Mk X.K C f) (F : FnOk X.prog X.w X.K X.mg X.base CX k f fd ps sp) (hr : Room (k + 1) X.A) (hg : Gl X x) (hm : X.mg x = some (.ref C)) (hb : Binds X.K fd ps []) (hx : ∀ σ, PassesAt CX X σ (E σ))
    (ha : PA X (e :: es) t) (hdb : (x == ("__debug__" : Str)) = false) (he : starEach (e :: es) X.env = (false, eval e X.env) :: starEach es X.env) (hpl : (backTo pos (starEach es X.env)).any (·.1) = false) :
    PE X (.Call (.Name x p) (e :: es) [] pos) (tMakeS C sp E t) := by
  refine ⟨fun pins s σ H Q I h => ?_⟩
  refine wpAny_Call_Name_kw (ld_glob I hg hm ?_ hdb)
  refine PySem.W.callWith_K (h₀ := X.base) I.ok.mod.kin M.kp (thn (ha.run pos pins s σ H _ I h) fun us s1 ⟨vs, H1, I1, r, q⟩ => ⟨I1.kIn, ?_⟩) he hpl
  exact run_makeS M F hr hb (hx σ) I1 r q
theorem pe_makeF {X : Cx} {C : Addr} {x : Str} {p pos : Pos} {e : Expr} {es : List Expr} {t : TA} (kp : PySem.W.keepIn X.K (.ref C) = true) (hg : Gl X x) (hm : X.mg x = some (.ref C))
    (ha : PA X (e :: es) t) (hdb : (x == ("__debug__" : Str)) = false) (he : starEach (e :: es) X.env = (false, eval e X.env) :: starEach es X.env) (hpl : (backTo pos (starEach es X.env)).any (·.1) = false) :
    PE X (.Call (.Name x p) (e :: es) [] pos) (fun σ H Q => t σ H fun _ _ => False) := by
  refine ⟨fun pins s σ H Q I h => ?_⟩
  refine wpAny_Call_Name_kw (ld_glob I hg hm ?_ hdb)
  refine PySem.W.callWith_K (h₀ := X.base) I.ok.mod.kin kp (thn (ha.run pos pins s σ H _ I h) fun us s1 ⟨vs, H1, I1, r, q⟩ => q.elim) he hpl
theorem s_mk {es : List Expr} {es' : List Ex} {n : Str} {c : Nat} {p pos : Pos} (x : XOk g N k sc W X) (G : GOk g cx) (C : COk g cx k) (hg : glC sc n = true) (ho : okN n = true) (hn : g.T.clss.lookup n = some c) (hne : es.isEmpty = false) (hs : es.any isStar = false) (ha : PA X es (tD g W (ded cx es'))) :
    PB g W X (.Call (.Name n p) es [] pos) (den cx (.na (.mk c) es')) := by
  refine pb_of x rfl ?_
  cases es with
  | nil => cases hne
  | cons e es =>
    rw [List.any_cons, Bool.or_eq_false_iff] at hs
    obtain ⟨kp, C'⟩ := C.mak_ n c hn
    rcases C' with hb | ⟨j, f, fd, ps, ini, rfl, hb, M, F, B, hm⟩
    · rw [← x.K] at kp
      refine PEimp (pe_makeF kp (x.gl hg) (by rw [x.mg]; exact G.cls_ n c hn) ha (okN_iff ho).1 (starE hs.1) (starP hs.2)) ?_
      rintro τ H Q ⟨σ, S, φ, r, rE, p⟩
      refine use_d r rE Ext.refl p fun ds S1 H1 φ1 vs e1 r1 m1 p1 => ?_
      replace p1 : Post g W H φ τ (KE g H Q) ((cx.mak c ds S1).bind fun d S' => .ok (.v d) S') := p1
      rw [hb] at p1
      exact p1
    · have F' := F
      rw [← x.prog, ← x.hw, ← x.K, ← x.mg, ← x.base] at F'
      rw [← x.K] at B M
      refine PEimp (pe_makeS M F' x.room (x.gl hg) (by rw [x.mg]; exact G.cls_ n c hn) B (fun σ => passAt x.tk σ) ha (okN_iff ho).1 (starE hs.1) (starP hs.2)) ?_
      rintro τ H Q ⟨σ, S, φ, r, rE, p⟩
      refine use_d r rE Ext.refl p fun ds S1 H1 φ1 vs e1 r1 m1 p1 => ?_
      replace p1 : Post g W H φ τ (KE g H Q) ((cx.mak c ds S1).bind fun d S' => .ok (.v d) S') := p1
      rw [hm, R.bind_assoc] at p1
      intro a dx ha hdx hne'
      have hna : upd H1 dx (.own a) a = none := by rw [upd_ne (Ne.symm hne')]; exact ha
      have e2 : Ext g H1 φ1 (upd H1 dx (.own a)) φ1 := Ext.new hdx
      have e3 : Ext g (upd H1 dx (.own a)) φ1 (upd (upd H1 dx (.own a)) a (.ins (g.ca c) dx [])) φ1 := Ext.new hna
      have r3 : Rel g (upd (upd H1 dx (.own a)) a (.ins (g.ca c) dx [])) φ1 S1 := (r1.new hdx).new hna
      have r4 : Rel g (upd (upd H1 dx (.own a)) a (.ins (g.ca c) dx [])) (φ1 ++ [a]) (S1 ++ [.ins c []]) := Rel.take_in r3 upd_same (r1.notin ha) ⟨dx, [], rfl, rfl, .nil, fun _ h => nomatch h⟩
      have e4 : Ext g H1 φ1 (upd (upd H1 dx (.own a)) a (.ins (g.ca c) dx [])) (φ1 ++ [a]) := Ext.take_in (e2.trans e3) ha
      have hra : (φ1 ++ [a])[S1.length]? = some a := by
        rw [← r1.len, List.getElem?_append_right (Nat.le_refl _)]
        simp
      have m4 : Ems g (upd (upd H1 dx (.own a)) a (.ins (g.ca c) dx [])) (φ1 ++ [a]) (.ref S1.length :: ds) (.ref a :: vs) := .cons (.ref hra) (m1.ext e4.toLe)
      refine ⟨?_, _, _, _, r4, m4, Post.conv (Post.mono (Post.shift (e1.trans e4) (Post.bnd p1)) fun d S2 H2 φ2 e5 r5 q v m => ?_)⟩
      · by_cases hl : (D.ref S1.length :: ds).length = ps.length
        · rw [← m4.length]; exact hl
        · rw [hb _ _ hl] at p1
          exact (show False from p1).elim
      · split at q
        · rename_i hd
          subst hd
          cases m
          exact ⟨rfl, fin_v ((e1.trans e4).trans e5) q r5 (Em.ref (e5.pre _ _ hra)) trivial⟩
        · exact (show False from q).elim
end
end Ev
set_option Elab.async false
set_option linter.all false
set_option maxRecDepth 100000
set_option autoImplicit false
set_option maxHeartbeats 1000000
/-! Ev, part J: methods of built-in types; targets; what is gone through; comprehensions. -/
namespace Ev
open PySem L2
section
variable {g : G} {N : List Str} {k : Nat} {sc : Scope} {W : WX} {X : Cx} {cx : Cxt}

/-- an exception as a value -/
theorem s_mkx0 {n : Str} {c : Nat} {p pos : Pos} (x : XOk g N k sc W X) (G : GOk g cx) (hg : glC sc n = true) (ho : okN n = true) (hn : g.T.exs.lookup n = some (c, none)) : PB g W X (.Call (.Name n p) [] [] pos) (den cx (.na (.mkx c none) [])) := by
  obtain ⟨h1, h2, h3⟩ := G.x0_ n c hn
  refine pb_of x rfl (PEimp (pe_ex0 PySem.F.excBase_ValueError (by rw [x.K]; exact h3) (by rw [x.mg]; exact h1) (by rw [x.K]; exact h2) (x.gl hg) (okN_iff ho).1) ?_)
  rintro τ H Q ⟨σ, S, φ, r, rE, p⟩
  replace p : Post g W H φ τ (KE g H Q) (if cx.lv = true then .ok (.v (.ref S.length)) (S ++ [.exn c []]) else .bad) := p
  split at p
  · intro a ha
    have r2 : Rel g (upd H a (exo a (g.ca c) none)) (φ ++ [a]) (S ++ [.exn c []]) := Rel.take_x (r.new ha) (r.notin ha) (.inl ⟨rfl, upd_same⟩)
    refine p _ _ (Ext.take_in (Ext.new ha) ha) r2 _ (Em.ref ?_) trivial
    rw [← r.len, List.getElem?_append_right (Nat.le_refl _)]
    simp
  · exact (show False from p).elim
theorem s_mkx1 {e : Expr} {e' : Ex} {n : Str} {c f : Nat} {p pos : Pos} (x : XOk g N k sc W X) (G : GOk g cx) (hlv : cx.lv = true → 2 ≤ k) (hg : glC sc n = true) (ho : okN n = true) (hn : g.T.exs.lookup n = some (c, some f)) (hs : isStar e = false) (ha : PA X [e] (tD g W (ded cx [e']))) : PB g W X (.Call (.Name n p) [e] [] pos) (den cx (.na (.mkx c (some f)) [e'])) := by
  obtain ⟨h1, h2, fI, fd, ps, h3, h4, h5, h6⟩ := G.x1_ n c f hn
  rw [← x.prog, ← x.hw, ← x.K, ← x.mg, ← x.base] at h6
  rw [← x.K] at h2 h3 h4 h5
  by_cases hlv' : cx.lv = true
  · refine pb_of x rfl (PEimp (pe_exv h2 h3 h4 h6 (x.room.mono (hlv hlv')) h5 passL (x.gl hg) (by rw [x.mg]; exact h1) ha (okN_iff ho).1 (starE hs)) ?_)
    rintro τ H Q ⟨σ, S, φ, r, rE, p⟩
    refine use_d r rE Ext.refl p fun ds S1 H1 φ1 vs e1 r1 m1 p1 => ?_
    cases m1 with
    | nil => exact (show False from p1).elim
    | @cons d ds v1 vs md m1 =>
      cases m1 with
      | cons _ _ => exact (show False from p1).elim
      | nil =>
        replace p1 : Post g W H φ τ (KE g H Q) (if cx.lv = true then .ok (.v (.ref S1.length)) (S1 ++ [.exn c [(f, d)]]) else .bad) := p1
        rw [if_pos hlv'] at p1
        refine ⟨v1, rfl, fun a dx ha hdx hne => ?_⟩
        have hna : upd H1 dx (exd dx [(g.fn f, v1)]) a = none := by rw [upd_ne (Ne.symm hne)]; exact ha
        have x2 : Ext g H1 φ1 (upd H1 dx (exd dx [(g.fn f, v1)])) φ1 := Ext.new hdx
        have x3 : Ext g (upd H1 dx (exd dx [(g.fn f, v1)])) φ1 (upd (upd H1 dx (exd dx [(g.fn f, v1)])) a (exo a (g.ca c) (some dx))) φ1 := Ext.new hna
        have r3 := (r1.new (u := exd dx [(g.fn f, v1)]) hdx).new (u := exo a (g.ca c) (some dx)) hna
        have r4 : Rel g (upd (upd H1 dx (exd dx [(g.fn f, v1)])) a (exo a (g.ca c) (some dx))) (φ1 ++ [a]) (S1 ++ [.exn c [(f, d)]]) :=
          Rel.take_x r3 (r1.notin ha) (.inr ⟨dx, f, d, v1, rfl, upd_same, by rw [upd_ne hne]; exact upd_same, md.ext (x2.trans x3).toLe⟩)
        refine p1 _ _ (e1.trans (Ext.take_in (x2.trans x3) ha)) r4 _ (Em.ref ?_) trivial
        rw [← r1.len, List.getElem?_append_right (Nat.le_refl _)]
        simp
  · refine pb_of x rfl (PEimp (pe_makeF h2.kC (x.gl hg) (by rw [x.mg]; exact h1) ha (okN_iff ho).1 (starE hs) rfl) ?_)
    rintro τ H Q ⟨σ, S, φ, r, rE, p⟩
    refine use_d r rE Ext.refl p fun ds S1 H1 φ1 vs e1 r1 m1 p1 => ?_
    cases ds with
    | nil => exact p1
    | cons d ds =>
      cases ds with
      | cons _ _ => exact p1
      | nil =>
        replace p1 : Post g W H φ τ (KE g H Q) (if cx.lv = true then .ok (.v (.ref S1.length)) (S1 ++ [.exn c [(f, d)]]) else .bad) := p1
        rw [if_neg hlv'] at p1
        exact p1
/-! ### methods -/
theorem ded_nil {σ : Ev.Env} {S : Store} {β : Type} (f : List D → Store → R β) : (ded cx [] σ S).bind f = f [] S := rfl
theorem ded_one {a : Ex} {σ : Ev.Env} {S : Store} {β : Type} (f : List D → Store → R β) : (ded cx [a] σ S).bind f = ((den cx a).e σ S).bind fun t S1 => f [(alloc t S1).1] (alloc t S1).2 := by
  simp only [ded, R.bind_assoc, alloc_bind]
  rfl
theorem meth_rec {o : Expr} {o' : Ex} {m : Me} {es' : List Ex} {H : Hp} {φ : List Addr} {σ : Ev.Env} {τ : St} {S : Store} {Q : VK} {Q' : V → Hp → Prop} (r : Rel g H φ S) (rE : RelE g H φ σ τ)
    (p : Post g W H φ τ (KE g H Q) ((den cx (.meth m o' es')).e σ S))
    (k : ∀ t S1 H1 φ1 v, Ext g H φ H1 φ1 → Rel g H1 φ1 S1 → TEm g H1 φ1 t v → meOk S1 m t = true → Post g W H φ τ (KE g H Q) ((ded cx es' σ S1).bind fun ds S2 => meE S2 m t ds) → Q' v H1) : tE g W (den cx o').e τ H Q' := by
  refine use_e r rE Ext.refl (f := fun t S1 => if meOk S1 m t = true then (ded cx es' σ S1).bind fun ds S2 => meE S2 m t ds else .bad) p fun t1 S1 H1 φ1 v1 e1 r1 m1 f1 p1 => ?_
  by_cases h : meOk S1 m t1 = true
  · rw [if_pos h] at p1
    exact k t1 S1 H1 φ1 v1 e1 r1 m1 h p1
  · rw [if_neg h] at p1
    exact (show False from p1).elim
theorem lst_ty {S : Store} {H : Hp} {φ : List Addr} {t : T} {v : V} (r : Rel g H φ S) (m : TEm g H φ t v) (h : (lstW S t).isSome = true) : tyV g.K "list" v H := by
  obtain ⟨ds, hd⟩ := Option.isSome_iff_exists.mp h
  obtain ⟨p, vs, rfl, h1, h2⟩ := m.lstW r hd
  exact .inl ⟨rfl, vs, SqL.of h1⟩
/-- a list of the store is changed -/
theorem put_lst {S : Store} {H : Hp} {φ : List Addr} {n : Nat} {p : Addr} {ds ds' : List D} {vs' : List V} (r : Rel g H φ S) (hn : φ[n]? = some p) (hs : S[n]? = some (.lst ds)) (hm : Ems g H φ ds' vs') :
    Ext g H φ (upd H p (.lst vs')) φ ∧ Rel g (upd H p (.lst vs')) φ (S.set n (.lst ds')) := by
  obtain ⟨a, ho, h1, h2, h3⟩ := r.at_ n _ hs rfl
  rw [h1] at hn; cases hn
  exact ⟨Ext.put r h1 h2 h3 (fun _ z => nomatch z), Rel.put r hs h1 h2 h3 ⟨_, rfl, hm⟩⟩
theorem s_append {o a : Expr} {o' a' : Ex} {apos cpos : Pos} (x : XOk g N k sc W X) (hs : isCall0 o = false) (hl : (apos.endLine == cpos.line) = true) (hst : isStar a = false) (ho : PB g W X o (den cx o')) (ha : PB g W X a (den cx a')) :
    PB g W X (.Call (.Attribute o "append" apos) [a] [] cpos) (den cx (.meth .append o' [a'])) := by
  have hfew : ((backTo cpos (starEach [a] X.env)).all (fun x => !x.1) && (backToKw cpos (keywordEach [] X.env)).all (fun x => x.1.isSome)
      && decide ([a].length + ([] : List Keyword).length + (if ([] : List Keyword).isEmpty then 0 else 1) < 30)) = true := by
    rw [starE hst]
    rfl
  refine pb_of x rfl (PEimp (pe_bm PySem.F.plainAttrs_list PySem.F.slot_list_append PySem.F.type_list_append mt_append ho.1 (pa_cons ha.1 pa_nil (starE hst)) (noSuper hs) hfew hl (starE hst) rfl) ?_)
  rintro τ H Q ⟨σ, S, φ, r, rE, p⟩
  refine meth_rec (o := o) r rE p fun t1 S1 H1 φ1 v1 e1 r1 m1 ok p1 => ⟨by rw [x.K]; exact lst_ty r1 m1 ok, ?_⟩
  rw [ded_one] at p1
  refine use_e r1 (rE.ext e1) e1 p1 fun t2 S2 H2 φ2 v2 e2 r2 m2 f2 p2 => ?_
  obtain ⟨φ3, e3, l3, r3, m3⟩ := alloc_ok (e1.trans e2) r2 m2 (f2.ext e1)
  cases t1 with
  | t _ => exact (show False from p2).elim
  | v d1 =>
    cases d1 with
    | ref n =>
      replace p2 : Post g W H φ τ (KE g H Q) (match (alloc t2 S2).2[n]? with
        | some (.lst ds) => if ds.length < sizeLine then .ok (.v .non) ((alloc t2 S2).2.set n (.lst (ds ++ [(alloc t2 S2).1]))) else .bad
        | _ => .bad) := p2
      split at p2
      · rename_i ds hds
        split at p2
        · cases m1 with
          | ref hn =>
            have hn3 := l3.pre _ _ (e2.pre _ _ hn)
            obtain ⟨b, ho', h1, h2, vs, rfl, h3⟩ := r3.at_ n _ hds rfl
            rw [h1] at hn3; cases hn3
            obtain ⟨e4, r4⟩ := put_lst (vs' := vs ++ [v2]) r3 h1 hds (h3.append (.cons m3 .nil))
            exact ⟨_, vs, v2, rfl, rfl, h2, by rw [← h3.length]; assumption, fin_v (e3.trans e4) p2 r4 .non trivial⟩
        · exact (show False from p2).elim
      · exact (show False from p2).elim
    | _ => exact (show False from p2).elim
theorem s_pop {o : Expr} {o' : Ex} {apos cpos : Pos} (x : XOk g N k sc W X) (hs : isCall0 o = false) (hl : (apos.endLine == cpos.line) = true) (ho : PB g W X o (den cx o')) :
    PB g W X (.Call (.Attribute o "pop" apos) [] [] cpos) (den cx (.meth .pop o' [])) := by
  refine pb_of x rfl (PEimp (pe_bm0 PySem.F.plainAttrs_list PySem.F.slot_list_pop PySem.F.type_list_pop mt_pop ho.1 (noSuper hs) hl) ?_)
  rintro τ H Q ⟨σ, S, φ, r, rE, p⟩
  refine meth_rec (o := o) r rE p fun t1 S1 H1 φ1 v1 e1 r1 m1 ok p1 => ⟨by rw [x.K]; exact lst_ty r1 m1 ok, ?_⟩
  rw [ded_nil] at p1
  cases t1 with
  | t _ => exact (show False from p1).elim
  | v d1 =>
    cases d1 with
    | ref n =>
      replace p1 : Post g W H φ τ (KE g H Q) (match S1[n]? with
        | some (.lst ds) => match ds[ds.length - 1]? with
          | some d => .ok (.v d) (S1.set n (.lst ds.dropLast))
          | none => .bad
        | _ => .bad) := p1
      split at p1
      · rename_i ds hds
        split at p1
        · rename_i d hd
          cases m1 with
          | ref hn =>
            obtain ⟨b, ho', h1, h2, vs, rfl, h3⟩ := r1.at_ n _ hds rfl
            rw [h1] at hn; cases hn
            obtain ⟨w, hw, mw⟩ := h3.get hd
            obtain ⟨e4, r4⟩ := put_lst (vs' := vs.dropLast) r1 h1 hds h3.dropLast
            exact ⟨_, vs, w, rfl, rfl, h2, by rw [← h3.length]; exact hw, fin_v (e1.trans e4) p1 r4 (mw.ext e4.toLe) trivial⟩
        · exact (show False from p1).elim
      · exact (show False from p1).elim
    | _ => exact (show False from p1).elim
theorem s_reverse {o : Expr} {o' : Ex} {apos cpos : Pos} (x : XOk g N k sc W X) (hs : isCall0 o = false) (hl : (apos.endLine == cpos.line) = true) (ho : PB g W X o (den cx o')) :
    PB g W X (.Call (.Attribute o "reverse" apos) [] [] cpos) (den cx (.meth .reverse o' [])) := by
  refine pb_of x rfl (PEimp (pe_bm0 PySem.F.plainAttrs_list PySem.F.slot_list_reverse PySem.F.type_list_reverse mt_reverse ho.1 (noSuper hs) hl) ?_)
  rintro τ H Q ⟨σ, S, φ, r, rE, p⟩
  refine meth_rec (o := o) r rE p fun t1 S1 H1 φ1 v1 e1 r1 m1 ok p1 => ⟨by rw [x.K]; exact lst_ty r1 m1 ok, ?_⟩
  rw [ded_nil] at p1
  cases t1 with
  | t _ => exact (show False from p1).elim
  | v d1 =>
    cases d1 with
    | ref n =>
      replace p1 : Post g W H φ τ (KE g H Q) (match S1[n]? with
        | some (.lst ds) => .ok (.v .non) (S1.set n (.lst ds.reverse))
        | _ => .bad) := p1
      split at p1
      · rename_i ds hds
        cases m1 with
        | ref hn =>
          obtain ⟨b, ho', h1, h2, vs, rfl, h3⟩ := r1.at_ n _ hds rfl
          rw [h1] at hn; cases hn
          obtain ⟨e4, r4⟩ := put_lst (vs' := vs.reverse) r1 h1 hds h3.reverse
          exact ⟨_, vs, rfl, rfl, h2, fin_v (e1.trans e4) p1 r4 .non trivial⟩
      · exact (show False from p1).elim
    | _ => exact (show False from p1).elim

/-! ### targets -/
theorem RelE.set {H : Hp} {φ : List Addr} {σ : Ev.Env} {τ : St} {i : Nat} {d : D} {v : V} (h : RelE g H φ σ τ) (m : Em g H φ d v) : RelE g H φ (σ.set i (some d)) (τ.set i (some v)) := by
  refine ⟨by simp [h.len], fun j e hj => ?_⟩
  by_cases hij : i = j
  · subst hij
    by_cases hl : i < σ.length
    · rw [List.getElem?_set_self hl] at hj
      cases hj
      exact ⟨v, List.getElem?_set_self (by rw [← h.len]; exact hl), m⟩
    · rw [List.getElem?_eq_none (by simpa using hl)] at hj
      cases hj
  · rw [List.getElem?_set_ne hij] at hj
    rw [List.getElem?_set_ne hij]
    exact h.at_ j e hj
theorem RelE.none {H : Hp} {φ : List Addr} {σ : Ev.Env} {τ : St} {i : Nat} (h : RelE g H φ σ τ) : RelE g H φ (σ.set i none) (τ.set i none) := by
  refine ⟨by simp [h.len], fun j e hj => ?_⟩
  by_cases hij : i = j
  · subst hij
    by_cases hl : i < σ.length
    · rw [List.getElem?_set_self hl] at hj
      cases hj
    · rw [List.getElem?_eq_none (by simpa using hl)] at hj
      cases hj
  · rw [List.getElem?_set_ne hij] at hj
    rw [List.getElem?_set_ne hij]
    exact h.at_ j e hj
theorem RelE.wipe {H : Hp} {φ : List Addr} {σ : Ev.Env} {τ : St} (h : RelE g H φ σ τ) : ∀ vs : List Nat, RelE g H φ (wipeE σ vs) (L2.wipe τ vs)
  | [] => h
  | v :: vs => (RelE.wipe h vs).none
theorem wipe_agree : ∀ (vs : List Nat) {τ τ' : St}, τ'.length = τ.length → (∀ i, i ∉ vs → τ'[i]? = τ[i]?) → L2.wipe τ' vs = L2.wipe τ vs := by
  have key : ∀ (vs : List Nat) (τ : St) (i : Nat), (L2.wipe τ vs)[i]? = if i ∈ vs then (if i < τ.length then some none else none) else τ[i]? := by
    intro vs
    induction vs with
    | nil => intro τ i; simp [L2.wipe]
    | cons v vs ih =>
      intro τ i
      unfold L2.wipe
      by_cases hv : v = i
      · subst hv
        by_cases hl : v < τ.length
        · rw [List.getElem?_set_self (by rw [wipe_length]; exact hl)]
          simp [hl]
        · rw [List.getElem?_eq_none (by simpa [wipe_length] using hl)]
          simp [hl]
      · rw [List.getElem?_set_ne hv, ih]
        simp [Ne.symm hv]
  intro vs τ τ' hl h
  apply List.ext_getElem?
  intro i
  rw [key, key, hl]
  by_cases hi : i ∈ vs
  · rw [if_pos hi, if_pos hi]
  · rw [if_neg hi, if_neg hi]
    exact h i hi
def rTg (g : G) (t : Tg) : TG := fun v τ H Q => ∃ σ φ d σ', RelE g H φ σ τ ∧ Em g H φ d v ∧ bindT t d σ = some σ' ∧ ∀ τ', RelE g H φ σ' τ' → τ'.length = τ.length → (∀ i, i ∉ tgS t → τ'[i]? = τ[i]?) → Q τ' H
def rTgs (g : G) (ts : List Tg) : TGs := fun vs τ H Q => ∃ σ φ ds σ', RelE g H φ σ τ ∧ Ems g H φ ds vs ∧ bindTs ts ds σ = some σ' ∧ ∀ τ', RelE g H φ σ' τ' → τ'.length = τ.length → (∀ i, i ∉ tgSs ts → τ'[i]? = τ[i]?) → Q τ' H
theorem PGimp {X : Cx} {e : Expr} {t t' : TG} (h : PG X e t) (k : ∀ v τ H Q, t' v τ H Q → t v τ H Q) : PG X e t' := ⟨fun pins s τ H v u Q I r q => h.run pins s τ H v u Q I r (k v τ H Q q)⟩
theorem PGsimp {X : Cx} {es : List Expr} {t t' : TGs} (h : PGs X es t) (k : ∀ v τ H Q, t' v τ H Q → t v τ H Q) : PGs X es t' := ⟨fun pins s τ H v u Q I r q => h.run pins s τ H v u Q I r (k v τ H Q q)⟩
theorem asgE {env : PySem.Env} {e : Expr} {es : List Expr} (h : isStar e = false) : assignEach (e :: es) env = (false, assign e env) :: assignEach es env := by
  cases e <;> first | rfl | cases h
/-- where names may be stored -/
def Sto (X : Cx) (scT : Scope) : Prop := ∀ x, locC scT x = true → Loc X.env.scope x ∧ (X.fn x = true ∨ X.env.scope.names.lookup x = some .local)
theorem cTgs_len {scT : Scope} : ∀ (n : Nat) (es : List Expr) (ts : List Tg), cTgs N scT n es = some ts → ts.length = es.length ∧ ∀ env : PySem.Env, (assignEach es env).length = es.length ∧ (assignEach es env).findIdx? (·.1) = none
  | 0, es, ts, h => by simp [cTgs] at h
  | n + 1, [], ts, h => by
    simp only [cTgs, Option.some.injEq] at h
    subst h
    exact ⟨rfl, fun env => ⟨rfl, rfl⟩⟩
  | n + 1, e :: es, ts, h => by
    simp only [cTgs] at h
    split at h
    · cases h
    · rename_i hs
      obtain ⟨t, h1, h2⟩ := opt_bind h
      obtain ⟨ts', h3, rfl⟩ := opt_map h2
      obtain ⟨i1, i2⟩ := cTgs_len n es ts' h3
      refine ⟨by simp [i1], fun env => ?_⟩
      rw [asgE (by simpa using hs)]
      obtain ⟨j1, j2⟩ := i2 env
      refine ⟨by simp [j1], ?_⟩
      rw [List.findIdx?_cons]
      simp [j2]
mutual
theorem s_tg {scT : Scope} (hN : X.N = N) (hd : N.Nodup) (hc : X.calm = true) (hK : X.K = g.K) (st : Sto X scT) : ∀ (n : Nat) (e : Expr) (t : Tg), cTg N scT n e = some t → PG X e (rTg g t)
  | 0, e, t, h => by simp [cTg] at h
  | n + 1, e, t, h => by
    simp only [cTg] at h
    split at h
    · rename_i nm pos
      split at h
      · rename_i hl
        obtain ⟨i, h1, rfl⟩ := opt_map h
        obtain ⟨s1, s2⟩ := st nm hl
        refine PGimp (pg_name (i := i) (by rw [hN]; exact hd) (by rw [hN]; exact slot_at h1) s1 s2) ?_
        rintro v τ H Q ⟨σ, φ, d, σ', rE, m, hb, k'⟩
        simp only [bindT] at hb
        split at hb
        · cases hb
          refine k' _ (rE.set m) (by simp) fun j hj => ?_
          rw [List.getElem?_set_ne]
          intro z
          exact hj (by simp [tgS, z])
        · cases hb
      · cases h
    · rename_i es j pos
      obtain ⟨ts, h1, rfl⟩ := opt_map h
      obtain ⟨l1, l2⟩ := cTgs_len n es ts h1
      refine PGimp (pg_tup hc (s_tgs hN hd hc hK st n es ts h1) (l2 X.env).1 (l2 X.env).2) ?_
      rintro v τ H Q ⟨σ, φ, d, σ', rE, m, hb, k'⟩
      simp only [bindT] at hb
      split at hb
      · rename_i ds
        cases m with
        | tup t1 t2 =>
          refine ⟨_, _, rfl, by rw [hK]; exact t1, ?_, σ, φ, ds, σ', rE, t2, hb, fun τ' a b c => k' τ' a b c⟩
          have := t2.length
          have hbl : ∀ (ts : List Tg) (ds : List D) (σ σ' : Ev.Env), bindTs ts ds σ = some σ' → ts.length = ds.length := by
            intro ts
            induction ts with
            | nil => intro ds σ σ' h; cases ds <;> simp_all [bindTs]
            | cons t ts ih =>
              intro ds σ σ' h
              cases ds with
              | nil => simp [bindTs] at h
              | cons d ds =>
                simp only [bindTs] at h
                obtain ⟨σ2, _, h⟩ := opt_bind h
                simp [ih ds _ _ h]
          rw [← this, ← hbl ts ds σ σ' hb, l1]
      · cases hb
    · cases h
theorem s_tgs {scT : Scope} (hN : X.N = N) (hd : N.Nodup) (hc : X.calm = true) (hK : X.K = g.K) (st : Sto X scT) : ∀ (n : Nat) (es : List Expr) (ts : List Tg), cTgs N scT n es = some ts → PGs X es (rTgs g ts)
  | 0, es, ts, h => by simp [cTgs] at h
  | n + 1, [], ts, h => by
    simp only [cTgs, Option.some.injEq] at h
    subst h
    refine PGsimp pgs_nil ?_
    rintro vs τ H Q ⟨σ, φ, ds, σ', rE, m, hb, k'⟩
    cases ds with
    | nil =>
      cases m
      simp only [bindTs, Option.some.injEq] at hb
      subst hb
      exact ⟨rfl, k' τ rE rfl fun _ _ => rfl⟩
    | cons _ _ => simp [bindTs] at hb
  | n + 1, e :: es, ts, h => by
    simp only [cTgs] at h
    split at h
    · cases h
    · rename_i hs
      obtain ⟨t, h1, h2⟩ := opt_bind h
      obtain ⟨ts', h3, rfl⟩ := opt_map h2
      refine PGsimp (pgs_cons (s_tg hN hd hc hK st n e t h1) (s_tgs hN hd hc hK st n es ts' h3) (by rw [asgE (by simpa using hs)]; rfl)) ?_
      rintro vs τ H Q ⟨σ, φ, ds, σ', rE, m, hb, k'⟩
      cases ds with
      | nil => simp [bindTs] at hb
      | cons d ds =>
        cases m with
        | cons m1 m2 =>
          simp only [bindTs] at hb
          obtain ⟨σ2, hb1, hb2⟩ := opt_bind hb
          refine ⟨_, _, rfl, σ, φ, d, σ2, rE, m1, hb1, fun τ' rE' l' a' => ⟨σ2, φ, ds, σ', rE', m2, hb2, fun τ2 rE2 l2 a2 => k' τ2 rE2 (l2.trans l') fun i hi => ?_⟩⟩
          rw [tgSs, List.mem_append, not_or] at hi
          rw [a2 i hi.2, a' i hi.1]
end
end
end Ev
set_option Elab.async false
set_option linter.all false
set_option maxRecDepth 100000
set_option autoImplicit false
set_option maxHeartbeats 1000000
/-! Ev, part K: what is gone through. -/
namespace Ev
open PySem L2
section
variable {g : G} {N : List Str} {k : Nat} {sc : Scope} {W : WX} {X : Cx} {cx : Cxt} {tg : Expr}
def WalkOk (g : G) (H0 : Hp) (φ0 : List Addr) (items : List D) (gd : Store → Bool) (J : L2.It) : Prop :=
  Walk J items.length (fun H1 => ∃ S φ1, Rel g H1 φ1 S ∧ gd S = true ∧ Ext g H0 φ0 H1 φ1)
    (fun i H1 x H2 => ∀ S φ1, Rel g H1 φ1 S → gd S = true → Ext g H0 φ0 H1 φ1 → Ext g H1 φ1 H2 φ1 ∧ Rel g H2 φ1 S ∧ ∃ d, items[i]? = some d ∧ Em g H2 φ1 d x)
def rIt (g : G) (W : WX) (ik : Ik) (m : Ev.Env → Store → R (List T)) : TI := fun τ H R => ∃ σ S φ, Rel g H φ S ∧ RelE g H φ σ τ ∧
  Post g W H φ τ (fun ts S' H' φ' => ∃ p, iterOf S' ik ts = some p ∧ ∀ J, WalkOk g H' φ' p.1 p.2 J → p.1.length ≤ sizeLine → R J H') (m σ S)
theorem PIimp {e : Expr} {t t' : TI} (h : PI X tg e t) (k : ∀ τ H R, t' τ H R → t τ H R) : PI X tg e t' := ⟨fun pins s τ H R I q => h.run pins s τ H R I (k τ H R q)⟩
theorem walk_lst {H0 : Hp} {φ0 : List Addr} {items : List D} {gd : Store → Bool} {a : Addr} (h : ∀ H1 S φ1, Rel g H1 φ1 S → gd S = true → Ext g H0 φ0 H1 φ1 → ∃ vs, SqL g.K H1 a vs ∧ Ems g H1 φ1 items vs) : WalkOk g H0 φ0 items gd (Itl g.K a) := by
  refine ⟨fun i H1 hi ⟨S, φ1, r, hg, e⟩ => ?_, fun H1 ⟨S, φ1, r, hg, e⟩ => ?_, fun i H1 x H2 hi _ y S φ1 r hg e => ?_⟩
  · obtain ⟨vs, h1, h2⟩ := h H1 S φ1 r hg e
    have hl : i < vs.length := by rw [← h2.length]; exact hi
    exact ⟨vs, vs[i], h1, by simp [hl]⟩
  · obtain ⟨vs, h1, h2⟩ := h H1 S φ1 r hg e
    exact ⟨vs, h1, by rw [h2.length]; exact Nat.le_refl _⟩
  · obtain ⟨y1, y2⟩ := y
    subst y1
    obtain ⟨vs, h1, h2⟩ := h _ S φ1 r hg e
    obtain ⟨v, h3, h4⟩ := h2.get (List.getElem?_eq_getElem hi)
    have h5 := y2 vs h1
    rw [h3] at h5
    cases h5
    exact ⟨Ext.refl, r, _, List.getElem?_eq_getElem hi, h4⟩
theorem walk_tpl {H0 : Hp} {φ0 : List Addr} {items : List D} {vs : List V} {gd : Store → Bool} {a : Addr} (h1 : SqT g.K H0 a vs) (h2 : Ems g H0 φ0 items vs) : WalkOk g H0 φ0 items gd (Itt g.K a) := by
  have w := walk_tup (K := g.K) (a := a) (xs := vs)
  rw [← h2.length] at w
  refine Walk.mono w (fun H1 ⟨S, φ1, r, hg, e⟩ => e.tup a vs h1) fun i H1 x H2 hi _ y S φ1 r hg e => ?_
  obtain ⟨y1, y2⟩ := y
  subst y1
  obtain ⟨v, h3, h4⟩ := h2.get (List.getElem?_eq_getElem hi)
  rw [h3] at y2
  cases y2
  exact ⟨Ext.refl, r, _, List.getElem?_eq_getElem hi, h4.ext e.toLe⟩
theorem walk_rng {H0 : Hp} {φ0 : List Addr} {gd : Store → Bool} {lo : Int} {n : Nat} : WalkOk g H0 φ0 ((List.range n).map fun (i : Nat) => .int (lo + (i : Int))) gd (Itr lo n) := by
  unfold WalkOk
  rw [List.length_map, List.length_range]
  refine Walk.mono walk_range (fun _ _ => trivial) fun i H1 x H2 hi _ y S φ1 r hg e => ?_
  obtain ⟨y1, y2⟩ := y
  subst y1 y2
  exact ⟨Ext.refl, r, _, by simp [hi], .int _⟩
theorem walk_rng3 {H0 : Hp} {φ0 : List Addr} {gd : Store → Bool} {lo c : Int} {n : Nat} : WalkOk g H0 φ0 ((List.range n).map fun (i : Nat) => .int (lo + (i : Int) * c)) gd (Itc lo c n) := by
  unfold WalkOk
  rw [List.length_map, List.length_range]
  refine Walk.mono walk_rangeC (fun _ _ => trivial) fun i H1 x H2 hi _ y S φ1 r hg e => ?_
  obtain ⟨y1, y2⟩ := y
  subst y1 y2
  exact ⟨Ext.refl, r, _, by simp [hi], .int _⟩
/-- a list or a tuple is gone through -/
def iSeq (K : PySem.W.Frag) (tl : TE) : TI := fun σ H R => tl σ H fun x H1 => ∃ a, x = .ref a ∧ ((∃ xs, SqL K H1 a xs ∧ (xs.length ≤ sizeLine → R (Itl K a) H1)) ∨ ∃ xs, SqT K H1 a xs ∧ (xs.length ≤ sizeLine → R (Itt K a) H1))
theorem pi_seq {l : Expr} {tl : TE} (hl : PE X l tl) : PI X tg l (iSeq X.K tl) := by
  refine ⟨fun pins s σ H R I h => ?_⟩
  refine thn (hl.run pins s σ H _ I h) fun v s1 ⟨x, H1, I1, r1, q1⟩ => ?_
  obtain ⟨a, e, q⟩ := q1
  subst e
  cases r1
  rcases q with ⟨xs, hq, q⟩ | ⟨xs, hq, q⟩
  · obtain ⟨its, rv, p, hz⟩ := I1.list hq
    refine wpAny_pyIter_list p.isList ?_
    refine ⟨s1.heap.objs.size, [s1.heap.objs.size], _, _, H1, rfl, I1.kept (t' := s1.toks) fun b o e => Heap.get?_push_of_some _ e, turn_list a _, ⟨_, Heap.get?_push_size _ rfl, rfl, rfl⟩, fun b hb => ?_, q hz⟩
    have e : b = s1.heap.objs.size := by simpa using hb
    subst e
    exact I1.fpOk (Nat.le_refl _) (I1.hok.fresh (Nat.le_refl _))
  · obtain ⟨its, rv, p, hz⟩ := I1.tuple hq
    refine wpAny_pyIter_tuple (show s1.heap.IsTuple a its.toArray from p) ?_
    refine ⟨s1.heap.objs.size, [s1.heap.objs.size], _, _, H1, rfl, I1.kept (t' := s1.toks) fun b o e => Heap.get?_push_of_some _ e, turn_tuple a _, ⟨_, Heap.get?_push_size _ rfl, rfl, rfl⟩, fun b hb => ?_, q hz⟩
    have e : b = s1.heap.objs.size := by simpa using hb
    subst e
    exact I1.fpOk (Nat.le_refl _) (I1.hok.fresh (Nat.le_refl _))
theorem bind_ok {α : Type} (r : R α) : r.bind (fun a S => .ok a S) = r := by cases r <;> rfl
theorem it_seq {e : Expr} {e' : Ex} (x : XOk g N k sc W X) (h : PE X e (tE g W (den cx e').e)) : PI X tg e (rIt g W .seq (dens cx [e'])) := by
  refine PIimp (pi_seq h) ?_
  rintro τ H R ⟨σ, S, φ, r, rE, p⟩
  rw [← bind_ok (dens cx [e'] σ S), dens1] at p
  refine use_e r rE Ext.refl p fun t1 S1 H1 φ1 v1 e1 r1 m1 f1 p1 => ?_
  obtain ⟨⟨items, gd⟩, hi, k⟩ := p1 H1 φ1 e1 r1
  simp only at k
  cases t1 with
  | v d =>
    cases d with
    | tup ds =>
      cases hi
      cases m1 with
      | tup h1 h2 => exact ⟨_, rfl, .inr ⟨_, by rw [x.K]; exact h1, fun hz => by rw [x.K]; exact k _ (walk_tpl h1 h2) (by rw [h2.length]; exact hz)⟩⟩
    | ref n =>
      obtain ⟨ds, hd, hq⟩ := opt_map (show (lstR S1 (.v (.ref n))).map (fun ds => (ds, fun S' : Store => decide (S'[n]? = S1[n]?))) = some (items, gd) from hi)
      cases hq
      obtain ⟨p, vs, rfl, h1, h2⟩ := TEm.lstR (t := .v (.ref n)) r1 m1 hd
      have w : WalkOk g H1 φ1 items (fun S' : Store => decide (S'[n]? = S1[n]?)) (Itl g.K p) := walk_lst fun H2 S2 φ2 r2 g2 e2 => by
        have g2' : S2[n]? = S1[n]? := of_decide_eq_true g2
        have hd2 : lstR S2 (.v (.ref n)) = some items := by
          show (match (S2[n]?).map unlk with | some (.lst ds) => some ds | _ => none) = some items
          rw [g2']
          exact hd
        cases m1 with
        | ref hn =>
          obtain ⟨p', vs', hp', h3, h4⟩ := TEm.lstR (t := .v (.ref n)) (v := .ref p) r2 (.ref (e2.pre _ _ hn)) hd2
          cases hp'
          exact ⟨vs', h3, h4⟩
      exact ⟨p, rfl, .inl ⟨vs, by rw [x.K]; exact h1, fun hz => by rw [x.K]; exact k _ w (by rw [h2.length]; exact hz)⟩⟩
    | _ => cases hi
  | t o =>
    cases o with
    | lst ds =>
      cases hi
      obtain ⟨p, ho, rfl, h1, h2, vs, rfl, h3⟩ := m1
      have w : WalkOk g H1 φ1 items (fun _ : Store => true) (Itl g.K p) := walk_lst fun H2 S2 φ2 r2 g2 e2 => ⟨vs, SqL.of (e2.out p _ h1 h2).1, h3.ext e2.toLe⟩
      exact ⟨p, rfl, .inl ⟨vs, SqL.of h1, fun hz => by rw [x.K]; exact k _ w (by rw [h3.length]; exact hz)⟩⟩
    | _ => cases hi
theorem sizeLine_num : (sizeLine : Nat) = 16777216 := sizeLine_eq
theorem it_rng1 {a : Expr} {a' : Ex} {p pos : Pos} (x : XOk g N k sc W X) (G : GOk g cx) (hg : glC sc "range" = true) (hs : isStar a = false) (h : PE X a (tE g W (den cx a').e)) : PI X tg (.Call (.Name "range" p) [a] [] pos) (rIt g W .rng (dens cx [a'])) := by
  refine PIimp (pi_range1 (x.gl hg) (by rw [x.mg]; exact G.blt_ _ (by decide +kernel)) (pa_cons h pa_nil (starE hs)) (starE hs)) ?_
  rintro τ H R ⟨σ, S, φ, r, rE, p⟩
  rw [← bind_ok (dens cx [a'] σ S), dens1] at p
  refine use_e r rE Ext.refl p fun t1 S1 H1 φ1 v1 e1 r1 m1 f1 p1 => ?_
  obtain ⟨q, hi, k⟩ := p1 H1 φ1 e1 r1
  cases t1 with
  | t _ => cases hi
  | v d =>
    cases d with
    | int j =>
      replace hi : (if -(2 ^ 62) ≤ j ∧ j ≤ 16777216 then some ((List.range j.toNat).map fun (i : Nat) => D.int (0 + (i : Int)), fun _ : Store => true) else none) = some q := hi
      split at hi
      · rename_i hj
        cases hi
        cases m1
        exact ⟨j, rfl, hj.1, by omega, k _ walk_rng (by rw [List.length_map, List.length_range, sizeLine_num]; omega)⟩
      · cases hi
    | _ => cases hi
theorem it_rng2 {a b : Expr} {a' b' : Ex} {p pos : Pos} (x : XOk g N k sc W X) (G : GOk g cx) (hg : glC sc "range" = true) (hs : isStar a = false) (hs2 : isStar b = false) (h : PE X a (tE g W (den cx a').e)) (h2 : PE X b (tE g W (den cx b').e)) :
    PI X tg (.Call (.Name "range" p) [a, b] [] pos) (rIt g W .rng (dens cx [a', b'])) := by
  refine PIimp (pi_range2 (x.gl hg) (by rw [x.mg]; exact G.blt_ _ (by decide +kernel)) (pa_cons h (pa_cons h2 pa_nil (starE hs2)) (starE hs)) (by rw [starE hs, starE hs2]; rfl) (starE hs2)) ?_
  rintro τ H R ⟨σ, S, φ, r, rE, p⟩
  rw [← bind_ok (dens cx [a', b'] σ S), dens2] at p
  refine use_e r rE Ext.refl p fun t1 S1 H1 φ1 v1 e1 r1 m1 f1 p1 => ?_
  refine use_e r1 (rE.ext e1) e1 p1 fun t2 S2 H2 φ2 v2 e2 r2 m2 f2 p2 => ?_
  obtain ⟨q, hi, k⟩ := p2 H2 φ2 (e1.trans e2) r2
  cases t1 with
  | t _ => cases t2 <;> cases hi
  | v d =>
    cases t2 with
    | t _ => cases d <;> cases hi
    | v d2 =>
      cases d with
      | int i =>
        cases d2 with
        | int j =>
          replace hi : (if -(2 ^ 62) ≤ i ∧ i < 2 ^ 62 ∧ -(2 ^ 62) ≤ j ∧ j < 2 ^ 62 ∧ j - i ≤ 16777216 then some ((List.range (j - i).toNat).map fun (m : Nat) => D.int (i + (m : Int)), fun _ : Store => true) else none) = some q := hi
          split at hi
          · rename_i hj
            cases hi
            cases m1
            cases m2
            exact ⟨i, j, rfl, ⟨hj.1, hj.2.1, hj.2.2.1, hj.2.2.2.1⟩, k _ walk_rng (by rw [List.length_map, List.length_range, sizeLine_num]; omega)⟩
          · cases hi
        | _ => cases hi
      | _ => cases d2 <;> cases hi
theorem it_rng3 {a b c : Expr} {a' b' c' : Ex} {p pos : Pos} (x : XOk g N k sc W X) (G : GOk g cx) (hg : glC sc "range" = true) (hs : isStar a = false) (hs2 : isStar b = false) (hs3 : isStar c = false) (h : PE X a (tE g W (den cx a').e)) (h2 : PE X b (tE g W (den cx b').e)) (h3 : PE X c (tE g W (den cx c').e)) :
    PI X tg (.Call (.Name "range" p) [a, b, c] [] pos) (rIt g W .rng (dens cx [a', b', c'])) := by
  refine PIimp (pi_range3 (x.gl hg) (by rw [x.mg]; exact G.blt_ _ (by decide +kernel)) (pa_cons h (pa_cons h2 (pa_cons h3 pa_nil (starE hs3)) (starE hs2)) (starE hs)) (starE hs) (starP (by simp [hs2, hs3]))) ?_
  rintro τ H R ⟨σ, S, φ, r, rE, p⟩
  rw [← bind_ok (dens cx [a', b', c'] σ S), dens3] at p
  refine use_e r rE Ext.refl p fun t1 S1 H1 φ1 v1 e1 r1 m1 f1 p1 => ?_
  refine use_e r1 (rE.ext e1) e1 p1 fun t2 S2 H2 φ2 v2 e2 r2 m2 f2 p2 => ?_
  refine use_e r2 (rE.ext (e1.trans e2)) (e1.trans e2) p2 fun t3 S3 H3 φ3 v3 e3 r3 m3 f3 p3 => ?_
  obtain ⟨q, hi, k⟩ := p3 H3 φ3 ((e1.trans e2).trans e3) r3
  have main : ∀ i j c : Int, t1 = .v (.int i) → t2 = .v (.int j) → t3 = .v (.int c) → tNil τ H3 fun xs H4 => ∃ (i j c : Int) (n : Nat), (v1 :: v2 :: v3 :: xs) = [.int i, .int j, .int c] ∧ RgC i j c n ∧ R (Itc i c n) H4 := by
    rintro i j c rfl rfl rfl
    replace hi : (if -(2 ^ 62) ≤ i ∧ i < 2 ^ 62 ∧ -(2 ^ 62) ≤ j ∧ j < 2 ^ 62 ∧ c = -1 ∧ i - j ≤ 16777216 then some ((List.range (i - j).toNat).map fun (m : Nat) => D.int (i + (m : Int) * c), fun _ : Store => true) else none) = some q := hi
    split at hi
    · rename_i hj
      cases hi
      cases m1
      cases m2
      cases m3
      obtain ⟨h1, h2, h3, h4, h5, h6⟩ := hj
      subst h5
      exact ⟨i, j, -1, _, rfl, RgC.neg h1 h2 h3 h4, k _ walk_rng3 (by rw [List.length_map, List.length_range, sizeLine_num]; omega)⟩
    · cases hi
  cases t1 with
  | t _ => cases t2 <;> cases t3 <;> cases hi
  | v d =>
    cases t2 with
    | t _ => cases d <;> cases t3 <;> cases hi
    | v d2 =>
      cases t3 with
      | t _ => cases d <;> cases d2 <;> cases hi
      | v d3 =>
        cases d with
        | int i =>
          cases d2 with
          | int j =>
            cases d3 with
            | int c => exact main i j c rfl rfl rfl
            | _ => cases hi
          | _ => cases d3 <;> cases hi
        | _ => cases d2 <;> cases d3 <;> cases hi
/-- whatever a for or a comprehension goes through -/
theorem s_it {c : Expr → Option Ex} (x : XOk g N k sc W X) (G : GOk g cx) (hc : ∀ e e', c e = some e' → PB g W X e (den cx e')) {e : Expr} {p : Ik × List Ex} (h : cIt g.T c sc e = some p) : PI X tg e (rIt g W p.1 (dens cx p.2)) := by
  have plain : ∀ e p, (c e).map (fun x => (Ik.seq, [x])) = some p → PI X tg e (rIt g W p.1 (dens cx p.2)) := by
    intro e p h
    obtain ⟨e', h1, rfl⟩ := opt_map h
    exact it_seq x (hc e e' h1).1
  unfold cIt at h
  split at h
  · rename_i f p0 args pos
    split at h
    · rename_i hcond
      simp only [Bool.and_eq_true, Bool.not_eq_true'] at hcond
      obtain ⟨⟨⟨⟨hg, _⟩, _⟩, _⟩, hs⟩ := hcond
      split at h
      · rename_i hf
        subst hf
        split at h
        · obtain ⟨a', h1, rfl⟩ := opt_map h
          simp at hs
          exact it_rng1 x G hg hs (hc _ _ h1).1
        · obtain ⟨a', h1, h⟩ := opt_bind h
          obtain ⟨b', h2, rfl⟩ := opt_map h
          simp at hs
          exact it_rng2 x G hg hs.1 hs.2 (hc _ _ h1).1 (hc _ _ h2).1
        · obtain ⟨a', h1, h⟩ := opt_bind h
          obtain ⟨b', h2, h⟩ := opt_bind h
          obtain ⟨c', h3, rfl⟩ := opt_map h
          simp at hs
          exact it_rng3 x G hg hs.1 hs.2.1 hs.2.2 (hc _ _ h1).1 (hc _ _ h2).1 (hc _ _ h3).1
        · cases h
      · exact plain _ _ h
    · exact plain _ _ h
  · exact plain _ _ h
end
end Ev
set_option Elab.async false
set_option linter.all false
set_option maxRecDepth 100000
set_option autoImplicit false
set_option maxHeartbeats 1000000
/-! Ev, part L: comprehensions; the theorem for expressions. -/
namespace Ev
open PySem L2
abbrev WF : WX := fun _ _ _ _ => False
theorem R.map_map {α β γ : Type} (r : R α) (f : α → β) (h : β → γ) : (r.map f).map h = r.map fun a => h (f a) := by cases r <;> rfl
theorem R.map_id' {α : Type} (r : R α) : (r.map fun a => a) = r := by cases r <;> rfl
section
variable {g : G} {N : List Str} {k : Nat} {sc : Scope} {W : WX} {X : Cx} {cx : Cxt}
/-- what is still to come of a comprehension -/
def Pc (g : G) (W : WX) (H : Hp) (φ : List Addr) (τ : St) (Q : VK) (fin : List D → Store → R T) (r : R (List D)) : Prop := Post g W H φ τ (KE g H Q) (r.nox.bind fin)
theorem piece {H H' : Hp} {φ φ' : List Addr} {τ τ' : St} {Q : VK} {fin : List D → Store → R T} {α : Type} {r : R α} {f : α → Store → R (List D)} {acc : List D} (p : Pc g W H φ τ Q fin ((r.bind f).map (acc ++ ·))) : Post g WF H' φ' τ' (fun a S1 _ _ => Pc g W H φ τ Q fin ((f a S1).map (acc ++ ·))) r := by
  cases r with
  | ok a S => exact fun _ _ _ _ => p
  | ex c dd S => exact (show False from p).elim
  | bad => exact p
theorem Pc.gd {H : Hp} {φ : List Addr} {τ : St} {Q : VK} {fin : List D → Store → R T} {bnd : D → Ev.Env → Option Ev.Env} {tst : Ev.Env → Store → R Bool} {el : Ev.Env → Store → R D} {gd : Store → Bool} {σ : Ev.Env} {items : List D} {S : Store} {f : List D → List D} (p : Pc g W H φ τ Q fin ((lcL bnd tst el gd σ items S).map f)) : gd S = true := by
  by_cases h : gd S = true
  · exact h
  · cases items with
    | nil =>
      unfold lcL at p
      rw [if_neg h] at p
      exact (show False from p).elim
    | cons d ds =>
      unfold lcL at p
      rw [if_neg h] at p
      exact (show False from p).elim
theorem wipe_off : ∀ (vs : List Nat) (j : Nat), j ∉ vs → ∀ τ : St, (L2.wipe τ vs)[j]? = τ[j]?
  | [], _, _, _ => rfl
  | v :: vs, j, hj, τ => by
    rw [List.mem_cons, not_or] at hj
    unfold L2.wipe
    rw [List.getElem?_set_ne (Ne.symm hj.1)]
    exact wipe_off vs j hj.2 τ
theorem nodup_app {α : Type} {l : List α} {a : α} (nd : l.Nodup) (hn : a ∉ l) : (l ++ [a]).Nodup := by
  rw [List.nodup_append]
  refine ⟨nd, by simp, fun x hx b hb => ?_⟩
  have : b = a := by simpa using hb
  subst this
  exact fun e => hn (e ▸ hx)
/-- the loop of a comprehension, from its first turn on -/
theorem lc_loop {t : Tg} {cs : List Ex} {el : Ex} {vs : List Nat} {σ : Ev.Env} {τ : St} {H H1 : Hp} {φ φ1 : List Addr} {S1 : Store} {items : List D} {gd : Store → Bool} {J : L2.It} {Q Q' : VK} {fin : List D → Store → R T} {D : Addr} (hsub : ∀ i ∈ tgS t, i ∈ vs)
    (rE : RelE g H φ σ τ) (e1 : Ext g H φ H1 φ1) (r1 : Rel g H1 φ1 S1) (p1 : Pc g W H φ τ Q fin (lcL (bindT t) (dent cx cs) (fun σ S => ((den cx el).e σ S).alloc) gd (wipeE σ vs) items S1)) (w : WalkOk g H1 φ1 items gd J) (hz : items.length ≤ sizeLine) (hD : H1 D = none)
    (stop : ∀ ds Sc Hc φc ws, Ext g H1 φ1 Hc φc → Rel g Hc φc Sc → Hc D = some (.lst ws) → D ∉ φc → Ems g Hc φc ds ws → Post g W H φ τ (KE g H Q) (fin ds Sc) → Q' (.ref D) Hc) :
    ∃ Z : Nat → Nat → Hp → Prop, (∃ m, Z 0 m (upd H1 D (.lst []))) ∧ ∀ i m Ha, Z i m Ha →
      (J.stop i Ha ∧ Q' (.ref D) Ha) ∨ (J.go i Ha ∧ ∃ Aim : Hp → Prop, (∀ Hb, Aim Hb → ∃ m', m' < m ∧ Z (i + 1) m' Hb) ∧ ∀ x Hb, J.yld i Ha x Hb → rTg g t x (L2.wipe τ vs) Hb fun σ2 H2 => L2.wipe σ2 vs = L2.wipe τ vs ∧ tT g WF (dent cx cs) σ2 H2 fun b H3 =>
        if b = true then tE g WF (den cx el).e σ2 H3 fun y H4 => ∃ acc, H4 D = some (.lst acc) ∧ acc.length < sizeLine ∧ Aim (upd H4 D (.lst (acc ++ [y]))) else Aim H3) := by
  refine lc_it w (fun i Hc => ∃ Sc φc acc ws, Rel g Hc φc Sc ∧ Ext g H1 φ1 Hc φc ∧ Hc D = some (.lst ws) ∧ D ∉ φc ∧ Ems g Hc φc acc ws ∧ ws.length ≤ i ∧
    Pc g W H φ τ Q fin ((lcL (bindT t) (dent cx cs) (fun σ S => ((den cx el).e σ S).alloc) gd (wipeE σ vs) (items.drop i) Sc).map (acc ++ ·))) ?_ ?_ ?_ ?_
  · refine ⟨S1, φ1, [], [], r1.new hD, Ext.new hD, upd_same, r1.notin hD, .nil, Nat.le_refl _, ?_⟩
    rw [List.drop_zero]
    have : (fun x : List Ev.D => [] ++ x) = fun x => x := by funext x; rfl
    rw [this, R.map_id']
    exact p1
  · rintro i Hc hi ⟨Sc, φc, acc, ws, rc, ec, hd, hn, hm, hl, pc⟩
    exact ⟨Sc, φc, rc, Pc.gd pc, ec⟩
  · rintro i x Hc H' hi ⟨Sc, φc, acc, ws, rc, ec, hd, hn, hm, hl, pc⟩ y
    obtain ⟨eY, rY, d, hdi, mY⟩ := y Sc φc rc (Pc.gd pc) ec
    have hgd := Pc.gd pc
    have hdrop : items.drop i = d :: items.drop (i + 1) := by
      rw [List.drop_eq_getElem_cons hi]
      rw [List.getElem?_eq_getElem hi] at hdi
      rw [Option.some.inj hdi]
    rw [hdrop] at pc
    unfold lcL at pc
    rw [if_pos hgd] at pc
    split at pc
    · exact (show False from pc).elim
    rename_i σ' hb
    have rEw : RelE g H' φc (wipeE σ vs) (L2.wipe τ vs) := (rE.ext ((e1.trans ec).trans eY)).wipe vs
    refine ⟨wipeE σ vs, φc, d, σ', rEw, mY, hb, fun τ' rE' hl' ha' => ⟨?_, ?_⟩⟩
    · refine (wipe_agree vs hl' fun j hj => ha' j fun z => hj (hsub j z)).trans ?_
      exact wipe_agree vs (wipe_length τ vs) fun j hj => wipe_off vs j hj τ
    · refine ⟨σ', Sc, φc, rY, rE', Post.mono (piece pc) fun b S3 H3 φ3 e3 r3 p3 => ?_⟩
      obtain ⟨hdY, hnY⟩ := eY.out D _ hd hn
      obtain ⟨hd3, hn3⟩ := e3.out D _ hdY hnY
      have hm3 : Ems g H3 φ3 acc ws := (hm.ext eY.toLe).ext e3.toLe
      have ec3 : Ext g H1 φ1 H3 φ3 := (ec.trans eY).trans e3
      cases b with
      | false =>
        rw [if_neg Bool.false_ne_true] at p3 ⊢
        exact ⟨S3, φ3, acc, ws, r3, ec3, hd3, hn3, hm3, Nat.le_succ_of_le hl, p3⟩
      | true =>
        rw [if_pos rfl] at p3 ⊢
        rw [alloc_bind] at p3
        refine ⟨σ', S3, φ3, r3, rE'.ext e3, Post.mono (piece p3) fun tv S4 H4 φ4 e4 r4 p4 v m f => ?_⟩
        obtain ⟨φ5, e5, l5, r5, m5⟩ := alloc_ok e4 r4 m f
        obtain ⟨hd5, hn5⟩ := e5.out D _ hd3 hn3
        have lt : ws.length < sizeLine := by omega
        refine ⟨ws, hd5, lt, ?_⟩
        have le : Le g H4 φ5 (upd H4 D (.lst (ws ++ [v]))) φ5 := ⟨fun a xs h => SqT.updT h hd5 (fun _ z => nomatch z) (fun _ _ z => nomatch z), fun _ _ h => h, fun q d fs h => by
          rw [upd_ne (fun z => ?_)]
          · exact h
          · rw [z, hd5] at h
            exact nomatch (show HO.lst ws = HO.ext _ from Option.some.inj h)⟩
        have ne : ∀ a ∈ φ5, a ≠ D := fun a ha z => hn5 (z ▸ ha)
        have e15 : Ext g H1 φ1 H4 φ5 := ec3.trans e5
        refine ⟨_, φ5, acc ++ [(alloc tv S4).1], ws ++ [v], r5.step (fun a ha => upd_ne (ne a ha)) le, ⟨⟨fun a xs h => le.tup a xs (e15.tup a xs h), e15.pre, fun p d fs h => le.xd p d fs (e15.xd p d fs h)⟩, fun q o h hq => ?_, fun q h => ?_, fun q o h hq => by rw [upd_ne (ne_of_none hq hD)]; exact e15.frz q o h hq⟩, upd_same, hn5, ?_, ?_, ?_⟩
        · obtain ⟨k1, k2⟩ := e15.out q o h hq
          refine ⟨?_, k2⟩
          rw [upd_ne (ne_of_none h hD)]
          exact k1
        · by_cases hqD : q = D
          · subst hqD; exact hD
          · rw [upd_ne hqD] at h
            exact e15.dom q h
        · exact ((hm3.ext e5.toLe).append (.cons m5 .nil)).ext le
        · rw [List.length_append]
          show ws.length + 1 ≤ i + 1
          omega
        · rw [R.map_map] at p4
          have e : (fun xs : List Ev.D => (acc ++ [(alloc tv S4).1]) ++ xs) = fun a => acc ++ ((alloc tv S4).1 :: a) := by
            funext xs
            rw [List.append_assoc]
            rfl
          rw [e]
          exact p4
  · rintro Hc ⟨Sc, φc, acc, ws, rc, ec, hd, hn, hm, hl, pc⟩
    have hgd := Pc.gd pc
    rw [List.drop_length] at pc
    unfold lcL at pc
    rw [if_pos hgd] at pc
    replace pc : Post g W H φ τ (KE g H Q) (fin (acc ++ []) Sc) := pc
    rw [List.append_nil] at pc
    exact stop acc Sc Hc φc ws ec rc hd hn hm pc
theorem lc_read {t : Tg} {ik : Ik} {ia cs : List Ex} {el : Ex} {vs : List Nat} (hsub : ∀ i ∈ tgS t, i ∈ vs) (τ : St) (H : Hp) (Q : VK) {σ : Ev.Env} {S : Store} {φ : List Addr} (r : Rel g H φ S) (rE : RelE g H φ σ τ)
    (p : Post g W H φ τ (fun ts S1 _ _ => ∃ pr, iterOf S1 ik ts = some pr ∧ Pc g W H φ τ Q (fun ds S2 => .ok (.t (.lst ds)) S2) (lcL (bindT t) (dent cx cs) (fun σ S => ((den cx el).e σ S).alloc) pr.2 (wipeE σ vs) pr.1 S1)) (dens cx ia σ S)) :
    tLc (rIt g W ik (dens cx ia)) (rTg g t) (tT g WF (dent cx cs)) (tE g WF (den cx el).e) vs τ H Q := by
  refine ⟨σ, S, φ, r, rE, Post.mono p fun ts S1 H1 φ1 e1 r1 p1 => ?_⟩
  obtain ⟨pr, hpr, p1⟩ := p1
  refine ⟨pr, hpr, fun J w hz D hD => ?_⟩
  refine lc_loop hsub rE e1 r1 p1 w hz hD fun ds Sc Hc φc ws ec rc hd hn hm pc => ?_
  exact pc Hc φc (e1.trans ec) rc (.ref D) ⟨D, .lst ws, rfl, hd, hn, ws, rfl, hm⟩ fun q hq => by
    cases hq
    exact e1.dom D hD
/-- no dict of a variable is gone through -/
theorem lc_readN {t : Tg} {ik : Ik} {ia cs : List Ex} {el : Ex} {vs : List Nat} (hsub : ∀ i ∈ tgS t, i ∈ vs) (hno : ∀ ts S, lockOf ik ia ts S = none) (τ : St) (H : Hp) (Q : VK) (h : tE g W (den cx (.lc t ik ia cs el vs)).e τ H Q) :
    tLc (rIt g W ik (dens cx ia)) (rTg g t) (tT g WF (dent cx cs)) (tE g WF (den cx el).e) vs τ H Q := by
  obtain ⟨σ, S, φ, r, rE, p⟩ := h
  replace p : Post g W H φ τ (KE g H Q) ((dens cx ia σ S).bind fun ts S' => match iterOf S' ik ts with
      | none => lckR (lockOf ik ia ts S') (fun S'' gd ds => lcL (bindT t) (dent cx cs) (fun σ S => ((den cx el).e σ S).alloc) gd (wipeE σ vs) ds S'') S'
      | some p => (lcL (bindT t) (dent cx cs) (fun σ S => ((den cx el).e σ S).alloc) p.2 (wipeE σ vs) p.1 S').nox.bind fun ds S2 => .ok (.t (.lst ds)) S2) := p
  refine lc_read hsub τ H Q r rE (Post.mono (Post.bnd p) fun ts S1 H1 φ1 e1 r1 p1 => ?_)
  split at p1
  · rw [hno] at p1
    exact (show False from p1).elim
  · rename_i pr hpr
    exact ⟨pr, hpr, p1⟩
theorem keyD_Em {H : Hp} {φ : List Addr} : ∀ q : L2.Key, Em g H φ (keyD q) (kV q)
  | .inl i => .int i
  | .inr x => .str x
theorem walk_dk {H0 : Hp} {φ0 : List Addr} {kvs : List (L2.Key × D)} {ws : List (L2.Key × V)} {gd : Store → Bool} {a : Addr} {od : Obj} (h : H0 a = some (.frz od (.dK ws))) (hk : ws.map (·.1) = kvs.map (·.1)) : WalkOk g H0 φ0 (kvs.map fun kv => keyD kv.1) gd (Itk a od ws) := by
  have w := walk_keys (d := a) (o := od) (kvs := ws)
  have e : (kvs.map fun kv => keyD kv.1) = ws.map fun kv => keyD kv.1 := by
    have e1 : (kvs.map fun kv => keyD kv.1) = (kvs.map (·.1)).map keyD := by simp
    have e2 : (ws.map fun kv => keyD kv.1) = (ws.map (·.1)).map keyD := by simp
    rw [e1, e2, hk]
  rw [e]
  have hl : ws.length = (ws.map fun kv => keyD kv.1).length := by simp
  unfold WalkOk
  rw [← hl]
  refine Walk.mono w (fun H1 ⟨S, φ1, r, hg, e⟩ => e.frz a od _ h) fun i H1 x H2 hi _ y S φ1 r hg e => ?_
  obtain ⟨y1, q, v, y2, y3⟩ := y
  subst y1 y3
  exact ⟨Ext.refl, r, keyD q, by rw [List.getElem?_map, y2]; rfl, keyD_Em q⟩
/-- .. or one, which is locked meanwhile -/
theorem lc_readK {t : Tg} {cs : List Ex} {el : Ex} {vs : List Nat} {i : Nat} (hsub : ∀ i ∈ tgS t, i ∈ vs) (τ : St) (H : Hp) (Q : VK) (h : tE g W (den cx (.lc t .seq [.var i] cs el vs)).e τ H Q) :
    tLc (rIt g W .seq (dens cx [.var i])) (rTg g t) (tT g WF (dent cx cs)) (tE g WF (den cx el).e) vs τ H Q ∨ tLockE (tLc (iKeys (tE g W (den cx (.var i)).e)) (rTg g t) (tT g WF (dent cx cs)) (tE g WF (den cx el).e) vs) τ H Q := by
  obtain ⟨σ, S, φ, r, rE, p⟩ := h
  replace p : Post g W H φ τ (KE g H Q) ((dens cx [.var i] σ S).bind fun ts S' => match iterOf S' .seq ts with
      | none => lckR (lockOf .seq [.var i] ts S') (fun S'' gd ds => lcL (bindT t) (dent cx cs) (fun σ S => ((den cx el).e σ S).alloc) gd (wipeE σ vs) ds S'') S'
      | some p => (lcL (bindT t) (dent cx cs) (fun σ S => ((den cx el).e σ S).alloc) p.2 (wipeE σ vs) p.1 S').nox.bind fun ds S2 => .ok (.t (.lst ds)) S2) := p
  have hv : dens cx [.var i] σ S = (ofO S ((σ[i]?.join).map T.v)).bind fun t S1 => .ok [t] S1 := rfl
  cases hd : σ[i]?.join with
  | none =>
    rw [hv, hd] at p
    exact (show False from p).elim
  | some d =>
    have hv1 : dens cx [.var i] σ S = .ok [.v d] S := by rw [hv, hd]; rfl
    rw [hv1] at p
    replace p : Post g W H φ τ (KE g H Q) (match iterOf S .seq [.v d] with
      | none => lckR (lockOf .seq [.var i] [.v d] S) (fun S'' gd ds => lcL (bindT t) (dent cx cs) (fun σ S => ((den cx el).e σ S).alloc) gd (wipeE σ vs) ds S'') S
      | some p => (lcL (bindT t) (dent cx cs) (fun σ S => ((den cx el).e σ S).alloc) p.2 (wipeE σ vs) p.1 S).nox.bind fun ds S2 => .ok (.t (.lst ds)) S2) := p
    split at p
    · -- locked
      right
      cases hq : lockOf .seq [.var i] [.v d] S with
      | none =>
        rw [hq] at p
        exact (show False from p).elim
      | some pr =>
        obtain ⟨n, kvs⟩ := pr
        rw [hq] at p
        have hdn : d = .ref n ∧ S[n]? = some (.dK kvs) ∧ kvs.length ≤ 4096 := by
          cases d with
          | ref m =>
            unfold lockOf at hq
            simp only at hq
            split at hq
            · rename_i kvs' hs
              split at hq
              · rename_i hl
                cases hq
                exact ⟨rfl, hs, hl⟩
              · cases hq
            · cases hq
          | _ => cases hq
        obtain ⟨rfl, hs, hl⟩ := hdn
        replace p : Pc g W H φ τ Q (fun ds S2 => if S2[n]? = some (.lk (.dK kvs)) then .ok (.t (.lst ds)) (S2.set n (.dK kvs)) else .bad) (lcL (bindT t) (dent cx cs) (fun σ S => ((den cx el).e σ S).alloc) (fun S' => decide (S'[n]? = some (.lk (.dK kvs)))) (wipeE σ vs) (kvs.map fun kv => keyD kv.1) (S.set n (.lk (.dK kvs)))) := p
        obtain ⟨a, ho, h1, h2, hm⟩ := r.at_ n _ hs rfl
        obtain ⟨ws, rfl, k1, k2⟩ := id hm
        refine ⟨a, .dK ws, h2, trivial, fun od => ?_⟩
        have e0 : Ext g H φ (upd H a (.frz od (.dK ws))) φ := Ext.put r h1 h2 hm (fun _ z => nomatch z)
        have r0 : Rel g (upd H a (.frz od (.dK ws))) φ (S.set n (.lk (.dK kvs))) := Rel.put r hs h1 h2 hm ⟨od, .dK ws, rfl, hm⟩
        have hσ : (S.set n (.lk (.dK kvs)))[n]? = some (.lk (.dK kvs)) := List.getElem?_set_self (List.getElem?_eq_some_iff.mp hs).1
        refine ⟨σ, S.set n (.lk (.dK kvs)), φ, r0, rE.ext e0, ?_⟩
        have hden : (den cx (.var i)).e σ (S.set n (.lk (.dK kvs))) = .ok (.v (.ref n)) (S.set n (.lk (.dK kvs))) := by
          show ofO _ ((σ[i]?.join).map T.v) = _
          rw [hd]
          rfl
        rw [hden]
        intro H1 φ1 e1 r1 v m1 f1
        cases m1 with
        | ref hn =>
          rw [e1.pre n a h1] at hn
          cases hn
          have hf : H1 a = some (.frz od (.dK ws)) := e1.frz a od _ upd_same
          refine ⟨a, od, rfl, .inl ⟨ws, hf, fun D hD => ?_⟩⟩
          refine lc_loop (Q' := fun v H' => H' a = some (.frz od (.dK ws)) ∧ Q v (upd H' a (.dK ws))) hsub rE (e0.trans e1) r1 p (walk_dk hf k1) (by rw [List.length_map, sizeLine_num]; omega) hD fun ds Sc Hc φc ys ec rc hdc hnc hmc pc => ?_
          split at pc
          · rename_i hlk
            have hf' : Hc a = some (.frz od (.dK ws)) := ec.frz a od _ hf
            obtain ⟨a', ho', q1, q2, q3⟩ := rc.at_ n _ hlk rfl
            rw [ec.pre n a (e1.pre n a h1)] at q1
            cases q1
            rw [hf'] at q2
            cases q2
            obtain ⟨ob, ho2, q4, q5⟩ := id q3
            cases q4
            have am : a ∈ φc := List.mem_of_getElem? (ec.pre n a (e1.pre n a h1))
            have hDa : D ≠ a := fun z => hnc (z ▸ am)
            have up : Le g Hc φc (upd Hc a (.dK ws)) φc := Le.put hf' q3
            have all : Ext g H φ Hc φc := e0.trans (e1.trans ec)
            refine ⟨hf', ?_⟩
            refine pc (upd Hc a (.dK ws)) φc ⟨(all.toLe).trans up, fun q o z zn => ?_, fun q z => ?_, fun q o u z => ?_⟩ (Rel.put rc hlk (ec.pre n a (e1.pre n a h1)) hf' q3 q5) (.ref D) ⟨D, .lst ys, rfl, by rw [upd_ne hDa]; exact hdc, hnc, ys, rfl, hmc.ext up⟩ fun q hq => ?_
            · obtain ⟨z1, z2⟩ := all.out q o z zn
              refine ⟨?_, z2⟩
              rw [upd_ne (fun e => by subst e; exact zn (List.mem_of_getElem? h1))]
              exact z1
            · by_cases e : q = a
              · subst e; rw [upd_same] at z; cases z
              · rw [upd_ne e] at z; exact all.dom q z
            · rw [upd_ne (fun e => ?_)]
              · exact all.frz q o u z
              · subst e; rw [h2] at z; cases z
            · cases hq
              exact e0.dom D (e1.dom D hD)
          · exact (show False from pc).elim
    · rename_i pr hpr
      left
      refine lc_read hsub τ H Q r rE ?_
      rw [hv1]
      exact fun H1 φ1 e1 r1 => ⟨pr, hpr, p⟩
/-- what is still to come of a dict comprehension -/
def Po (g : G) (W : WX) (H : Hp) (φ : List Addr) (τ : St) (Q : VK) (r : R O) : Prop := Post g W H φ τ (KE g H Q) (r.nox.bind fun o S2 => .ok (.t o) S2)
theorem pieceO {H H' : Hp} {φ φ' : List Addr} {τ τ' : St} {Q : VK} {α : Type} {r : R α} {f : α → Store → R O} (p : Po g W H φ τ Q (r.bind f)) : Post g WF H' φ' τ' (fun a S1 _ _ => Po g W H φ τ Q (f a S1)) r := by
  cases r with
  | ok a S => exact fun _ _ _ _ => p
  | ex c dd S => exact (show False from p).elim
  | bad => exact p
theorem Po.gd {H : Hp} {φ : List Addr} {τ : St} {Q : VK} {bnd : D → Ev.Env → Option Ev.Env} {tst : Ev.Env → Store → R Bool} {ke ve : Ev.Env → Store → R D} {gd : Store → Bool} {σ : Ev.Env} {items : List D} {o : O} {S : Store} (p : Po g W H φ τ Q (dcL bnd tst ke ve gd σ items o S)) : gd S = true := by
  by_cases h : gd S = true
  · exact h
  · cases items with
    | nil =>
      unfold dcL at p
      rw [if_neg h] at p
      exact (show False from p).elim
    | cons d ds =>
      unfold dcL at p
      rw [if_neg h] at p
      exact (show False from p).elim
theorem putK_HOm {κ : Type} [DecidableEq κ] {H : Hp} {φ : List Addr} {kvs : List (κ × D)} {ws : List (κ × V)} {q : κ} {d : D} {v : V} (h1 : ws.map (·.1) = kvs.map (·.1)) (h2 : Ems g H φ (kvs.map (·.2)) (ws.map (·.2))) (hm : Em g H φ d v) :
    (putK ws q v).map (·.1) = (putD kvs q d).map (·.1) ∧ Ems g H φ ((putD kvs q d).map (·.2)) ((putK ws q v).map (·.2)) := by
  have ha := any_key q h1
  unfold putK putD
  rw [ha]
  split
  · refine ⟨?_, ?_⟩
    · have e1 : (ws.map fun kv => if kv.1 = q then (kv.1, v) else kv).map (·.1) = ws.map (·.1) := by
        rw [List.map_map]
        exact List.map_congr_left fun kv _ => by show (if kv.1 = q then (kv.1, v) else kv).1 = kv.1; split <;> rfl
      have e2 : (kvs.map fun kv => if kv.1 = q then (kv.1, d) else kv).map (·.1) = kvs.map (·.1) := by
        rw [List.map_map]
        exact List.map_congr_left fun kv _ => by show (if kv.1 = q then (kv.1, d) else kv).1 = kv.1; split <;> rfl
      exact e1.trans (h1.trans e2.symm)
    · rename_i hx
      clear hx ha
      induction kvs generalizing ws with
      | nil =>
        cases ws with
        | nil => exact .nil
        | cons _ _ => cases h1
      | cons x kvs ih =>
        cases ws with
        | nil => cases h1
        | cons w ws =>
          simp only [List.map_cons, List.cons.injEq] at h1 h2 ⊢
          cases h2 with
          | cons m1 m2 =>
            refine .cons ?_ (ih h1.2 m2)
            rw [h1.1]
            split
            · exact hm
            · exact m1
  · simp only [List.map_append, List.map_cons, List.map_nil]
    exact ⟨by rw [h1], h2.append (.cons hm .nil)⟩
theorem storedH_keys {xs : List Ent} {ks : List L2.Key} {b : Addr} {u : Value} : (storedH xs ks b u).map (·.1) = if (xs.any fun x => decide (x.1 = ks)) = true then xs.map (·.1) else xs.map (·.1) ++ [ks] := by
  unfold storedH
  rw [atKey_any]
  split
  · rw [List.map_map]
    exact List.map_congr_left fun x _ => by show (putAt ks u x).1 = x.1; unfold putAt; split <;> rfl
  · simp
/-- what stands at D -/
def HOmD (g : G) (H : Hp) (φ : List Addr) (D : Addr) : O → HO → Prop
  | .dT kvs, ho => ∃ xs vs, ho = tdO g.P g.w D xs ∧ xs.map (·.1) = kvs.map (·.1) ∧ TdOk g.K H D xs ∧ Ems g H φ (kvs.map (·.2)) vs ∧ Vals vs (xs.map (·.2.2))
  | o, ho => HOm g H φ o ho
theorem HOmD.hom {H : Hp} {φ : List Addr} {D : Addr} {o : O} {ho : HO} (h : HOmD g H φ D o ho) : HOm g H φ o ho := by
  cases o with
  | dT kvs => obtain ⟨xs, vs, r⟩ := h; exact ⟨D, xs, vs, r⟩
  | _ => exact h
theorem HOmD.ext {H H' : Hp} {φ φ' : List Addr} {D : Addr} {o : O} {ho : HO} (h : HOmD g H φ D o ho) (e : Le g H φ H' φ') : HOmD g H' φ' D o ho := by
  cases o with
  | dT kvs => obtain ⟨xs, vs, h1, h2, h3, h4, h5⟩ := h; exact ⟨xs, vs, h1, h2, ⟨h3.sm, h3.nd, fun x hx => e.tup _ _ (h3.ks x hx)⟩, h4.ext e, h5⟩
  | lst _ => exact HOm.ext (o := .lst _) h e
  | dK _ => exact HOm.ext (o := .dK _) h e
  | ins _ _ => exact HOm.ext (o := .ins _ _) h e
  | exn _ _ => exact (show False from h).elim
  | lk _ => exact HOm.ext (o := .lk _) h e
theorem dset_sound {H : Hp} {φ : List Addr} {D : Addr} {o o' : O} {ho : HO} {dk dv : Ev.D} {y z : V} {R : Hp → Prop} (e : dSet o dk dv = some o') (hm : HOmD g H φ D o ho) (hD : H D = some ho) (hk : Em g H φ dk y) (hv : Em g H φ dv z)
    (h : ∀ u, HOmD g (upd H D u) φ D o' u → R (upd H D u)) : KSet g.P g.w g.K H D y z R := by
  have up : ∀ u, Le g H φ (upd H D u) φ := fun u => Le.put hD hm.hom
  unfold dSet at e
  cases o with
  | dK kvs =>
    obtain ⟨ws, rfl, k1, k2⟩ := (show HOm g H φ (.dK kvs) ho from hm)
    simp only at e
    split at e
    · rename_i ds
      split at e
      · rename_i he
        have e0 : kvs = [] := by simpa using he
        subst e0
        have w0 : ws = [] := by simpa using k1
        subst w0
        obtain ⟨ks, hks, rfl⟩ := opt_map e
        cases hk with
        | @tup b vs0 ds0 t1 t2 =>
          have e1 := keysOf_V hks t2
          subst e1
          refine .inr ⟨[], ks, b, rfl, t1, by rw [sizeLine_num]; simp, .inl ⟨rfl, hD⟩, fun r rv sm => h _ ?_⟩
          refine ⟨storedH [] ks b r, [z], rfl, rfl, ⟨sm, by simp [storedH, atKey], fun x hx => ?_⟩, .cons (hv.ext (up _)) .nil, .cons rv .nil⟩
          have : x = (ks, b, r) := by simpa [storedH, atKey] using hx
          subst this
          exact (up _).tup _ _ t1
      · cases e
    · obtain ⟨q, hq, e⟩ := opt_bind e
      split at e
      · rename_i hl
        cases e
        have hy := keyOf_V hq hk
        obtain ⟨p1, p2⟩ := putK_HOm (q := q) k1 k2 hv
        have hl' : ws.length < sizeLine := by
          have := congrArg List.length k1
          simp at this
          omega
        exact .inl ⟨ws, q, hy, hD, hl', h _ (show HOm g _ φ (.dK _) _ from ⟨_, rfl, p1, p2.ext (up _)⟩)⟩
      · cases e
  | dT kvs =>
    obtain ⟨xs, vs, rfl, k1, k2, k3, k4⟩ := hm
    simp only at e
    split at e
    · rename_i ds
      obtain ⟨ks, hks, e⟩ := opt_bind e
      split at e
      · rename_i hl
        cases e
        cases hk with
        | @tup b vs0 ds0 t1 t2 =>
          have e1 := keysOf_V hks t2
          subst e1
          have hl' : xs.length < sizeLine := by
            have := congrArg List.length k1
            simp at this
            omega
          refine .inr ⟨xs, ks, b, rfl, t1, hl', .inr ⟨hD, k2⟩, fun r rv sm => h _ ?_⟩
          have ha := any_key ks k1
          have hks' : (storedH xs ks b r).map (·.1) = (putD kvs ks dv).map (·.1) := by
            rw [storedH_keys (b := b) (u := r), ha, k1]
            unfold putD
            split
            · rw [List.map_map]
              exact (List.map_congr_left fun kv _ => by show (if kv.1 = ks then (kv.1, dv) else kv).1 = kv.1; split <;> rfl).symm
            · simp
          have nd : ((storedH xs ks b r).map (·.1)).Nodup := by
            rw [storedH_keys (b := b) (u := r)]
            split
            · exact k2.nd
            · rename_i hne
              refine nodup_app k2.nd fun hm => hne ?_
              obtain ⟨x, hx, e⟩ := List.mem_map.mp hm
              exact List.any_eq_true.mpr ⟨x, hx, by simp [e]⟩
          have tks : ∀ x ∈ storedH xs ks b r, SqT g.K (upd H D (tdO g.P g.w D (storedH xs ks b r))) x.2.1 (x.1.map kV) := by
            intro x hx
            refine (up _).tup _ _ ?_
            unfold storedH at hx
            split at hx
            · obtain ⟨x', hx', e⟩ := List.mem_map.mp hx
              have : x.1 = x'.1 ∧ x.2.1 = x'.2.1 := by
                rw [← e]
                unfold putAt
                split <;> exact ⟨rfl, rfl⟩
              rw [this.1, this.2]
              exact k2.ks x' hx'
            · rcases List.mem_append.mp hx with hx | hx
              · exact k2.ks x hx
              · have : x = (ks, b, r) := by simpa using hx
                subst this
                exact t1
          have vals : ∃ vs', Ems g H φ ((putD kvs ks dv).map (·.2)) vs' ∧ Vals vs' ((storedH xs ks b r).map (·.2.2)) := by
            unfold putD storedH
            rw [atKey_any, ha]
            split
            · rename_i hx
              clear hx e nd tks hks' ha hl hl' hks hD h up
              clear k2
              induction kvs generalizing xs vs with
              | nil =>
                cases xs with
                | nil => exact ⟨[], .nil, .nil⟩
                | cons _ _ => cases k1
              | cons p kvs ih =>
                cases xs with
                | nil => cases k1
                | cons x xs =>
                  simp only [List.map_cons, List.cons.injEq] at k1
                  cases k3 with
                  | @cons _ _ v0 _ m1 m2 =>
                    cases k4 with
                    | cons n1 n2 =>
                      obtain ⟨vs', i1, i2⟩ := ih xs _ k1.2 m2 n2
                      by_cases e : p.1 = ks
                      · refine ⟨z :: vs', ?_, ?_⟩
                        · rw [List.map_cons, List.map_cons, if_pos e]
                          exact .cons hv i1
                        · rw [List.map_cons, List.map_cons]
                          unfold putAt
                          rw [if_pos (k1.1.trans e)]
                          exact .cons rv i2
                      · refine ⟨v0 :: vs', ?_, ?_⟩
                        · rw [List.map_cons, List.map_cons, if_neg e]
                          exact .cons m1 i1
                        · rw [List.map_cons, List.map_cons]
                          unfold putAt
                          rw [if_neg (fun q => e (k1.1.symm.trans q))]
                          exact .cons n1 i2
            · rw [List.map_append, List.map_append]
              exact ⟨vs ++ [z], k3.append (.cons hv .nil), k4.append (.cons rv .nil)⟩
          obtain ⟨vs', v1, v2⟩ := vals
          exact ⟨storedH xs ks b r, vs', rfl, hks', ⟨k2.sm, nd, tks⟩, v1.ext (up _), v2⟩
      · cases e
    · cases e
  | _ => cases e
/-- a dict comprehension over any walk -/
theorem dc_it {J : L2.It} {n : Nat} {Gd : Hp → Prop} {Y : Nat → Hp → V → Hp → Prop} (w : Walk J n Gd Y) {P : Program} {wd : World} {K : PySem.W.Frag} {gt : TG} {tt : TT} {tk tv : TE} {vs : List Nat} {τ : St} {H1 : Hp} {D : Addr} {Qd : Hp → Prop} (Pv : Nat → Hp → Prop)
    (h0 : Pv 0 (upd H1 D (.dK []))) (hG : ∀ i Ha, i ≤ n → Pv i Ha → Gd Ha)
    (turn : ∀ i x Ha Hb, i < n → Pv i Ha → Y i Ha x Hb → gt x (L2.wipe τ vs) Hb fun σ2 H2 => L2.wipe σ2 vs = L2.wipe τ vs ∧ tt σ2 H2 fun b H3 =>
      if b = true then tk σ2 H3 fun y H4 => tv σ2 H4 fun z H5 => KSet P wd K H5 D y z (Pv (i + 1)) else Pv (i + 1) H3) (stop : ∀ Ha, Pv n Ha → Qd Ha) :
    ∃ Inw : Nat → Nat → Hp → Prop, (∃ m, Inw 0 m (upd H1 D (.dK []))) ∧ ∀ i m Ha, Inw i m Ha →
      (J.stop i Ha ∧ Qd Ha) ∨ (J.go i Ha ∧ ∃ Aim : Hp → Prop, (∀ Hb, Aim Hb → ∃ m', m' < m ∧ Inw (i + 1) m' Hb) ∧ ∀ x Hb, J.yld i Ha x Hb → gt x (L2.wipe τ vs) Hb fun σ2 H2 => L2.wipe σ2 vs = L2.wipe τ vs ∧ tt σ2 H2 fun b H3 =>
        if b = true then tk σ2 H3 fun y H4 => tv σ2 H4 fun z H5 => KSet P wd K H5 D y z Aim else Aim H3) := by
  refine ⟨fun i m Ha => i + m = n ∧ Pv i Ha, ⟨n, Nat.zero_add n, h0⟩, fun i m Ha ⟨e, p⟩ => ?_⟩
  have q := hG i Ha (by omega) p
  cases m with
  | zero =>
    have e : i = n := e
    subst e
    exact .inl ⟨w.stops Ha q, stop Ha p⟩
  | succ m =>
    have lt : i < n := by omega
    exact .inr ⟨w.goes i Ha lt q, Pv (i + 1), fun Hb p' => ⟨m, Nat.lt_succ_self m, by omega, p'⟩, fun x Hb y => turn i x Ha Hb lt p (w.yields i Ha x Hb lt q y)⟩
theorem dc_read {t : Tg} {ik : Ik} {ia cs : List Ex} {ke ve : Ex} {vs : List Nat} (hsub : ∀ i ∈ tgS t, i ∈ vs) (τ : St) (H : Hp) (Q : VK) (h : tE g W (den cx (.dc t ik ia cs ke ve vs)).e τ H Q) :
    tDx g.P g.w g.K (rIt g W ik (dens cx ia)) (rTg g t) (tT g WF (dent cx cs)) (tE g WF (den cx ke).e) (tE g WF (den cx ve).e) vs τ H Q := by
  obtain ⟨σ, S, φ, r, rE, p⟩ := h
  replace p : Post g W H φ τ (KE g H Q) ((dens cx ia σ S).bind fun ts S' => match iterOf S' ik ts with
      | none => .bad
      | some p => (dcL (bindT t) (dent cx cs) (fun σ S => ((den cx ke).e σ S).alloc) (fun σ S => ((den cx ve).e σ S).alloc) p.2 (wipeE σ vs) p.1 (.dK []) S').nox.bind fun o S2 => .ok (.t o) S2) := p
  refine ⟨σ, S, φ, r, rE, Post.mono (Post.bnd p) fun ts S1 H1 φ1 e1 r1 p1 => ?_⟩
  split at p1
  · exact (show False from p1).elim
  rename_i pr hpr
  refine ⟨pr, hpr, fun J w hz D hD => ?_⟩
  replace p1 : Po g W H φ τ Q (dcL (bindT t) (dent cx cs) (fun σ S => ((den cx ke).e σ S).alloc) (fun σ S => ((den cx ve).e σ S).alloc) pr.2 (wipeE σ vs) pr.1 (.dK []) S1) := p1
  refine dc_it w (fun i Hc => ∃ Sc φc o ho, Rel g Hc φc Sc ∧ Ext g H1 φ1 Hc φc ∧ Hc D = some ho ∧ D ∉ φc ∧ HOmD g Hc φc D o ho ∧
    Po g W H φ τ Q (dcL (bindT t) (dent cx cs) (fun σ S => ((den cx ke).e σ S).alloc) (fun σ S => ((den cx ve).e σ S).alloc) pr.2 (wipeE σ vs) (pr.1.drop i) o Sc)) ?_ ?_ ?_ ?_
  · exact ⟨S1, φ1, .dK [], _, r1.new hD, Ext.new hD, upd_same, r1.notin hD, (show HOm g _ _ (.dK []) _ from ⟨[], rfl, rfl, .nil⟩), by rw [List.drop_zero]; exact p1⟩
  · rintro i Hc hi ⟨Sc, φc, o, ho, rc, ec, hd, hn, hm, pc⟩
    exact ⟨Sc, φc, rc, Po.gd pc, ec⟩
  · rintro i x Hc H' hi ⟨Sc, φc, o, ho, rc, ec, hd, hn, hm, pc⟩ y
    obtain ⟨eY, rY, d, hdi, mY⟩ := y Sc φc rc (Po.gd pc) ec
    have hgd := Po.gd pc
    have hdrop : pr.1.drop i = d :: pr.1.drop (i + 1) := by
      rw [List.drop_eq_getElem_cons hi]
      rw [List.getElem?_eq_getElem hi] at hdi
      rw [Option.some.inj hdi]
    rw [hdrop] at pc
    unfold dcL at pc
    rw [if_pos hgd] at pc
    split at pc
    · exact (show False from pc).elim
    rename_i σ' hb
    have rEw : RelE g H' φc (wipeE σ vs) (L2.wipe τ vs) := (rE.ext ((e1.trans ec).trans eY)).wipe vs
    refine ⟨wipeE σ vs, φc, d, σ', rEw, mY, hb, fun τ' rE' hl' ha' => ⟨?_, ?_⟩⟩
    · refine (wipe_agree vs hl' fun j hj => ha' j fun z => hj (hsub j z)).trans ?_
      exact wipe_agree vs (wipe_length τ vs) fun j hj => wipe_off vs j hj τ
    · refine ⟨σ', Sc, φc, rY, rE', Post.mono (pieceO pc) fun b S3 H3 φ3 e3 r3 p3 => ?_⟩
      obtain ⟨hdY, hnY⟩ := eY.out D _ hd hn
      obtain ⟨hd3, hn3⟩ := e3.out D _ hdY hnY
      have hm3 := (hm.ext eY.toLe).ext e3.toLe
      have ec3 : Ext g H1 φ1 H3 φ3 := (ec.trans eY).trans e3
      cases b with
      | false =>
        rw [if_neg Bool.false_ne_true] at p3 ⊢
        exact ⟨S3, φ3, o, ho, r3, ec3, hd3, hn3, hm3, p3⟩
      | true =>
        rw [if_pos rfl] at p3 ⊢
        rw [alloc_bind] at p3
        refine ⟨σ', S3, φ3, r3, rE'.ext e3, Post.mono (pieceO p3) fun tv S4 H4 φ4 e4 r4 p4 v m f => ?_⟩
        obtain ⟨φ5, e5, l5, r5, m5⟩ := alloc_ok e4 r4 m f
        obtain ⟨hd5, hn5⟩ := e5.out D _ hd3 hn3
        rw [alloc_bind] at p4
        refine ⟨σ', _, φ5, r5, (rE'.ext e3).ext e5, Post.mono (pieceO p4) fun tw S6 H6 φ6 e6 r6 p6 v6 m6 f6 => ?_⟩
        obtain ⟨φ7, e7, l7, r7, m7⟩ := alloc_ok e6 r6 m6 f6
        obtain ⟨hd7, hn7⟩ := e7.out D _ hd5 hn5
        have hm7 := (hm3.ext e5.toLe).ext e7.toLe
        split at p6
        · rename_i o' ho'
          refine dset_sound ho' hm7 hd7 (m5.ext e7.toLe) m7 fun u hu => ?_
          have up : Le g H6 φ7 (upd H6 D u) φ7 := Le.put hd7 hm7.hom
          have ne : ∀ a ∈ φ7, a ≠ D := fun a ha z => hn7 (z ▸ ha)
          have e17 : Ext g H1 φ1 H6 φ7 := (ec3.trans e5).trans e7
          refine ⟨_, φ7, o', u, r7.step (fun a ha => upd_ne (ne a ha)) up, ⟨e17.toLe.trans up, fun q o2 h hq => ?_, fun q h => ?_, fun q o2 u2 h => ?_⟩, upd_same, hn7, hu, p6⟩
          · obtain ⟨k1, k2⟩ := e17.out q o2 h hq
            refine ⟨?_, k2⟩
            rw [upd_ne (ne_of_none h hD)]
            exact k1
          · by_cases hqD : q = D
            · subst hqD; exact hD
            · rw [upd_ne hqD] at h
              exact e17.dom q h
          · rw [upd_ne (ne_of_none h hD)]
            exact e17.frz q o2 u2 h
        · exact (show False from p6).elim
  · rintro Hc ⟨Sc, φc, o, ho, rc, ec, hd, hn, hm, pc⟩
    have hgd := Po.gd pc
    rw [List.drop_length] at pc
    unfold dcL at pc
    rw [if_pos hgd] at pc
    replace pc : Post g W H φ τ (KE g H Q) (.ok (.t o) Sc) := pc
    exact pc Hc φc (e1.trans ec) rc (.ref D) ⟨D, ho, rfl, hd, hn, hm.hom⟩ fun q hq => by
      cases hq
      exact e1.dom D hD
/-- within a comprehension's block -/
theorem XOk.blk (x : XOk g N k sc W X) (s : Shared) (H : Hp) (scope : Scope) (C : Addr) (cl : List (Str × Addr)) (fp : List Addr) : XOk g N k (relS scope sc) WF (X.blk s H scope (compEnvC scope cl C X.env) fp) := by
  refine ⟨x.prog, x.hw, x.K, x.mg, x.base, x.hN, x.nd, ?_, x.room, x.calm, takes0⟩
  rw [← x.hsc]
  rfl
theorem sto_blk (s : Shared) (H : Hp) (scope : Scope) (C : Addr) (cl : List (Str × Addr)) (fp : List Addr) : Sto (X.blk s H scope (compEnvC scope cl C X.env) fp) scope := by
  intro n hn
  have key : ∀ kd, kd ≠ .free → scope.names.lookup n = some kd → (X.blk s H scope (compEnvC scope cl C X.env) fp).env.scope.names.lookup n = some kd := fun kd hk h => lookup_relS_keep (sc := X.env.scope) hk h
  rcases locC_iff hn with h | h
  · exact ⟨.inl (key .local (by decide) h), .inr (key .local (by decide) h)⟩
  · refine ⟨.inr (key .cell (by decide) h), .inl ?_⟩
    show (scope.names.lookup n == some .cell) = true
    rw [h]
    rfl
theorem PTsimp {X : Cx} {es : List Expr} {t t' : TT} (h : PTs X es t) (k : ∀ τ H Q, t' τ H Q → t τ H Q) : PTs X es t' := ⟨fun pins s τ H Q I q => h.run pins s τ H Q I (k τ H Q q)⟩
theorem s_ts {c : Expr → Option Ex} (hc : ∀ e e', c e = some e' → PB g W X e (den cx e')) {ifs : List Expr} {cs : List Ex} (h : seqM c ifs = some cs) (hl : ifs.length ≤ 1) : PTs X ifs (tT g W (dent cx cs)) := by
  cases ifs with
  | nil =>
    cases h
    refine PTsimp pts_nil ?_
    rintro τ H Q ⟨σ, S, φ, r, rE, p⟩
    exact p H φ Ext.refl r
  | cons e es =>
    cases es with
    | nil =>
      obtain ⟨e', h1, h2⟩ := opt_bind h
      obtain ⟨r', h3, rfl⟩ := opt_map h2
      cases h3
      exact pts_one (hc e e' h1).2
    | cons _ _ => simp at hl
/-- the parts of a comprehension -/
structure LcOk (g : G) (N : List Str) (k : Nat) (sc : Scope) (W : WX) (X : Cx) (cx : Cxt) (el tg iter : Expr) (ifs : List Expr) (scope : Scope) (t : Tg) (p : Ik × List Ex) (cs : List Ex) (e' : Ex) : Prop where
  set : isSet iter = false
  ok : BlkOk X.N X.env.scope scope (ownOf N scope)
  sub : ∀ i ∈ tgS t, i ∈ (ownOf N scope).map (·.2)
  it : PI X tg iter (rIt g W p.1 (dens cx p.2))
  itE : ∀ e1, p = (.seq, [e1]) → PE X iter (tE g W (den cx e1).e)
  tg : ∀ (s : Shared) (H : Hp) (C : Addr) (cl : List (Str × Addr)) (fp : List Addr), PG (X.blk s H scope (compEnvC scope cl C X.env) fp) tg (rTg g t)
  ts : ∀ (s : Shared) (H : Hp) (C : Addr) (cl : List (Str × Addr)) (fp : List Addr), PTs (X.blk s H scope (compEnvC scope cl C X.env) fp) ifs (tT g WF (dent cx cs))
  el : ∀ (s : Shared) (H : Hp) (C : Addr) (cl : List (Str × Addr)) (fp : List Addr), PE (X.blk s H scope (compEnvC scope cl C X.env) fp) el (tE g WF (den cx e').e)
theorem lock_none {ik : Ik} {ia : List Ex} (h : ¬ ∃ i, (ik, ia) = (.seq, [.var i])) : ∀ ts S, lockOf ik ia ts S = none := by
  intro ts S
  unfold lockOf
  split
  · exact absurd ⟨_, rfl⟩ h
  · rfl
theorem s_lc {el tg iter : Expr} {ifs : List Expr} {scope : Scope} {t : Tg} {p : Ik × List Ex} {cs : List Ex} {e' : Ex} {pos : Pos} (x : XOk g N k sc W X) (L : LcOk g N k sc W X cx el tg iter ifs scope t p cs e') :
    PB g W X (.ListComp el [⟨tg, iter, ifs, 0⟩] scope pos) (den cx (.lc t p.1 p.2 cs e' ((ownOf N scope).map (·.2)))) := by
  have plain := pe_lc (pos := pos) x.calm (by rw [x.hN]; exact x.nd) L.it L.ok L.tg L.ts L.el (noFold L.set)
  by_cases h : ∃ i, p = (.seq, [.var i])
  · obtain ⟨i, rfl⟩ := h
    have locked := pe_lock (pe_lc (pos := pos) x.calm (by rw [x.hN]; exact x.nd) (pi_keys (tg := tg) (L.itE _ rfl)) L.ok L.tg L.ts L.el (noFold L.set))
    exact pb_of x rfl (PEimp (PEor plain locked) (lc_readK L.sub))
  · exact pb_of x rfl (PEimp plain (lc_readN L.sub (lock_none h)))
/-- the parts of a dict comprehension -/
structure DcOk (g : G) (N : List Str) (k : Nat) (sc : Scope) (W : WX) (X : Cx) (cx : Cxt) (kx vx tg iter : Expr) (ifs : List Expr) (scope : Scope) (t : Tg) (p : Ik × List Ex) (cs : List Ex) (k' v' : Ex) : Prop where
  set : isSet iter = false
  ok : BlkOk X.N X.env.scope scope (ownOf N scope)
  sub : ∀ i ∈ tgS t, i ∈ (ownOf N scope).map (·.2)
  it : PI X tg iter (rIt g W p.1 (dens cx p.2))
  tg : ∀ (s : Shared) (H : Hp) (C : Addr) (cl : List (Str × Addr)) (fp : List Addr), PG (X.blk s H scope (compEnvC scope cl C X.env) fp) tg (rTg g t)
  ts : ∀ (s : Shared) (H : Hp) (C : Addr) (cl : List (Str × Addr)) (fp : List Addr), PTs (X.blk s H scope (compEnvC scope cl C X.env) fp) ifs (tT g WF (dent cx cs))
  ke : ∀ (s : Shared) (H : Hp) (C : Addr) (cl : List (Str × Addr)) (fp : List Addr), PE (X.blk s H scope (compEnvC scope cl C X.env) fp) kx (tE g WF (den cx k').e)
  ve : ∀ (s : Shared) (H : Hp) (C : Addr) (cl : List (Str × Addr)) (fp : List Addr), PE (X.blk s H scope (compEnvC scope cl C X.env) fp) vx (tE g WF (den cx v').e)
theorem dc_readX {t : Tg} {ik : Ik} {ia cs : List Ex} {ke ve : Ex} {vs : List Nat} (x : XOk g N k sc W X) (hsub : ∀ i ∈ tgS t, i ∈ vs) (τ : St) (H : Hp) (Q : VK) (h : tE g W (den cx (.dc t ik ia cs ke ve vs)).e τ H Q) :
    tDx X.prog X.w X.K (rIt g W ik (dens cx ia)) (rTg g t) (tT g WF (dent cx cs)) (tE g WF (den cx ke).e) (tE g WF (den cx ve).e) vs τ H Q := by
  rw [x.prog, x.hw, x.K]
  exact dc_read hsub τ H Q h
theorem s_dc {kx vx tg iter : Expr} {ifs : List Expr} {scope : Scope} {t : Tg} {p : Ik × List Ex} {cs : List Ex} {k' v' : Ex} {pos : Pos} (x : XOk g N k sc W X) (L : DcOk g N k sc W X cx kx vx tg iter ifs scope t p cs k' v') :
    PB g W X (.DictComp kx vx [⟨tg, iter, ifs, 0⟩] scope pos) (den cx (.dc t p.1 p.2 cs k' v' ((ownOf N scope).map (·.2)))) :=
  pb_of x rfl (PEimp (pe_dx (by have := x.units; omega) x.calm (by rw [x.hN]; exact x.nd) L.it L.ok L.tg L.ts L.ke L.ve (noFold L.set)) (dc_readX x L.sub))

/-! ### all expressions -/
/-- the theorem for expressions, at depth n -/
def ExOk (g : G) (N : List Str) (k : Nat) (cx : Cxt) (n : Nat) : Prop := ∀ (sc : Scope) (W : WX) (X : Cx), XOk g N k sc W X → ∀ e e', cE g.T N n sc e = some e' → PB g W X e (den cx e')
theorem it_plain {T : Tab} {c : Expr → Option Ex} {sc : Scope} {e : Expr} {e1 : Ex} (h : cIt T c sc e = some (.seq, [e1])) : c e = some e1 := by
  have key : ∀ e, (c e).map (fun x => (Ik.seq, [x])) = some (.seq, [e1]) → c e = some e1 := by
    intro e h
    obtain ⟨z, h1, h2⟩ := opt_map h
    cases h2
    exact h1
  unfold cIt at h
  split at h
  · split at h
    · split at h
      · split at h
        · obtain ⟨z, h1, h2⟩ := opt_map h; cases h2
        · obtain ⟨z, h1, h⟩ := opt_bind h; obtain ⟨z2, h3, h2⟩ := opt_map h; cases h2
        · obtain ⟨z, h1, h⟩ := opt_bind h; obtain ⟨z3, h4, h⟩ := opt_bind h; obtain ⟨z2, h3, h2⟩ := opt_map h; cases h2
        · cases h
      · exact key _ h
    · exact key _ h
  · exact key _ h
theorem lc_parts {n : Nat} (G : GOk g cx) (ih : ExOk g N k cx n) (x : XOk g N k sc W X) {el tg iter : Expr} {ifs : List Expr} {scope : Scope} {pos : Pos} {r : Ex} (h : cE g.T N (n + 1) sc (.ListComp el [⟨tg, iter, ifs, 0⟩] scope pos) = some r) :
    ∃ t p cs e', r = .lc t p.1 p.2 cs e' ((ownOf N scope).map (·.2)) ∧ LcOk g N k sc W X cx el tg iter ifs scope t p cs e' := by
  simp only [cE] at h
  split at h
  · rename_i hc
    simp only [Bool.and_eq_true, Bool.not_eq_true', decide_eq_true_eq] at hc
    obtain ⟨⟨h1, h2⟩, h3⟩ := hc
    obtain ⟨t, ht, h⟩ := opt_bind h
    split at h
    · cases h
    · rename_i hall
      obtain ⟨p, hp, h⟩ := opt_bind h
      obtain ⟨cs, hcs, h⟩ := opt_bind h
      obtain ⟨e', he, rfl⟩ := opt_map h
      refine ⟨t, p, cs, e', rfl, h2, ?_, ?_, s_it x G (fun e e' => ih sc W X x e e') hp, (fun e1 z => by subst z; exact (ih sc W X x iter e1 (it_plain hp)).1), fun s H C cl fp => ?_, fun s H C cl fp => ?_, fun s H C cl fp => ?_⟩
      · rw [x.hN, x.hsc]
        exact blkOk_by h1
      · intro i hi
        have hall' : ((tgS t).all fun i => ((ownOf N scope).map (·.2)).contains i) = true := by simpa using hall
        have := List.all_eq_true.mp hall' i hi
        simpa using this
      · exact s_tg (X := X.blk s H scope (compEnvC scope cl C X.env) fp) x.hN x.nd x.calm x.K (sto_blk s H scope C cl fp) 9 tg t ht
      · exact s_ts (fun e e' => ih _ _ _ (x.blk s H scope C cl fp) e e') hcs h3
      · exact (ih _ _ _ (x.blk s H scope C cl fp) el e' he).1
  · cases h
theorem dc_parts {n : Nat} (G : GOk g cx) (ih : ExOk g N k cx n) (x : XOk g N k sc W X) {kx vx tg iter : Expr} {ifs : List Expr} {scope : Scope} {pos : Pos} {r : Ex} (h : cE g.T N (n + 1) sc (.DictComp kx vx [⟨tg, iter, ifs, 0⟩] scope pos) = some r) :
    ∃ t p cs k' v', r = .dc t p.1 p.2 cs k' v' ((ownOf N scope).map (·.2)) ∧ DcOk g N k sc W X cx kx vx tg iter ifs scope t p cs k' v' := by
  simp only [cE] at h
  split at h
  · rename_i hc
    simp only [Bool.and_eq_true, Bool.not_eq_true', decide_eq_true_eq] at hc
    obtain ⟨⟨h1, h2⟩, h3⟩ := hc
    obtain ⟨t, ht, h⟩ := opt_bind h
    split at h
    · cases h
    · rename_i hall
      obtain ⟨p, hp, h⟩ := opt_bind h
      obtain ⟨cs, hcs, h⟩ := opt_bind h
      obtain ⟨k', hk, h⟩ := opt_bind h
      obtain ⟨v', hv, rfl⟩ := opt_map h
      refine ⟨t, p, cs, k', v', rfl, h2, ?_, ?_, s_it x G (fun e e' => ih sc W X x e e') hp, fun s H C cl fp => ?_, fun s H C cl fp => ?_, fun s H C cl fp => ?_, fun s H C cl fp => ?_⟩
      · rw [x.hN, x.hsc]
        exact blkOk_by h1
      · intro i hi
        have hall' : ((tgS t).all fun i => ((ownOf N scope).map (·.2)).contains i) = true := by simpa using hall
        have := List.all_eq_true.mp hall' i hi
        simpa using this
      · exact s_tg (X := X.blk s H scope (compEnvC scope cl C X.env) fp) x.hN x.nd x.calm x.K (sto_blk s H scope C cl fp) 9 tg t ht
      · exact s_ts (fun e e' => ih _ _ _ (x.blk s H scope C cl fp) e e') hcs h3
      · exact (ih _ _ _ (x.blk s H scope C cl fp) kx k' hk).1
      · exact (ih _ _ _ (x.blk s H scope C cl fp) vx v' hv).1
  · cases h
end
end Ev
set_option Elab.async false
set_option linter.all false
set_option maxRecDepth 100000
set_option autoImplicit false
set_option maxHeartbeats 4000000
/-! Ev, part M: the theorem for all expressions. -/
namespace Ev
open PySem L2
section
variable {g : G} {N : List Str} {k : Nat} {cx : Cxt}
theorem any_cons_false {e : Expr} {es : List Expr} (h : (e :: es).any isStar = false) : isStar e = false ∧ es.any isStar = false := by
  rw [List.any_cons, Bool.or_eq_false_iff] at h
  exact h
/-- [a, .., *b]: its items -/
def dendS (cx : Cxt) (es : List Ex) (b : Ex) (σ : Ev.Env) (S : Store) : R (List D) := (ded cx es σ S).bind fun ds S1 => ((den cx b).e σ S1).bind fun t S2 => match seqR S2 t with
  | some xs => .ok (ds ++ xs) S2
  | none => .bad
theorem pa_end {g : G} {W : WX} {X : Cx} {c : Expr → Option Ex} {b' : Ex} : ∀ (es : List Expr) {p : List Expr × Expr} {es' : List Ex}, endStar es = some p → seqM c p.1 = some es' → (∀ e e', c e = some e' → PB g W X e (den cx e')) → PB g W X p.2 (den cx b') → X.K = g.K → PA X es (tD g W (dendS cx es' b'))
  | [], _, _, h, _, _, _, _ => by cases h
  | e :: r, p, es', h, h2, hc, hb, hK => by
    unfold endStar at h
    split at h
    · rename_i b q
      cases h
      cases h2
      refine PAimp (StX.pa_star hb.1 pa_nil) ?_
      rintro τ H Q ⟨σ, S, φ, r, rE, p⟩
      replace p : Post g W H φ τ (fun ds _ H' φ' => ∀ vs, Ems g H' φ' ds vs → Q vs H') (((den cx b').e σ S).bind fun t S2 => match seqR S2 t with
        | some xs => .ok ([] ++ xs) S2
        | none => .bad) := p
      refine use_e r rE Ext.refl p fun t1 S1 H1 φ1 v1 e1 r1 m1 f1 p1 => ?_
      split at p1
      · rename_i xs hx
        obtain ⟨a, vs, rfl, k1, k2⟩ := m1.seqR r1 hx
        refine ⟨a, vs, rfl, by rw [hK]; exact k1.symm, ?_⟩
        have q := p1 H1 φ1 e1 r1 vs k2
        show Q (vs ++ []) H1
        rw [List.append_nil]
        exact q
      · exact (show False from p1).elim
    · split at h
      · cases h
      · rename_i hs
        obtain ⟨p', h1, rfl⟩ := opt_map h
        obtain ⟨e', h3, h2⟩ := opt_bind h2
        obtain ⟨r', h4, rfl⟩ := opt_map h2
        refine PAimp (pa_cons (hc e e' h3).1 (pa_end r h1 h4 hc hb hK) (starE (by simpa using hs))) ?_
        rintro τ H Q ⟨σ, S, φ, r, rE, p⟩
        have e9 : dendS cx (e' :: r') b' σ S = ((den cx e').e σ S).alloc.bind fun d S1 => (dendS cx r' b' σ S1).bind fun ds S2 => .ok (d :: ds) S2 := by
          unfold dendS
          simp only [ded, R.bind_assoc]
          congr 1
          funext d S1
          congr 1
          funext ds S2
          show ((den cx b').e σ S2).bind _ = _
          congr 1
          funext t S3
          cases seqR S3 t <;> rfl
        rw [e9, alloc_bind] at p
        refine use_e r rE Ext.refl p fun t1 S1 H1 φ1 v1 e1 r1 m1 f1 p1 => ?_
        obtain ⟨φ2, e2, l2, r2, m2⟩ := alloc_ok e1 r1 m1 f1
        refine use_d r2 (rE.ext e2) e2 p1 fun ds S3 H3 φ3 vs e3 r3 m3 p3 => ?_
        exact p3 H3 φ3 (e2.trans e3) r3 (v1 :: vs) (.cons (m2.ext e3.toLe) m3)
theorem dend_val (es' : List Ex) (b' : Ex) (σ : Ev.Env) (S : Store) : (den cx (.nd (.op .add) [.na .lst es', .nd (.bi .list) [b']])).e σ S = .bad ∨
    (den cx (.nd (.op .add) [.na .lst es', .nd (.bi .list) [b']])).e σ S = (dendS cx es' b' σ S).bind fun ds S1 => if ds.length ≤ sizeLine then .ok (.t (.lst ds)) S1 else .bad := by
  have e0 : (den cx (.nd (.op .add) [.na .lst es', .nd (.bi .list) [b']])).e σ S = ((den cx (.na .lst es')).e σ S).bind fun t S1 => ((den cx (.nd (.bi .list) [b'])).e σ S1).bind fun u S2 => ofO S2 (opE S2 .add t u) := by
    show (dens cx [.na .lst es', .nd (.bi .list) [b']] σ S).bind _ = _
    rw [dens2]
    rfl
  have e1 : ∀ S, (den cx (.nd (.bi .list) [b'])).e σ S = ((den cx b').e σ S).bind fun t S1 => ofO S1 ((seqR S1 t).map fun xs => .t (.lst xs)) := by
    intro S
    show (dens cx [b'] σ S).bind _ = _
    rw [dens1]
    rfl
  rw [e0]
  unfold dendS
  show ((ded cx es' σ S).bind fun ds S' => if ds.length ≤ sizeLine then R.ok (T.t (.lst ds)) S' else .bad).bind _ = _ ∨ ((ded cx es' σ S).bind fun ds S' => if ds.length ≤ sizeLine then R.ok (T.t (.lst ds)) S' else .bad).bind _ = _
  cases ded cx es' σ S with
  | bad => exact .inl rfl
  | ex c dd S1 => exact .inr rfl
  | ok ds S1 =>
    by_cases h : ds.length ≤ sizeLine
    · have e2 : ((R.ok ds S1).bind fun ds S' => if ds.length ≤ sizeLine then R.ok (T.t (.lst ds)) S' else .bad) = R.ok (T.t (.lst ds)) S1 := if_pos h
      rw [e2]
      show ((den cx (.nd (.bi .list) [b'])).e σ S1).bind _ = _ ∨ ((den cx (.nd (.bi .list) [b'])).e σ S1).bind _ = (((den cx b').e σ S1).bind _).bind _
      rw [e1]
      cases (den cx b').e σ S1 with
      | bad => exact .inl rfl
      | ex c dd S2 => exact .inr rfl
      | ok t S2 =>
        cases hs : seqR S2 t with
        | none =>
          left
          show (ofO S2 ((seqR S2 t).map _)).bind _ = _
          rw [hs]
          rfl
        | some xs =>
          right
          show (ofO S2 ((seqR S2 t).map _)).bind _ = (match seqR S2 t with | some xs => R.ok (ds ++ xs) S2 | none => .bad).bind _
          rw [hs]
          show ofO S2 (if ds.length + xs.length ≤ sizeLine then some (T.t (.lst (ds ++ xs))) else none) = if (ds ++ xs).length ≤ sizeLine then R.ok (T.t (.lst (ds ++ xs))) S2 else .bad
          rw [List.length_append]
          split <;> rfl
    · left
      have e2 : ((R.ok ds S1).bind fun ds S' => if ds.length ≤ sizeLine then R.ok (T.t (.lst ds)) S' else .bad) = .bad := if_neg h
      rw [e2]
      rfl
theorem s_lstStar {g : G} {N : List Str} {k : Nat} {sc : Scope} {W : WX} {X : Cx} {es : List Expr} {es' : List Ex} {b' : Ex} {pos : Pos} (x : XOk g N k sc W X) (h : PA X es (tD g W (dendS cx es' b'))) : PB g W X (.List es pos) (den cx (.nd (.op .add) [.na .lst es', .nd (.bi .list) [b']])) := by
  refine pb_of x rfl (PEimp (pe_lst h) ?_)
  rintro τ H Q ⟨σ, S, φ, r, rE, p⟩
  replace p : Post g W H φ τ (KE g H Q) ((den cx (.nd (.op .add) [.na .lst es', .nd (.bi .list) [b']])).e σ S) := p
  rcases dend_val (cx := cx) es' b' σ S with e | e
  · rw [e] at p
    exact (show False from p).elim
  · rw [e] at p
    refine use_d r rE Ext.refl p fun ds S1 H1 φ1 vs e1 r1 m1 p1 => ?_
    split at p1
    · exact ⟨by rw [← m1.length]; assumption, fun n hn => give_new (o := .lst ds) r1 hn ⟨_, rfl, m1⟩ fun H' v e r' m f => fin_v (e1.trans e) p1 r' m (f.ext e1)⟩
    · exact (show False from p1).elim
theorem exOk_succ (G : GOk g cx) (C : COk g cx k) {n : Nat} (ih : ExOk g N k cx n) : ExOk g N k cx (n + 1) := by
  intro sc W X x e e' h
  have ihx : ∀ e e', cE g.T N n sc e = some e' → PB g W X e (den cx e') := fun e e' => ih sc W X x e e'
  cases e with
  | Constant c j pos =>
    simp only [cE] at h
    cases c with
    | none => cases h; exact s_cst x rfl pe_non fun _ _ => .non
    | bool b => cases h; exact s_cst x rfl pe_bl fun _ _ => .bl _
    | int i => cases h; exact s_cst x rfl pe_int fun _ _ => .int _
    | str z => cases h; exact s_cst x rfl pe_str fun _ _ => .str _
    | _ => cases h
  | Name nm pos =>
    simp only [cE] at h
    split at h
    · rename_i ho
      split at h
      · rename_i hv
        obtain ⟨i, h1, rfl⟩ := opt_map h
        exact s_var x h1 hv ho
      · split at h
        · rename_i hg
          obtain ⟨d, h1, rfl⟩ := opt_map h
          obtain ⟨u, v, m1, m2, m3⟩ := G.cst_ nm d h1
          exact s_cst x rfl (pe_glob (x.gl hg) (by rw [x.mg]; exact m1) m2 (okN_iff ho).1) m3
        · cases h
    · cases h
  | BinOp a o b pos =>
    simp only [cE] at h
    obtain ⟨o', h1, h⟩ := opt_bind h
    obtain ⟨a', h2, h⟩ := opt_bind h
    obtain ⟨b', h3, rfl⟩ := opt_map h
    exact s_op x h1 (ihx _ _ h2) (ihx _ _ h3)
  | UnaryOp o a pos =>
    simp only [cE] at h
    cases o with
    | Not =>
      obtain ⟨a', h1, rfl⟩ := opt_map h
      exact s_not (ihx _ _ h1)
    | USub =>
      obtain ⟨a', h1, rfl⟩ := opt_map h
      exact s_neg x (ihx _ _ h1)
    | _ => cases h
  | BoolOp o es pos =>
    cases es with
    | nil => simp only [cE] at h; cases o <;> cases h
    | cons a r =>
      cases r with
      | nil =>
        simp only [cE] at h
        exact s_one (ihx _ _ h)
      | cons b r =>
        simp only [cE] at h
        cases o with
        | And =>
          obtain ⟨a', h1, h⟩ := opt_bind h
          obtain ⟨b', h2, rfl⟩ := opt_map h
          exact s_and (ihx _ _ h1) (ihx _ _ h2)
        | Or =>
          obtain ⟨a', h1, h⟩ := opt_bind h
          obtain ⟨b', h2, rfl⟩ := opt_map h
          exact s_or (ihx _ _ h1) (ihx _ _ h2)
  | IfExp c a b pos =>
    simp only [cE] at h
    obtain ⟨c', h1, h⟩ := opt_bind h
    obtain ⟨a', h2, h⟩ := opt_bind h
    obtain ⟨b', h3, rfl⟩ := opt_map h
    exact s_ite (ihx _ _ h1) (ihx _ _ h2) (ihx _ _ h3)
  | Compare a os es pos =>
    simp only [cE] at h
    split at h
    · rename_i o b
      split at h
      · cases h
      · rename_i hs
        obtain ⟨o', h1, h⟩ := opt_bind h
        obtain ⟨a', h2, h⟩ := opt_bind h
        obtain ⟨b', h3, rfl⟩ := opt_map h
        exact s_cmp x G C h1 (by simpa using hs) (ihx _ _ h2) (ihx _ _ h3)
    · rename_i o q b c
      split at h
      · cases h
      · rename_i hs
        obtain ⟨o', h1, h⟩ := opt_bind h
        obtain ⟨q', h2, h⟩ := opt_bind h
        obtain ⟨a', h3, h⟩ := opt_bind h
        obtain ⟨b', h4, h⟩ := opt_bind h
        obtain ⟨c', h5, rfl⟩ := opt_map h
        exact s_ch x h1 h2 (by simpa using hs) (ihx _ _ h3) (ihx _ _ h4) (ihx _ _ h5)
    · cases h
  | Tuple es j pos =>
    simp only [cE] at h
    split at h
    · cases h
    · rename_i hs
      obtain ⟨es', h1, rfl⟩ := opt_map h
      exact s_tup x (s_args ihx es es' h1 (by simpa using hs))
  | List es pos =>
    simp only [cE] at h
    split at h
    · obtain ⟨p, h1, h⟩ := opt_bind h
      obtain ⟨es', h2, h⟩ := opt_bind h
      obtain ⟨b', h3, rfl⟩ := opt_map h
      exact s_lstStar x (pa_end es h1 h2 ihx (ihx _ _ h3) x.K)
    · rename_i hs
      obtain ⟨es', h1, rfl⟩ := opt_map h
      exact s_lst x (s_args ihx es es' h1 (by simpa using hs))
  | Dict ks vs pos =>
    simp only [cE] at h
    split at h
    · cases h; exact s_dct x
    · cases h
  | Subscript a i pos =>
    simp only [cE] at h
    split at h
    · rename_i lo hi st p2
      split at h
      · obtain ⟨a', h1, h⟩ := opt_bind h
        obtain ⟨l', h2, h⟩ := opt_bind h
        obtain ⟨h', h3, rfl⟩ := opt_map h
        exact s_sl x (ihx _ _ h1) (ihx _ _ h2) (ihx _ _ h3)
      · obtain ⟨a', h1, h⟩ := opt_bind h
        obtain ⟨l', h2, rfl⟩ := opt_map h
        exact s_sl1 x (ihx _ _ h1) (ihx _ _ h2)
      · obtain ⟨a', h1, h⟩ := opt_bind h
        obtain ⟨l', h2, rfl⟩ := opt_map h
        exact s_sl2 x (ihx _ _ h1) (ihx _ _ h2)
      · obtain ⟨a', h1, rfl⟩ := opt_map h
        exact s_sl0 x (ihx _ _ h1)
      · obtain ⟨a', h1, rfl⟩ := opt_map h
        exact s_bk x (ihx _ _ h1)
      · cases h
    · rename_i hns
      obtain ⟨a', h1, h⟩ := opt_bind h
      obtain ⟨i', h2, rfl⟩ := opt_map h
      have hs : isSlice i = false := by
        cases i <;> first | rfl | exact absurd rfl (hns _ _ _ _)
      exact s_idx x hs (ihx _ _ h1) (ihx _ _ h2)
  | Attribute o f pos =>
    simp only [cE] at h
    split at h
    · cases h
    · rename_i hs
      split at h
      · rename_i j _
        split at h
        · rename_i hj
          obtain ⟨o', h1, rfl⟩ := opt_map h
          exact s_fld x G (by simpa using hs) hj (ihx _ _ h1)
        · cases h
      · cases h
  | ListComp el gs scope pos =>
    have hgs : ∃ tg iter ifs, gs = [⟨tg, iter, ifs, 0⟩] := by
      simp only [cE] at h
      split at h
      · exact ⟨_, _, _, rfl⟩
      · cases h
    obtain ⟨tg, iter, ifs, rfl⟩ := hgs
    obtain ⟨t, p, cs, el', rfl, L⟩ := lc_parts G ih x h
    exact s_lc x L
  | DictComp kx vx gs scope pos =>
    have hgs : ∃ tg iter ifs, gs = [⟨tg, iter, ifs, 0⟩] := by
      simp only [cE] at h
      split at h
      · exact ⟨_, _, _, rfl⟩
      · cases h
    obtain ⟨tg, iter, ifs, rfl⟩ := hgs
    obtain ⟨t, p, cs, k', v', rfl, L⟩ := dc_parts G ih x h
    exact s_dc x L
  | Call f args kws cpos =>
    simp only [cE] at h
    split at h
    · cases h
    · rename_i hk
      have hk1 : kws = [] := by
        cases kws with
        | nil => rfl
        | cons _ _ => simp at hk
      subst hk1
      have hs : args.any isStar = false := by
        simpa using hk
      split at h
      · rename_i nm p2
        split at h
        · rename_i hgo
          rw [Bool.and_eq_true] at hgo
          obtain ⟨hg, ho⟩ := hgo
          split at h
          · rename_i i hx
            split at h
            · rename_i he
              cases h
              have : args = [] := by simpa using he
              subst this
              exact s_mkx0 x G hg ho hx
            · cases h
          · rename_i i f hx
            split at h
            · rename_i a
              obtain ⟨a', h1, rfl⟩ := opt_map h
              exact s_mkx1 x G C.lv_ hg ho hx (any_cons_false hs).1 (s_args ihx [a] [a'] (by simp [seqM, h1]) hs)
            · cases h
          rename_i hnx
          split at h
          · rename_i i hi
            split at h
            · cases h
            · rename_i hne
              obtain ⟨es', h1, rfl⟩ := opt_map h
              exact s_call x G C hg ho hi (by simpa using hne) hs (s_args ihx args es' h1 hs)
          · split at h
            · rename_i i hi
              split at h
              · cases h
              · rename_i hne
                obtain ⟨es', h1, rfl⟩ := opt_map h
                exact s_mk x G C hg ho hi (by simpa using hne) hs (s_args ihx args es' h1 hs)
            · split at h
              · rename_i a
                split at h
                · rename_i b hb
                  obtain ⟨a', h1, rfl⟩ := opt_map h
                  exact s_bi x G hg ho hb (any_cons_false hs).1 (ihx _ _ h1)
                · cases h
              · rename_i a b
                split at h
                · rename_i hnm
                  subst hnm
                  split at h
                  · rename_i t p3
                    split at h
                    · rename_i hto
                      rw [Bool.and_eq_true] at hto
                      split at h
                      · rename_i i hi
                        obtain ⟨a', h1, rfl⟩ := opt_map h
                        exact s_isiC x G hg hto.1 hto.2 hi (any_cons_false hs).1 (ihx _ _ h1)
                      · split at h
                        · rename_i htv
                          subst htv
                          obtain ⟨a', h1, rfl⟩ := opt_map h
                          exact s_isiV x G hg hto.1 (any_cons_false hs).1 (ihx _ _ h1)
                        split at h
                        · obtain ⟨s, h1, h⟩ := opt_bind h
                          obtain ⟨a', h2, rfl⟩ := opt_map h
                          exact s_isiB x G hg hto.1 hto.2 h1 (any_cons_false hs).1 (ihx _ _ h2)
                        · cases h
                    · cases h
                  · cases h
                · split at h
                  · rename_i hnm
                    subst hnm
                    obtain ⟨a', h1, h⟩ := opt_bind h
                    obtain ⟨b', h2, rfl⟩ := opt_map h
                    exact s_max x G hg (any_cons_false hs).1 (any_cons_false (any_cons_false hs).2).1 (ihx _ _ h1) (ihx _ _ h2)
                  · split at h
                    · rename_i hnm
                      subst hnm
                      obtain ⟨a', h1, h⟩ := opt_bind h
                      obtain ⟨b', h2, rfl⟩ := opt_map h
                      exact s_min x G hg (any_cons_false hs).1 (any_cons_false (any_cons_false hs).2).1 (ihx _ _ h1) (ihx _ _ h2)
                    · cases h
              · cases h
        · cases h
      · rename_i o m apos
        split at h
        · cases h
        · rename_i hc
          simp only [Bool.or_eq_true, not_or, Bool.not_eq_true, Bool.not_eq_false', decide_eq_true_eq] at hc
          obtain ⟨⟨hc1, hc2⟩, hc3⟩ := hc
          split at h
          · cases h
          · split at h
            · obtain ⟨mk', h1, h⟩ := opt_bind h
              obtain ⟨o', h2, rfl⟩ := opt_map h
              unfold me0 at h1
              split at h1
              · rename_i hm
                cases h1
                subst hm
                exact s_pop x hc1 hc2 (ihx _ _ h2)
              · split at h1
                · rename_i hm
                  cases h1
                  subst hm
                  exact s_reverse x hc1 hc2 (ihx _ _ h2)
                · cases h1
            · rename_i a
              obtain ⟨mk', h1, h⟩ := opt_bind h
              obtain ⟨o', h2, h⟩ := opt_bind h
              obtain ⟨a', h3, rfl⟩ := opt_map h
              unfold me1 at h1
              split at h1
              · rename_i hm
                cases h1
                subst hm
                exact s_append x hc1 hc2 (any_cons_false hs).1 (ihx _ _ h2) (ihx _ _ h3)
              · cases h1
            · cases h
      · cases h
  | _ => simp only [cE] at h; cases h
theorem exOk (G : GOk g cx) (C : COk g cx k) : ∀ n, ExOk g N k cx n
  | 0 => fun sc W X x e e' h => by simp only [cE] at h; cases h
  | n + 1 => exOk_succ G C (exOk G C n)
end
end Ev
set_option Elab.async false
set_option linter.all false
set_option maxRecDepth 100000
set_option autoImplicit false
set_option maxHeartbeats 4000000
/-! Ev, part N: statements. -/
namespace Ev
open PySem L2

/-- what comes of a statement -/
def PostS (g : G) (W : WX) (H : Hp) (φ : List Addr) (Dn : Ends) : R Fl → Prop
  | .ok f S' => ∀ H' φ', Ext g H φ H' φ' → Rel g H' φ' S' → match f with
    | .nx σ => ∀ τ', RelE g H' φ' σ τ' → Dn.nx τ' H'
    | .rt d => ∀ v, Em g H' φ' d v → Dn.rt v H'
    | .bk σ => ∀ τ', RelE g H' φ' σ τ' → Dn.bk τ' H'
    | .ct σ => ∀ τ', RelE g H' φ' σ τ' → Dn.ct τ' H'
    | .xc σ c dd => ∀ τ' dx, RelE g H' φ' σ τ' → XEm g H' φ' c dd dx → W (.ref (g.ca c)) dx τ' H'
  | _ => False
def tS (g : G) (W : WX) (m : Env → Store → R Fl) : TS := fun D τ H => ∃ σ S φ, Rel g H φ S ∧ RelE g H φ σ τ ∧ PostS g W H φ D (m σ S)
theorem PSimp {X : Cx} {st : Stmt} {t t' : TS} (h : PS X st t) (k : ∀ D τ H, t' D τ H → t D τ H) : PS X st t' := ⟨fun pins s τ H D I q => h.run pins s τ H D I (k D τ H q)⟩
theorem PSsimp {X : Cx} {st : List Stmt} {t t' : TS} (h : PSs X st t) (k : ∀ D τ H, t' D τ H → t D τ H) : PSs X st t' := ⟨fun pins s τ H D I q => h.run pins s τ H D I (k D τ H q)⟩
section
variable {g : G} {W : WX} {H H1 : Hp} {φ φ1 : List Addr} {τ : St} {σ : Env} {S1 : Store} {Dn : Ends}
theorem PostS.shift {r : R Fl} (e : Ext g H φ H1 φ1) (h : PostS g W H φ Dn r) : PostS g W H1 φ1 Dn r := by
  cases r with
  | ok f S => exact fun H' φ' e' r' => h H' φ' (e.trans e') r'
  | ex c dd S => exact h
  | bad => exact h
theorem PostS.cat {α : Type} {r : R α} {f : α → Store → R Fl} (ex : Ext g H φ H1 φ1) (rE : RelE g H1 φ1 σ τ) (h : PostS g W H φ Dn (r.cat σ f)) : Post g W H1 φ1 τ (fun a S1 _ _ => PostS g W H φ Dn (f a S1)) r := by
  cases r with
  | ok a S => exact fun H' φ' e' r' => h
  | ex c dd S => exact fun H' φ' dx e' r' x => h H' φ' (ex.trans e') r' τ dx (rE.ext e') x
  | bad => exact h
theorem use_eS {m : Env → Store → R T} {f : T → Store → R Fl} {Q : VK} (rel : Rel g H1 φ1 S1) (rE : RelE g H1 φ1 σ τ) (ex : Ext g H φ H1 φ1) (h : PostS g W H φ Dn ((m σ S1).cat σ f))
    (cont : ∀ t S2 H2 φ2 v, Ext g H1 φ1 H2 φ2 → Rel g H2 φ2 S2 → TEm g H2 φ2 t v → Fr H1 t v → PostS g W H φ Dn (f t S2) → Q v H2) : tE g W m τ H1 Q :=
  ⟨σ, S1, φ1, rel, rE, Post.mono (PostS.cat ex rE h) fun t S2 H2 φ2 e2 r2 p v em fr => cont t S2 H2 φ2 v e2 r2 em fr p⟩
theorem use_tS {m : Env → Store → R Bool} {f : Bool → Store → R Fl} {Q : Bool → Hp → Prop} (rel : Rel g H1 φ1 S1) (rE : RelE g H1 φ1 σ τ) (ex : Ext g H φ H1 φ1) (h : PostS g W H φ Dn ((m σ S1).cat σ f))
    (cont : ∀ t S2 H2 φ2, Ext g H1 φ1 H2 φ2 → Rel g H2 φ2 S2 → PostS g W H φ Dn (f t S2) → Q t H2) : tT g W m τ H1 Q :=
  ⟨σ, S1, φ1, rel, rE, Post.mono (PostS.cat ex rE h) fun t S2 H2 φ2 e2 r2 p => cont t S2 H2 φ2 e2 r2 p⟩
theorem use_dS {m : Env → Store → R (List D)} {f : List D → Store → R Fl} {Q : List V → Hp → Prop} (rel : Rel g H1 φ1 S1) (rE : RelE g H1 φ1 σ τ) (ex : Ext g H φ H1 φ1) (h : PostS g W H φ Dn ((m σ S1).cat σ f))
    (cont : ∀ t S2 H2 φ2 v, Ext g H1 φ1 H2 φ2 → Rel g H2 φ2 S2 → Ems g H2 φ2 t v → PostS g W H φ Dn (f t S2) → Q v H2) : tD g W m τ H1 Q :=
  ⟨σ, S1, φ1, rel, rE, Post.mono (PostS.cat ex rE h) fun t S2 H2 φ2 e2 r2 p v em => cont t S2 H2 φ2 v e2 r2 em p⟩
theorem alloc_cat (r : R T) (σ : Env) (f : D → Store → R Fl) : r.alloc.cat σ f = r.cat σ fun t S => f (alloc t S).1 (alloc t S).2 := by cases r <;> rfl
theorem nox_map {α : Type} (o : Option α) (S : Store) (f : α → Fl) : (ofO S o).map f = ofO S (o.map f) := by cases o <;> rfl
theorem PostS.ofO {S : Store} {α : Type} {o : Option α} {f : α → Fl} (h : PostS g W H φ Dn ((Ev.ofO S o).map f)) : ∃ a, o = some a ∧ PostS g W H φ Dn (.ok (f a) S) := by
  cases o with
  | none => exact (show False from h).elim
  | some a => exact ⟨a, rfl, h⟩
end

/-- where a statement stands -/
structure SOk (g : G) (N : List Str) (k : Nat) (sc : Scope) (W : WX) (X : Cx) : Prop extends XOk g N k sc W X where
  pass : PassesOwn (model X.prog X.w) X.A X.env X.xe
  fn : ∀ x, X.fn x = true
  stk : X.stack = X.env :: X.outer
  frm : X.env.frame = some X.env.locals
section
variable {g : G} {N : List Str} {k : Nat} {sc : Scope} {W : WX} {X : Cx} {cx : Cxt}
theorem SOk.loc (x : SOk g N k sc W X) {n : Str} (h : locC sc n = true) : Loc X.env.scope n := by rw [x.hsc]; exact locC_iff h
theorem SOk.sto (x : SOk g N k sc W X) : Sto X sc := fun n h => ⟨x.loc h, .inl (x.fn n)⟩
theorem noSole {tg e : Expr} {l : Nat} {env : PySem.Env} (h : isComp e = false) : swapsWithSole [tg] e l env = pure false := noSwap h

/-! ### assignments -/
theorem t_set {e : Expr} {e' : Ex} {i : Nat} {D : Ends} {τ : St} {H : Hp} (h : tS g W (exS cx (.set (.var i) e')) D τ H) : tAsg (tE g W (den cx e').e) (gName i) D τ H := by
  obtain ⟨σ, S, φ, r, rE, p⟩ := h
  refine use_eS r rE Ext.refl (f := fun v S1 => if i < σ.length then .ok (.nx (σ.set i (some (alloc v S1).1))) (alloc v S1).2 else .bad) p fun t1 S1 H1 φ1 v1 e1 r1 m1 f1 p1 => ?_
  by_cases hi : i < σ.length
  · rw [if_pos hi] at p1
    obtain ⟨φ3, e3, l3, r3, m3⟩ := alloc_ok e1 r1 m1 f1
    exact p1 H1 φ3 e3 r3 _ ((rE.ext e3).set m3)
  · rw [if_neg hi] at p1
    exact (show False from p1).elim
theorem st_set {e : Expr} {e' : Ex} {i : Nat} {n : Str} {py pos : Pos} (x : SOk g N k sc W X) (hl : locC sc n = true) (hi : slot N n = some i) (hc : isComp e = false) (he : PB g W X e (den cx e')) : PS X (.Assign [.Name n py] e pos) (tS g W (exS cx (.set (.var i) e'))) :=
  PSimp (ps_set (by rw [x.hN]; exact x.nd) (by rw [x.hN]; exact slot_at hi) (x.loc hl) he.1 (noSwap hc) (.inl (x.fn n))) fun D τ H h => t_set (e := e) h
theorem PSor {st : Stmt} {t1 t2 : TS} (h1 : PS X st t1) (h2 : PS X st t2) : PS X st (fun D τ H => t1 D τ H ∨ t2 D τ H) := ⟨fun pins s τ H D I q => q.elim (h1.run pins s τ H D I) (h2.run pins s τ H D I)⟩
theorem st_setLc {el tg iter : Expr} {ifs : List Expr} {scope : Scope} {t : Tg} {p : Ik × List Ex} {cs : List Ex} {e' : Ex} {i : Nat} {n : Str} {py pos spos : Pos} (x : SOk g N k sc W X) (hi : slot N n = some i)
    (hloc : sc.names.lookup n = some .local) (hk : sc.kind = .function) (hln : (py.line == pos.line) = true) (hany : (scope.names.any fun (m, k) => m == n && (k == .local || k == .cell)) = false) (L : LcOk g N k sc W X cx el tg iter ifs scope t p cs e') :
    PS X (.Assign [.Name n py] (.ListComp el [⟨tg, iter, ifs, 0⟩] scope pos) spos) (tS g W (exS cx (.set (.var i) (.lc t p.1 p.2 cs e' ((ownOf N scope).map (·.2)))))) := by
  have sw := sw_true (elt := el) (gs := [⟨tg, iter, ifs, 0⟩]) (pos := pos) (py := py) (l := spos.line) (env := X.env) (by rw [x.hsc]; exact hk) (by rw [x.hsc]; exact hloc) hln hany
  have plain := ps_setLc (spos := spos) x.calm (by rw [x.hN]; exact x.nd) (by rw [x.hN]; exact slot_at hi) (by rw [x.hsc]; exact hloc) sw L.it L.ok L.tg L.ts L.el (noFold L.set)
  by_cases hd : ∃ i, p = (.seq, [.var i])
  · obtain ⟨j, rfl⟩ := hd
    have locked := ps_lock (ps_setLc (spos := spos) x.calm (by rw [x.hN]; exact x.nd) (by rw [x.hN]; exact slot_at hi) (by rw [x.hsc]; exact hloc) sw (pi_keys (tg := tg) (L.itE _ rfl)) L.ok L.tg L.ts L.el (noFold L.set))
    exact PSimp (PSor plain locked) fun D τ H h => lc_readK L.sub τ H _ (t_set (e := el) h)
  · exact PSimp plain fun D τ H h => lc_readN L.sub (lock_none hd) τ H _ (t_set (e := el) h)
theorem st_setDc {kx vx tg iter : Expr} {ifs : List Expr} {scope : Scope} {t : Tg} {p : Ik × List Ex} {cs : List Ex} {k' v' : Ex} {i : Nat} {n : Str} {py pos spos : Pos} (x : SOk g N k sc W X) (hi : slot N n = some i)
    (hloc : sc.names.lookup n = some .local) (hk : sc.kind = .function) (hln : (py.line == pos.line) = true) (hany : (scope.names.any fun (m, k) => m == n && (k == .local || k == .cell)) = false) (L : DcOk g N k sc W X cx kx vx tg iter ifs scope t p cs k' v') :
    PS X (.Assign [.Name n py] (.DictComp kx vx [⟨tg, iter, ifs, 0⟩] scope pos) spos) (tS g W (exS cx (.set (.var i) (.dc t p.1 p.2 cs k' v' ((ownOf N scope).map (·.2)))))) := by
  have sw := sw_dict (ke := kx) (ve := vx) (gs := [⟨tg, iter, ifs, 0⟩]) (pos := pos) (py := py) (l := spos.line) (env := X.env) (by rw [x.hsc]; exact hk) (by rw [x.hsc]; exact hloc) hln hany
  refine PSimp (ps_setDx (spos := spos) (by have := x.units; omega) x.calm (by rw [x.hN]; exact x.nd) (by rw [x.hN]; exact slot_at hi) (by rw [x.hsc]; exact hloc) sw L.it L.ok L.tg L.ts L.ke L.ve (noFold L.set)) fun D τ H h => ?_
  exact dc_readX x.toXOk L.sub τ H _ (t_set (e := kx) h)
theorem sw_cell {e : Expr} {y : Str} {py : Pos} {l : Nat} {env : PySem.Env} (h : env.scope.names.lookup y = some .cell) : swapsWith e (some (.Name y py)) l env = pure false := by
  have k1 : env.kindOf y = some .cell := h
  have k2 : (some NameKind.cell == some NameKind.local) = false := by decide
  unfold swapsWith
  split
  · simp only [k1, k2, Bool.and_false, Bool.false_and]
  · rfl
theorem st_setCell {e : Expr} {e' : Ex} {i : Nat} {n : Str} {py pos : Pos} (x : SOk g N k sc W X) (hl : locC sc n = true) (hi : slot N n = some i) (hc : sc.names.lookup n = some .cell) (he : PB g W X e (den cx e')) : PS X (.Assign [.Name n py] e pos) (tS g W (exS cx (.set (.var i) e'))) :=
  PSimp (ps_set (by rw [x.hN]; exact x.nd) (by rw [x.hN]; exact slot_at hi) (x.loc hl) he.1 (sw_cell (by rw [x.hsc]; exact hc)) (.inl (x.fn n))) fun D τ H h => t_set (e := e) h
theorem pg_seq {es : List Expr} {j : Nat} {t : TGs} {n : Nat} {pos : Pos} (hc : X.calm = true) (h : PGs X es t) (hn : (assignEach es X.env).length = n) (hst : (assignEach es X.env).findIdx? (·.1) = none) :
    PG X (.Tuple es j pos) (fun v σ H Q => gTup X.K n t v σ H Q ∨ gLst X.K n t v σ H Q) :=
  ⟨fun pins s σ H v u Q I r q => q.elim ((pg_tup hc h hn hst).run pins s σ H v u Q I r) ((pg_lst hc h hn hst).run pins s σ H v u Q I r)⟩
theorem bindTs_len : ∀ {ts : List Tg} {ds : List D} {σ σ' : Ev.Env}, bindTs ts ds σ = some σ' → ts.length = ds.length := by
  intro ts
  induction ts with
  | nil => intro ds σ σ' h; cases ds <;> simp_all [bindTs]
  | cons t ts ih =>
    intro ds σ σ' h
    cases ds with
    | nil => simp [bindTs] at h
    | cons d ds =>
      simp only [bindTs] at h
      obtain ⟨σ2, _, h⟩ := opt_bind h
      simp [ih h]
theorem st_tup {es : List Expr} {ts : List Tg} {e : Expr} {e' : Ex} {j m : Nat} {py pos : Pos} (x : SOk g N k sc W X) (ht : cTgs N sc m es = some ts) (hc : isComp e = false) (hu : isTup e = false) (he : PB g W X e (den cx e')) :
    PS X (.Assign [.Tuple es j py] e pos) (tS g W (exS cx (.set (.tup ts) e'))) := by
  obtain ⟨l1, l2⟩ := cTgs_len m es ts ht
  refine PSimp (ps_asg he.1 (pg_seq x.calm (s_tgs x.hN x.nd x.calm x.K x.sto m es ts ht) (l2 X.env).1 (l2 X.env).2) (noSole hc) (noStores hu) rfl) fun D τ H h => ?_
  obtain ⟨σ, S, φ, r, rE, p⟩ := h
  refine use_eS r rE Ext.refl (f := fun v S1 => match v with
        | .v (.tup ds) => (ofO S1 (bindTs ts ds σ)).map Fl.nx
        | v => (ofO S1 ((lstR S1 v).bind fun ds => bindTs ts ds σ)).map Fl.nx) p fun t1 S1 H1 φ1 v1 e1 r1 m1 f1 p1 => ?_
  split at p1
  · obtain ⟨σ', hb, p2⟩ := PostS.ofO p1
    cases m1 with
    | tup h1 h2 =>
      refine .inl ⟨_, _, rfl, by rw [x.K]; exact h1, ?_, σ, φ1, _, σ', rE.ext e1, h2, hb, fun τ' rE' _ _ => p2 H1 φ1 e1 r1 τ' rE'⟩
      rw [← h2.length, ← bindTs_len hb, l1]
  · obtain ⟨σ', hb, p2⟩ := PostS.ofO p1
    obtain ⟨ds, hd, hb⟩ := opt_bind hb
    obtain ⟨q, vs, rfl, h1, h2⟩ := m1.lstR r1 hd
    refine .inr ⟨_, _, rfl, by rw [x.K]; exact h1, ?_, σ, φ1, ds, σ', rE.ext e1, h2, hb, fun τ' rE' _ _ => p2 H1 φ1 e1 r1 τ' rE'⟩
    rw [← h2.length, ← bindTs_len hb, l1]
theorem asgSub {o i : Expr} {pos : Pos} {env : PySem.Env} (h : isSlice i = false) : ∀ v, assign (.Subscript o i pos) env v = (do
      let ov ← holding [v] (eval o env)
      let iv ← holding [v, ov] (eval i env)
      standAt pos
      holding [v, ov, iv] (setItem ov iv v)
      release [v, ov, iv] []) := by
  intro v
  cases i <;> first | rfl | cases h
theorem st_sub {o i e : Expr} {o' i' e' : Ex} {py pos : Pos} (x : SOk g N k sc W X) (hs : isSlice i = false) (hc : isComp e = false) (he : PB g W X e (den cx e')) (ho : PB g W X o (den cx o')) (hi : PB g W X i (den cx i')) :
    PS X (.Assign [.Subscript o i py] e pos) (tS g W (exS cx (.sub o' i' e'))) := by
  refine PSimp (ps_asg he.1 (pg_sub ho.1 hi.1 set_list (asgSub hs)) (noSole hc) rfl rfl) fun D τ H h => ?_
  obtain ⟨σ, S, φ, r, rE, p⟩ := h
  replace p : PostS g W H φ D (((den cx e').e σ S).alloc.cat σ fun v S1 => ((den cx o').e σ S1).cat σ fun ov S2 => ((den cx i').e σ S2).cat σ fun iv S3 => match ov, iv with
      | .v (.ref n), .v (.int k) => match S3[n]? with
        | some (.lst ds) => match ixN ds.length k with
          | some j => .ok (.nx σ) (S3.set n (.lst (ds.set j v)))
          | none => .bad
        | _ => .bad
      | _, _ => .bad) := p
  rw [alloc_cat] at p
  refine use_eS r rE Ext.refl p fun t1 S1 H1 φ1 v1 e1 r1 m1 f1 p1 => ?_
  obtain ⟨φ2, e2, l2, r2, m2⟩ := alloc_ok e1 r1 m1 f1
  refine use_eS r2 (rE.ext e2) e2 p1 fun t3 S3 H3 φ3 v3 e3 r3 m3 f3 p3 => ?_
  refine use_eS r3 (rE.ext (e2.trans e3)) (e2.trans e3) p3 fun t4 S4 H4 φ4 v4 e4 r4 m4 f4 p4 => ?_
  split at p4
  · rename_i n kk
    split at p4
    · rename_i ds hds
      split at p4
      · rename_i j hj
        cases m4
        cases m3 with
        | ref hn =>
          obtain ⟨a, ho', k1, k2, vs, rfl, k3⟩ := r4.at_ n _ hds rfl
          rw [e4.pre _ _ hn] at k1; cases k1
          obtain ⟨e5, r5⟩ := put_lst (vs' := vs.set j v1) r4 (e4.pre _ _ hn) hds (k3.set j (m2.ext (e3.trans e4).toLe))
          exact ⟨_, vs, kk, j, rfl, rfl, k2, by rw [← k3.length]; exact hj, p4 _ φ4 (((e2.trans e3).trans e4).trans e5) r5 τ (rE.ext (((e2.trans e3).trans e4).trans e5))⟩
      · exact (show False from p4).elim
    · exact (show False from p4).elim
  · exact (show False from p4).elim
theorem st_fld {o e : Expr} {o' e' : Ex} {f : Str} {j : Nat} {py pos : Pos} (x : SOk g N k sc W X) (G : GOk g cx) (hj : g.T.flds[j]? = some f) (hc : isComp e = false) (he : PB g W X e (den cx e')) (ho : PB g W X o (den cx o')) :
    PS X (.Assign [.Attribute o f py] e pos) (tS g W (exS cx (.fldS o' j e'))) := by
  refine PSimp (ps_fld ho.1 he.1 (noSwap hc)) fun D τ H h => ?_
  obtain ⟨σ, S, φ, r, rE, p⟩ := h
  replace p : PostS g W H φ D (((den cx e').e σ S).alloc.cat σ fun v S1 => ((den cx o').e σ S1).cat σ fun ov S2 => match ov with
      | .v (.ref n) => match S2[n]? with
        | some (.ins c fs) => if cx.at_ c j = true ∧ fs.length < 1000 then .ok (.nx σ) (S2.set n (.ins c (putN j v fs))) else .bad
        | _ => .bad
      | _ => .bad) := p
  rw [alloc_cat] at p
  refine use_eS r rE Ext.refl p fun t1 S1 H1 φ1 v1 e1 r1 m1 f1 p1 => ?_
  obtain ⟨φ2, e2, l2, r2, m2⟩ := alloc_ok e1 r1 m1 f1
  refine use_eS r2 (rE.ext e2) e2 p1 fun t3 S3 H3 φ3 v3 e3 r3 m3 f3 p3 => ?_
  split at p3
  · rename_i n
    split at p3
    · rename_i c fs hfs
      split at p3
      · rename_i hcond
        cases m3 with
        | ref hn =>
          obtain ⟨a, ho', k1, k2, k3⟩ := r3.at_ n _ hfs rfl
          rw [hn] at k1; cases k1
          obtain ⟨dx, ws, rfl, q1, q2, q3⟩ := id k3
          have hlt : j < g.T.flds.length := (List.getElem?_eq_some_iff.mp hj).1
          have hfn : g.fn j = f := by
            have := fn_at hlt
            rw [hj] at this
            exact (Option.some.inj this).symm
          obtain ⟨c1, c2⟩ := G.at_ c j hcond.1
          have hput := flds_put (f := j) G.nd hlt (m2.ext e3.toLe) q1 q2 q3
          have e5 := Ext.put (u := .ins (g.ca c) dx (putF f v1 ws)) r3 hn k2 k3 (fun _ z => nomatch z)
          rw [hfn] at hput
          refine ⟨_, _, dx, ws, rfl, k2, by rw [x.K]; exact c1, by rw [x.K, ← hfn]; exact c2, ?_, ?_⟩
          · have hl1 : ws.length = fs.length := by
              have := congrArg List.length q1
              simpa using this
            rw [hl1]; exact hcond.2
          · have r5 := Rel.put (o' := .ins c (putN j (alloc t1 S1).1 fs)) (u := .ins (g.ca c) dx (putF f v1 ws)) r3 hfs hn k2 k3 ⟨dx, _, rfl, hput⟩
            exact p3 _ φ3 ((e2.trans e3).trans e5) r5 τ (rE.ext ((e2.trans e3).trans e5))
      · exact (show False from p3).elim
    · exact (show False from p3).elim
  · exact (show False from p3).elim
end
end Ev
set_option Elab.async false
set_option linter.all false
set_option maxRecDepth 100000
set_option autoImplicit false
set_option maxHeartbeats 4000000
/-! Ev, part O: the other statements. -/
namespace Ev
open PySem L2
section
variable {g : G} {N : List Str} {k : Nat} {sc : Scope} {W : WX} {X : Cx} {cx : Cxt}
theorem ipBy {op : Operator} {o : Op2} (ho : binC op = some o) (h : o = .add ∨ o = .sub) : PIp X op (ipI fun i j => (opI o i j).getD 0) := by
  rcases h with rfl | rfl
  · rw [binC_add ho]; exact ip_add
  · have : op = .Sub := by cases op <;> simp_all [binC]
    rw [this]; exact ip_sub
theorem st_aug {e : Expr} {e' : Ex} {i : Nat} {n : Str} {op : Operator} {o : Op2} {py pos : Pos} (x : SOk g N k sc W X) (hl : locC sc n = true) (hi : slot N n = some i) (ho : binC op = some o) (hp : o = .add ∨ o = .sub) (he : PB g W X e (den cx e')) :
    PS X (.AugAssign (.Name n py) op e pos) (tS g W (exS cx (.aug i o e'))) := by
  refine PSimp (ps_aug (by rw [x.hN]; exact x.nd) (by rw [x.hN]; exact slot_at hi) (x.loc hl) he.1 (ipBy ho hp) (.inl (x.fn n))) fun D τ H h => ?_
  obtain ⟨σ, S, φ, r, rE, p⟩ := h
  replace p : PostS g W H φ D (match σ[i]?.join with
      | some (.int x) => ((den cx e').e σ S).cat σ fun v S1 => match v with
        | .v (.int y) => match opI o x y with
          | some z => if o = .add ∨ o = .sub then .ok (.nx (σ.set i (some (.int z)))) S1 else .bad
          | none => .bad
        | _ => .bad
      | _ => .bad) := p
  split at p
  · rename_i z hz
    have hσ : σ[i]? = some (some (.int z)) := by
      cases hq : σ[i]? with
      | none => rw [hq] at hz; cases hz
      | some u => rw [hq] at hz; cases u with
        | none => cases hz
        | some d' => cases hz; rfl
    obtain ⟨v, h1, h2⟩ := rE.at_ i _ hσ
    cases h2
    refine ⟨_, h1, use_eS r rE Ext.refl p fun t1 S1 H1 φ1 v1 e1 r1 m1 f1 p1 => ?_⟩
    split at p1
    · rename_i y
      split at p1
      · rename_i w hw
        rw [if_pos hp] at p1
        cases m1
        refine ⟨z, y, rfl, rfl, ?_⟩
        show D.nx (τ.set i (some (.int ((opI o z y).getD 0)))) H1
        rw [hw]
        exact p1 H1 φ1 e1 r1 _ ((rE.ext e1).set (.int w))
      · exact (show False from p1).elim
    · exact (show False from p1).elim
  · exact (show False from p).elim
theorem st_par {a b : Expr} {a' b' : Ex} {i j : Nat} {n m : Str} {px py pt p2 pos : Pos} {kt k2 : Nat} (x : SOk g N k sc W X) (hi : slot N n = some i) (hj : slot N m = some j) (h1 : sc.names.lookup n = some .local) (h2 : sc.names.lookup m = some .local)
    (hw : swappedStores [.Tuple [.Name n px, .Name m py] kt pt] (.Tuple [a, b] k2 p2) X.env = pure (some [n, m])) (hne : n ≠ m) (ha : PA X [a, b] (tD g W (ded cx [a', b']))) :
    PS X (.Assign [.Tuple [.Name n px, .Name m py] kt pt] (.Tuple [a, b] k2 p2) pos) (tS g W (exS cx (.par [i, j] [a', b']))) := by
  have hij : i ≠ j := fun z => hne (by
    have q1 := slot_at hi
    have q2 := slot_at hj
    rw [z, q2] at q1
    exact (Option.some.inj q1).symm)
  refine PSimp (ps_par x.calm (by rw [x.hN]; exact x.nd) (by rw [x.hN]; exact slot_at hi) (by rw [x.hN]; exact slot_at hj) hij (by rw [x.hsc]; exact h1) (by rw [x.hsc]; exact h2) ha hw rfl) fun D τ H h => ?_
  obtain ⟨σ, S, φ, r, rE, p⟩ := h
  replace p : PostS g W H φ D ((ded cx [a', b'] σ S).cat σ fun ds S1 => (ofO S1 (bindTs ([i, j].map Tg.var) ds σ)).map Fl.nx) := p
  refine use_dS r rE Ext.refl p fun ds S1 H1 φ1 vs e1 r1 m1 p1 => ?_
  obtain ⟨σ', hb, p2⟩ := PostS.ofO p1
  cases m1 with
  | nil => simp [bindTs] at hb
  | cons q1 m1 =>
    cases m1 with
    | nil => simp [bindTs, bindT] at hb
    | cons q2 m1 =>
      cases m1 with
      | cons _ _ => simp [bindTs, bindT] at hb
      | nil =>
        refine ⟨_, _, rfl, p2 H1 φ1 e1 r1 _ ?_⟩
        simp only [List.map_cons, List.map_nil, bindTs, bindT] at hb
        split at hb
        · simp only [Option.bind_some] at hb
          split at hb
          · simp only [Option.bind_some, Option.some.injEq] at hb
            subst hb
            exact ((rE.ext e1).set q1).set q2
          · cases hb
        · cases hb

/-! ### plain statements -/
theorem st_ex {e : Expr} {e' : Ex} {pos : Pos} (hc : isComp e = false) (he : PB g W X e (den cx e')) : PS X (.Expr e pos) (tS g W (exS cx (.ex e'))) := by
  refine PSimp (ps_expr he.1 (noSwap hc)) fun D τ H h => ?_
  obtain ⟨σ, S, φ, r, rE, p⟩ := h
  exact use_eS (f := fun _ S1 => .ok (.nx σ) S1) r rE Ext.refl p fun t1 S1 H1 φ1 v1 e1 r1 m1 f1 p1 => p1 H1 φ1 e1 r1 τ (rE.ext e1)
theorem st_ret {e : Expr} {e' : Ex} {pos : Pos} (he : PB g W X e (den cx e')) : PS X (.Return (some e) pos) (tS g W (exS cx (.ret e'))) := by
  refine PSimp (ps_ret he.1) fun D τ H h => ?_
  obtain ⟨σ, S, φ, r, rE, p⟩ := h
  replace p : PostS g W H φ D (((den cx e').e σ S).alloc.cat σ fun d S1 => .ok (.rt d) S1) := p
  rw [alloc_cat] at p
  refine use_eS r rE Ext.refl p fun t1 S1 H1 φ1 v1 e1 r1 m1 f1 p1 => ?_
  obtain ⟨φ2, e2, l2, r2, m2⟩ := alloc_ok e1 r1 m1 f1
  exact p1 H1 φ2 e2 r2 v1 m2
theorem st_retN {pos : Pos} : PS X (.Return none pos) (tS g W (exS cx .retN)) := PSimp ps_retN fun D τ H ⟨σ, S, φ, r, rE, p⟩ => p H φ Ext.refl r .non .non
theorem st_doc {z j} {p pos : Pos} : PS X (.Expr (.Constant (.str z) j p) pos) (tS g W (exS cx .nop)) := PSimp ps_doc fun D τ H ⟨σ, S, φ, r, rE, p⟩ => p H φ Ext.refl r τ rE
theorem st_pass {pos : Pos} : PS X (.Pass pos) (tS g W (exS cx .nop)) := PSimp ps_pass fun D τ H ⟨σ, S, φ, r, rE, p⟩ => p H φ Ext.refl r τ rE
theorem st_brk {pos : Pos} : PS X (.Break pos) (tS g W (exS cx .brk)) := PSimp ps_break fun D τ H ⟨σ, S, φ, r, rE, p⟩ => p H φ Ext.refl r τ rE
theorem st_cnt {pos : Pos} : PS X (.Continue pos) (tS g W (exS cx .cnt)) := PSimp ps_continue fun D τ H ⟨σ, S, φ, r, rE, p⟩ => p H φ Ext.refl r τ rE
theorem st_die {st : Stmt} : PS X st (tS g W (exS cx .die)) := PSimp ps_never fun D τ H ⟨σ, S, φ, r, rE, p⟩ => p

/-! ### blocks, choices, loops -/
theorem st_nil : PSs X [] (tS g W (exSs cx [])) := PSsimp pss_nil fun D τ H ⟨σ, S, φ, r, rE, p⟩ => p H φ Ext.refl r τ rE
theorem st_cons {st : Stmt} {rest : List Stmt} {s' : Sx} {r' : List Sx} (h1 : PS X st (tS g W (exS cx s'))) (h2 : PSs X rest (tS g W (exSs cx r'))) : PSs X (st :: rest) (tS g W (exSs cx (s' :: r'))) := by
  refine PSsimp (pss_cons h1 h2) fun D τ H h => ?_
  obtain ⟨σ, S, φ, r, rE, p⟩ := h
  refine ⟨σ, S, φ, r, rE, ?_⟩
  replace p : PostS g W H φ D ((exS cx s' σ S).bind fun f S1 => match f with
      | .nx σ1 => exSs cx r' σ1 S1
      | f => .ok f S1) := p
  generalize exS cx s' σ S = r0 at p ⊢
  cases r0 with
  | bad => exact p
  | ex c dd S1 => exact p
  | ok f S1 =>
    cases f with
    | nx σ1 => exact fun H' φ' e' r1 τ1 rE1 => ⟨σ1, S1, φ', r1, rE1, PostS.shift e' p⟩
    | rt d => exact p
    | bk σ1 => exact p
    | ct σ1 => exact p
    | xc σ1 c dd => exact p
theorem st_ite {c : Expr} {a b : List Stmt} {c' : Ex} {a' b' : List Sx} {pos : Pos} (hc : PB g W X c (den cx c')) (ha : PSs X a (tS g W (exSs cx a'))) (hb : PSs X b (tS g W (exSs cx b'))) : PS X (.If c a b pos) (tS g W (exS cx (.ite c' a' b'))) := by
  refine PSimp (ps_if hc.2 ha hb) fun D τ H h => ?_
  obtain ⟨σ, S, φ, r, rE, p⟩ := h
  refine use_tS (f := fun y S1 => if y = true then exSs cx a' σ S1 else exSs cx b' σ S1) r rE Ext.refl p fun y S1 H1 φ1 e1 r1 p1 => ?_
  cases y with
  | true => rw [if_pos rfl] at p1 ⊢; exact ⟨σ, S1, φ1, r1, rE.ext e1, PostS.shift e1 p1⟩
  | false => rw [if_neg Bool.false_ne_true] at p1 ⊢; exact ⟨σ, S1, φ1, r1, rE.ext e1, PostS.shift e1 p1⟩
theorem frL_gd {H : Hp} {φ : List Addr} {Dn : Ends} {bnd : D → Ev.Env → Option Ev.Env} {body : Ev.Env → Store → R Fl} {gd : Store → Bool} {items : List Ev.D} {σ : Ev.Env} {S : Store} (p : PostS g W H φ Dn (frL bnd body gd items σ S)) : gd S = true := by
  by_cases h : gd S = true
  · exact h
  · cases items with
    | nil =>
      unfold frL at p
      rw [if_neg h] at p
      exact (show False from p).elim
    | cons d ds =>
      unfold frL at p
      rw [if_neg h] at p
      exact (show False from p).elim
theorem st_for {tg iter : Expr} {b : List Stmt} {t : Tg} {pr : Ik × List Ex} {b' : List Sx} {m : Nat} {pos : Pos} (x : SOk g N k sc W X) (hs : isSet iter = false) (ht : cTg N sc m tg = some t) (hi : PI X tg iter (rIt g W pr.1 (dens cx pr.2))) (hb : PSs X b (tS g W (exSs cx b'))) :
    PS X (.For tg iter b [] pos) (tS g W (exS cx (.fr t pr.1 pr.2 b'))) := by
  refine PSimp (ps_for x.pass x.calm hi (s_tg x.hN x.nd x.calm x.K x.sto m tg t ht) hb (noFold hs)) fun D τ H h => ?_
  obtain ⟨σ, S, φ, r, rE, p⟩ := h
  replace p : PostS g W H φ D ((dens cx pr.2 σ S).cat σ fun ts S1 => match iterOf S1 pr.1 ts with
      | none => .bad
      | some p => frL (bindT t) (exSs cx b') p.2 p.1 σ S1) := p
  refine ⟨σ, S, φ, r, rE, Post.mono (PostS.cat Ext.refl rE p) fun ts S1 H1 φ1 e1 r1 p1 => ?_⟩
  split at p1
  · exact (show False from p1).elim
  rename_i q hq
  refine ⟨q, hq, fun J w hz => ?_⟩
  refine for_it w (fun i τ' Hc => ∃ σ' Sc φc, Rel g Hc φc Sc ∧ RelE g Hc φc σ' τ' ∧ Ext g H1 φ1 Hc φc ∧ PostS g W H φ D (frL (bindT t) (exSs cx b') q.2 (q.1.drop i) σ' Sc)) ?_ ?_ ?_ ?_
  · exact ⟨σ, S1, φ1, r1, rE.ext e1, Ext.refl, p1⟩
  · rintro i τ' Hc hi ⟨σ', Sc, φc, rc, rEc, ec, pc⟩
    exact ⟨Sc, φc, rc, frL_gd pc, ec⟩
  · rintro i v τ' Hc H' hi ⟨σ', Sc, φc, rc, rEc, ec, pc⟩ y
    have hgd := frL_gd pc
    obtain ⟨eY, rY, d, hdi, mY⟩ := y Sc φc rc hgd ec
    have hdrop : q.1.drop i = d :: q.1.drop (i + 1) := by
      rw [List.drop_eq_getElem_cons hi]
      rw [List.getElem?_eq_getElem hi] at hdi
      rw [Option.some.inj hdi]
    rw [hdrop] at pc
    unfold frL at pc
    rw [if_pos hgd] at pc
    split at pc
    · exact (show False from pc).elim
    rename_i σ2 hb2
    refine ⟨σ', φc, d, σ2, rEc.ext eY, mY, hb2, fun τ2 rE2 _ _ => ⟨σ2, Sc, φc, rY, rE2, ?_⟩⟩
    generalize exSs cx b' σ2 Sc = r0 at pc ⊢
    cases r0 with
    | bad => exact pc
    | ex c dd S3 => exact pc
    | ok f S3 =>
      cases f with
      | nx σ3 => exact fun H3 φ3 e3 r3 τ3 rE3 => ⟨σ3, S3, φ3, r3, rE3, (ec.trans eY).trans e3, pc⟩
      | ct σ3 => exact fun H3 φ3 e3 r3 τ3 rE3 => ⟨σ3, S3, φ3, r3, rE3, (ec.trans eY).trans e3, pc⟩
      | bk σ3 => exact fun H3 φ3 e3 r3 τ3 rE3 => pc H3 φ3 (((e1.trans ec).trans eY).trans e3) r3 τ3 rE3
      | rt d => exact fun H3 φ3 e3 r3 v m => pc H3 φ3 (((e1.trans ec).trans eY).trans e3) r3 v m
      | xc σ3 c dd => exact fun H3 φ3 e3 r3 τ3 dx rE3 xm => pc H3 φ3 (((e1.trans ec).trans eY).trans e3) r3 τ3 dx rE3 xm
  · rintro τ' Hc ⟨σ', Sc, φc, rc, rEc, ec, pc⟩
    have hgd := frL_gd pc
    rw [List.drop_length] at pc
    unfold frL at pc
    rw [if_pos hgd] at pc
    exact pc Hc φc (e1.trans ec) rc τ' rEc
theorem st_whl {c : Expr} {b : List Stmt} {c' : Ex} {b' : List Sx} {pos : Pos} (x : SOk g N k sc W X) (hc : PB g W X c (den cx c')) (hb : PSs X b (tS g W (exSs cx b'))) : PS X (.While c b [] pos) (tS g W (exS cx (.whl c' b'))) := by
  refine PSimp (ps_while x.pass hc.2 hb) fun D τ H h => ?_
  obtain ⟨σ, S, φ, r, rE, p⟩ := h
  replace p : PostS g W H φ D (whE (fun σ S => (den cx c').b σ S) (exSs cx b') σ S) := p
  unfold whE at p
  split at p
  rotate_left
  · exact (show False from p).elim
  rename_i hex
  have hsp := hex.choose_spec.choose_spec
  refine ⟨fun m τ' H' => ∃ σ' S' φ', Rel g H' φ' S' ∧ RelE g H' φ' σ' τ' ∧ Ext g H φ H' φ' ∧ ∃ r, whN (fun σ S => (den cx c').b σ S) (exSs cx b') m σ' S' = some r ∧ PostS g W H φ D r, ⟨_, σ, S, φ, r, rE, Ext.refl, _, hsp, p⟩, ?_⟩
  rintro m τ' H' ⟨σ', S', φ', r', rE', e', rr, hw, pp⟩
  cases m with
  | zero => cases hw
  | succ n =>
    unfold whN at hw
    refine ⟨σ', S', φ', r', rE', ?_⟩
    generalize (den cx c').b σ' S' = rc at hw ⊢
    cases rc with
    | bad => cases hw; exact (show False from pp).elim
    | ex cc dd S1 =>
      cases hw
      exact fun H2 φ2 dx e2 r2 xm => pp H2 φ2 (e'.trans e2) r2 τ' dx (rE'.ext e2) xm
    | ok y S1 =>
      cases y with
      | false =>
        cases hw
        intro H2 φ2 e2 r2
        dsimp only
        rw [if_neg Bool.false_ne_true]
        exact pp H2 φ2 (e'.trans e2) r2 τ' (rE'.ext e2)
      | true =>
        intro H2 φ2 e2 r2
        dsimp only
        rw [if_pos rfl]
        refine ⟨fun τ3 H3 => ∃ σ' S' φ', Rel g H3 φ' S' ∧ RelE g H3 φ' σ' τ3 ∧ Ext g H φ H3 φ' ∧ ∃ r, whN (fun σ S => (den cx c').b σ S) (exSs cx b') n σ' S' = some r ∧ PostS g W H φ D r, fun τ3 H3 q => ⟨n, Nat.lt_succ_self n, q⟩, σ', S1, φ2, r2, rE'.ext e2, ?_⟩
        dsimp only at hw
        generalize exSs cx b' σ' S1 = rb at hw ⊢
        cases rb with
        | bad => cases hw; exact pp
        | ex cc dd S3 => cases hw; exact pp
        | ok f S3 =>
          cases f with
          | nx σ3 => exact fun H3 φ3 e3 r3 τ3 rE3 => ⟨σ3, S3, φ3, r3, rE3, (e'.trans e2).trans e3, rr, hw, pp⟩
          | ct σ3 => exact fun H3 φ3 e3 r3 τ3 rE3 => ⟨σ3, S3, φ3, r3, rE3, (e'.trans e2).trans e3, rr, hw, pp⟩
          | bk σ3 => cases hw; exact fun H3 φ3 e3 r3 τ3 rE3 => pp H3 φ3 ((e'.trans e2).trans e3) r3 τ3 rE3
          | rt d => cases hw; exact fun H3 φ3 e3 r3 v m => pp H3 φ3 ((e'.trans e2).trans e3) r3 v m
          | xc σ3 cc dd => cases hw; exact fun H3 φ3 e3 r3 τ3 dx rE3 xm => pp H3 φ3 ((e'.trans e2).trans e3) r3 τ3 dx rE3 xm
end
end Ev
set_option Elab.async false
set_option linter.all false
set_option maxRecDepth 100000
set_option autoImplicit false
set_option maxHeartbeats 4000000
/-! Ev, part P: raise, try; the theorem for all statements. -/
namespace Ev
open PySem L2 PySem.Spec PyProof.Rows
section
variable {g : G} {N : List Str} {k : Nat} {sc : Scope} {W : WX} {X : Cx} {cx : Cxt}
theorem pmk_own0 {C : Addr} {bmB : List Value} {B newId initId : String} {x : Str} {p pos : Pos} (F : ExcBaseFacts B newId initId bmB) (q : PySem.W.excIn X.K C bmB newId = true) (gC : X.mg x = some (.ref C))
    (kC : PySem.W.keepIn X.K (.ref C) = true) (r : Raises X (.ref C)) (hg : Gl X x) (hdb : (x == ("__debug__" : Str)) = false) : PMk X (.Call (.Name x p) [] [] pos) (fun _ H Q => Q (.ref C) none H) := by
  intro pins s σ H Q I h
  refine wpAny_Call_Name_kw (ld_glob I hg gC ?_ hdb)
  refine PySem.W.callWith_K0 I.kIn kC ?_
  show wpAny _ _ (call (.ref C) []) _ _ _
  obtain ⟨bm, N, nm, qn, bs, hdct, sn, sub, ab, col, dd, k0, k1, k2, k3, k5, mN, hC, hN, hni, T⟩ := exc_obj I.kIn q
  refine wpAny_call_exc_subT F T hC hN hni (fun h' e hm => ?_) (Nat.zero_le _)
  exact mk_of I hm r h (I.hok.gone hm.new)
theorem st_rse {n : Str} {c : Nat} {p p2 pos : Pos} (x : SOk g N k sc W X) (G : GOk g cx) (hg : glC sc n = true) (ho : okN n = true) (hn : g.T.clss.lookup n = some c) : PS X (.Raise (some (.Call (.Name n p) [] [] p2)) none pos) (tS g W (exS cx (.rse c []))) := by
  refine ⟨fun pins s τ H D I h => ?_⟩
  obtain ⟨σ, S, φ, r, rE, q⟩ := h
  replace q : PostS g W H φ D (if cx.rs c = true then .ok (.xc σ c []) S else .bad) := q
  by_cases hc : cx.rs c = true
  · rw [if_pos hc] at q
    obtain ⟨f0, f1, f2, f3, f4, f5⟩ := G.rs_ c hc
    rw [← x.K] at f2 f3 f4 f5
    refine (ps_raise x.calm x.tk (pmk_own0 PySem.F.excBase_ValueError f3 (by rw [x.mg]; exact G.cls_ _ _ hn) f2 (raises_own f4 f5) (x.gl hg) (okN_iff ho).1)).run pins s τ H D I ?_
    refine q H φ Ext.refl r τ none rE ?_
    unfold XEm
    rw [f1]
    exact ⟨rfl, rfl⟩
  · rw [if_neg hc] at q
    exact (show False from q).elim

/-! ### except suites -/
/-- what a suite answers -/
def tsu (g : G) (cx : Cxt) (i : Nat) (su : List Nat) : Addr → Value → Option Addr → TS := fun a cls d D τ H => ∃ c, cls = .ref (g.ca c) ∧ cx.xi c = true ∧ d = none ∧ τ[i]? = some (some (.ref a)) ∧ D.rt (.bl (su.all fun m => cx.sb c m)) H
/-- one question's reading -/
def tQ (i : Nat) (a : Addr) (b : Bool) : TE := fun τ H Q => τ[i]? = some (some (.ref a)) ∧ Q (.bl b) H
theorem su_one {n : Str} {i m c : Nat} {e : Expr} {a : Addr} {oe : Obj} {pn : List (Addr × Obj)} (x : SOk g N k sc W X) (G : GOk g cx) (hi : slot N n = some i) (hl : sc.names.lookup n = some .local) (ho : okN n = true) (hc : cx.xi c = true) (hz : Zc (.ref (g.ca c)) none oe) (hf : ∃ vs, oe.data = .fields vs)
    (h : cSi g.T sc n e = some m) : PE (X.suite a ((a, oe) :: pn)) e (tQ i a (cx.sb c m)) := by
  unfold cSi at h
  split at h
  · rename_i f p1 y p2 t p3 p4
    split at h
    · rename_i hcond
      simp only [Bool.and_eq_true, beq_iff_eq] at hcond
      obtain ⟨⟨⟨⟨hf1, hf2⟩, hy⟩, ht1⟩, ht2⟩ := hcond
      subst hf1
      subst hy
      obtain ⟨f6, f7⟩ := G.xi_ c hc
      have C : ExcC (X.suite a ((a, oe) :: pn)).K (g.ca c) := by
        show ExcC X.K (g.ca c)
        rw [x.K]; exact f6
      have pv : PE (X.suite a ((a, oe) :: pn)) (.Name y p2) (tVar i) := pe_var (by show X.N[i]? = _; rw [x.hN]; exact slot_at hi) (by show Vis X.env.scope y; rw [x.hsc]; exact .inl hl) (okN_iff ho).1 (okN_iff ho).2.1
      split at h
      · rename_i j hj
        cases h
        have pt : PE (X.suite a ((a, oe) :: pn)) (.Name t p3) (tC (.ref (g.ca m))) := pe_glob (v := .ref (g.ca m)) (x.gl ht1) (by show X.mg t = _; rw [x.mg]; exact G.cls_ _ _ hj) rfl (okN_iff ht2).1
        refine PEimp (pe_callB (call_isE C hz hf) (x.gl hf2) (by show X.mg _ = _; rw [x.mg]; exact G.blt_ _ (by decide +kernel)) (by decide +kernel) (pa_cons pv (pa_cons pt pa_nil rfl) rfl) (by decide +kernel) (by decide +kernel) rfl rfl) ?_
        rintro τ H Q ⟨h1, h2⟩
        refine ⟨_, h1, .ref (g.ca m), .ref (g.ca m), _, rfl, fun u hu => hu, ?_, h2⟩
        show PySem.W.kitOne X.K _ _ = _
        rw [x.K]
        exact (G.ex_ _ _ _ hc hj).1
      · split at h
        · rename_i hv
          cases h
          obtain ⟨_, rfl⟩ := hv
          have pt : PE (X.suite a ((a, oe) :: pn)) (.Name "ValueError" p3) (tC (.ty "ValueError")) := pe_bltn (v := .ty "ValueError") (x.gl ht1) (by show X.mg _ = _; rw [x.mg]; exact G.vn_) PyProof.Rows.Boot.«ValueError» rfl (by decide +kernel) (by decide +kernel)
          refine PEimp (pe_callB (call_isE C hz hf) (x.gl hf2) (by show X.mg _ = _; rw [x.mg]; exact G.blt_ _ (by decide +kernel)) (by decide +kernel) (pa_cons pv (pa_cons pt pa_nil rfl) rfl) (by decide +kernel) (by decide +kernel) rfl rfl) ?_
          rintro τ H Q ⟨h1, h2⟩
          refine ⟨_, h1, .ty "ValueError", .type "ValueError", _, rfl, fun u hu => hu, ?_, h2⟩
          show PySem.W.kitOne X.K _ _ = _
          rw [x.K]
          exact f7
        · cases h
    · cases h
  · cases h
theorem su_ok {n : Str} {i : Nat} {su : List Nat} {st : Stmt} {a : Addr} {oe : Obj} {cls : Value} {d : Option Addr} {pn : List (Addr × Obj)} (x : SOk g N k sc W X) (G : GOk g cx) (hi : slot N n = some i) (hl : sc.names.lookup n = some .local) (ho : okN n = true) (hz : Zc cls d oe) (hf : ∃ vs, oe.data = .fields vs)
    (h : cSu g.T sc n st = some su) : PSs (X.suite a ((a, oe) :: pn)) [st] (tsu g cx i su a cls d) := by
  refine ⟨fun pins s τ H D I q => ?_⟩
  obtain ⟨c, rfl, hc, rfl, hτ, q⟩ := q
  unfold cSu at h
  split at h
  · rename_i e1 e2 p1 p2
    obtain ⟨m1, h1, h⟩ := opt_bind h
    obtain ⟨m2, h2, rfl⟩ := opt_map h
    have P1 := su_one (a := a) (pn := pn) x G hi hl ho hc hz hf h1
    have P2 := su_one (a := a) (pn := pn) x G hi hl ho hc hz hf h2
    refine (pss_one (ps_ret (pe_and P1 (pe_one P2)))).run pins s τ H D I ?_
    refine ⟨hτ, cx.sb c m1, rfl, ?_⟩
    simp only [List.all_cons, List.all_nil, Bool.and_true] at q
    cases hb : cx.sb c m1 with
    | true =>
      rw [hb, Bool.true_and] at q
      rw [if_pos rfl]
      exact ⟨hτ, q⟩
    | false =>
      rw [hb, Bool.false_and] at q
      rw [if_neg Bool.false_ne_true]
      exact q
  · obtain ⟨m1, h1, rfl⟩ := opt_map h
    refine (pss_one (ps_ret (su_one (a := a) (pn := pn) x G hi hl ho hc hz hf h1))).run pins s τ H D I ⟨hτ, ?_⟩
    simpa using q
  · cases h
end
end Ev
set_option Elab.async false
set_option linter.all false
set_option maxRecDepth 100000
set_option autoImplicit false
set_option maxHeartbeats 4000000
/-! Ev, part Q: try; the theorem for all statements. -/
namespace Ev
open PySem L2 PySem.Spec PyProof.Rows
section
variable {g : G} {N : List Str} {k : Nat} {sc : Scope} {W : WX} {X : Cx} {cx : Cxt}
theorem SOk.tr (x : SOk g N k sc W X) {W' : WX} {pn : List (Addr × Obj)} {xe : Value → Shared → Prop} (tk : Takes (X.tr pn xe) W') (ps : PassesOwn (model X.prog X.w) X.A X.env xe) : SOk g N k sc W' (X.tr pn xe) :=
  ⟨⟨x.prog, x.hw, x.K, x.mg, x.base, x.hN, x.nd, x.hsc, x.room, x.calm, tk⟩, ps, x.fn, x.stk, x.frm⟩
theorem st_try {b : List Stmt} {b' : List Sx} {c i : Nat} {cs : List Nat} {n m : Str} {su : Stmt} {p p2 pos : Pos} (x : SOk g N k sc W X) (G : GOk g cx) (hg : glC sc m = true) (ho : okN m = true) (hl : sc.names.lookup n = some .local) (hon : okN n = true)
    (hc : g.T.clss.lookup m = some c) (hi : slot N n = some i) (hsu : cSu g.T sc n su = some cs) (hb : ∀ W' X', SOk g N k sc W' X' → PSs X' b (tS g W' (exSs cx b'))) :
    PS X (.Try b [.ExceptHandler (some (.Name m p)) (some n) [su] p2] [] [] pos) (tS g W (exS cx (.tr b' c i cs))) := by
  refine PSimp (ps_try_as (i := i) (c := .ref (g.ca c)) (tb := fun W' => tS g W' (exSs cx b')) (ts := tsu g cx i cs) x.stk x.frm (by rw [x.hN]; exact x.nd) (by rw [x.hN]; exact slot_at hi) (by show X.env.scope.names.lookup n = _; rw [x.hsc]; exact hl)
    ⟨x.gl hg, (okN_iff ho).1, .inl (by rw [x.mg]; exact G.cls_ _ _ hc)⟩ x.tk (fun W' pn xe tk ps => hb W' _ (x.tr tk ps)) (fun a oe cls d pn hz hf => su_ok x G hi hl hon hz hf hsu)) fun D τ H h => ?_
  obtain ⟨σ, S, φ, r, rE, q⟩ := h
  replace q : PostS g W H φ D (match exSs cx b' σ S with
      | .ok (.xc σ1 k dd) S1 => if cx.rs k = false ∨ cx.xi c = false ∨ σ1.length ≤ i then .bad else if cx.sb k c = true then .ok (.rt (.bl (cs.all fun m => cx.sb k m))) S1 else .ok (.xc σ1 k dd) S1
      | r => r) := q
  refine ⟨σ, S, φ, r, rE, ?_⟩
  generalize exSs cx b' σ S = r0 at q ⊢
  cases r0 with
  | bad => exact q
  | ex c dd S1 => exact q
  | ok f S1 =>
    cases f with
    | nx σ1 => exact q
    | rt d => exact q
    | bk σ1 => exact q
    | ct σ1 => exact q
    | xc σ1 kk dd =>
      dsimp only at q
      split at q
      · exact (show False from q).elim
      rename_i hn
      simp only [not_or, Bool.not_eq_false, Nat.not_le] at hn
      obtain ⟨hk, hcc, hlen⟩ := hn
      intro H' φ' e' r' τ' dx rE' xm
      refine ⟨cx.sb kk c, ?_, fun hb1 a ha => ?_, fun hb1 => ?_⟩
      · rw [x.K]
        exact (G.ex_ _ _ _ (G.rs_ kk hk).1 hc).2 hcc
      · rw [if_pos hb1] at q
        have hdx : dx = none := by
          unfold XEm at xm
          rw [(G.rs_ kk hk).2.1] at xm
          exact xm.2
        refine ⟨kk, rfl, (G.rs_ kk hk).1, hdx, List.getElem?_set_self (by rw [← rE'.len]; exact hlen), q H' φ' e' r' (.bl _) (.bl _)⟩
      · rw [hb1, if_neg Bool.false_ne_true] at q
        exact q H' φ' e' r' τ' dx rE' xm
theorem swaps_par {sc' : Scope} {env : PySem.Env} {a b : Expr} {n m : Str} {px py pt p2 : Pos} {kt k2 : Nat} (hs : env.scope = sc') (h1 : sc'.names.lookup n = some .local) (h2 : sc'.names.lookup m = some .local) (hk : sc'.kind = .function) (hl : (px.line == py.line) = true) (hne : n ≠ m) (sa : isStar a = false) (sb : isStar b = false) (fa : foldedForSure 8 a = false) (ka : constantsAlone 8 a = false) :
    swappedStores [.Tuple [.Name n px, .Name m py] kt pt] (.Tuple [a, b] k2 p2) env = pure (some [n, m]) := by
  have kn : env.kindOf n = some .local := by show env.scope.names.lookup n = _; rw [hs]; exact h1
  have km : env.kindOf m = some .local := by show env.scope.names.lookup m = _; rw [hs]; exact h2
  have hb : env.blockKind = .function := by unfold PySem.Env.blockKind; rw [hs, hk]; rfl
  have key : ∀ e : Expr, isStar e = false → (match e with | .Starred .. => true | _ => false) = false := fun e h => by cases e <;> first | rfl | cases h
  have hst : ([a, b].any fun | .Starred .. => true | _ => false) = false := by
    rw [List.any_cons, List.any_cons, List.any_nil]
    rw [key a sa, key b sb]
    rfl
  have hlines : (py.line == px.line) = true := by rw [beq_iff_eq] at hl ⊢; exact hl.symm
  have hnm : (n == m) = false := beq_eq_false_iff_ne.mpr hne
  have hmn : (m == n) = false := beq_eq_false_iff_ne.mpr (Ne.symm hne)
  unfold swappedStores
  simp only [List.length_cons, List.length_nil, hb, hst, kn, km, List.filterMap_cons, List.filterMap_nil, List.head?_cons, Option.map_some, Option.getD_some, Expr.pos, hlines, List.all_cons, List.all_nil, fa, ka, Bool.false_and, beq_self_eq_true, Bool.true_and, if_true, List.eraseDups_cons, List.filter_cons, List.filter_nil, hmn, hnm]
  have hd : [m].eraseDups = [m] := by simp [List.eraseDups_cons]
  rw [if_neg (by decide)]
  refine Eq.trans (if_neg fun z => Bool.false_ne_true (hst.symm.trans z)) ?_
  rw [if_neg, if_neg Bool.false_ne_true, if_neg Bool.false_ne_true]
  simp [hd]

/-! ### all statements -/
def StOk (g : G) (N : List Str) (k : Nat) (cx : Cxt) (n : Nat) : Prop := ∀ (sc : Scope) (W : WX) (X : Cx), SOk g N k sc W X → ∀ st st', cS g.T N n sc st = some st' → PS X st (tS g W (exS cx st'))
theorem st_all {n : Nat} (ih : StOk g N k cx n) (x : SOk g N k sc W X) : ∀ (b : List Stmt) (b' : List Sx), seqM (cD (cS g.T N n sc)) b = some b' → PSs X b (tS g W (exSs cx b'))
  | [], b', h => by cases h; exact st_nil
  | st :: b, b', h => by
    obtain ⟨s', h1, h2⟩ := opt_bind h
    obtain ⟨r', h3, rfl⟩ := opt_map h2
    refine st_cons ?_ (st_all ih x b r' h3)
    have h1' : some ((cS g.T N n sc st).getD .die) = some s' := h1
    cases hc : cS g.T N n sc st with
    | none =>
      rw [hc] at h1'
      cases h1'
      exact st_die
    | some z =>
      rw [hc] at h1'
      cases h1'
      exact ih _ _ _ x _ _ hc
theorem stOk_succ (G : GOk g cx) (C : COk g cx k) {n : Nat} (ih : StOk g N k cx n) : StOk g N k cx (n + 1) := by
  intro sc W X x st st' h
  have E : ∀ e e', cE g.T N 60 sc e = some e' → PB g W X e (den cx e') := fun e e' h => exOk G C 60 sc W X x.toXOk e e' h
  have B : ∀ b b', seqM (cD (cS g.T N n sc)) b = some b' → PSs X b (tS g W (exSs cx b')) := st_all ih x
  cases st with
  | Assign tgs e pos =>
    simp only [cS] at h
    split at h
    · split at h
      · rename_i nm py
        split at h
        · rename_i hl
          obtain ⟨i, h1, h⟩ := opt_bind h
          split at h
          · rename_i el gs scope p _
            split at h
            · rename_i hc
              simp only [Bool.and_eq_true, decide_eq_true_eq, Bool.not_eq_true'] at hc
              obtain ⟨⟨⟨c1, c2⟩, c3⟩, c4⟩ := hc
              obtain ⟨e', h2, rfl⟩ := opt_map h
              obtain ⟨m, hm⟩ : ∃ m : Nat, 60 = m + 1 := ⟨59, rfl⟩
              rw [hm] at h2
              have hgs : ∃ tg iter ifs, gs = [⟨tg, iter, ifs, 0⟩] := by
                simp only [cE] at h2
                split at h2
                · exact ⟨_, _, _, rfl⟩
                · cases h2
              obtain ⟨tg, iter, ifs, rfl⟩ := hgs
              obtain ⟨t, p, cs, el', rfl, L⟩ := lc_parts G (exOk G C m) x.toXOk h2
              exact st_setLc x h1 c1 c2 c3 c4 L
            · split at h
              · rename_i hcell
                obtain ⟨e', h2, rfl⟩ := opt_map h
                exact st_setCell x hl h1 (of_decide_eq_true hcell) (E _ _ h2)
              · cases h
          · rename_i kx vx gs scope p _
            split at h
            · rename_i hc
              simp only [Bool.and_eq_true, decide_eq_true_eq, Bool.not_eq_true'] at hc
              obtain ⟨⟨⟨c1, c2⟩, c3⟩, c4⟩ := hc
              obtain ⟨e', h2, rfl⟩ := opt_map h
              obtain ⟨m, hm⟩ : ∃ m : Nat, 60 = m + 1 := ⟨59, rfl⟩
              rw [hm] at h2
              have hgs : ∃ tg iter ifs, gs = [⟨tg, iter, ifs, 0⟩] := by
                simp only [cE] at h2
                split at h2
                · exact ⟨_, _, _, rfl⟩
                · cases h2
              obtain ⟨tg, iter, ifs, rfl⟩ := hgs
              obtain ⟨t, p, cs, k', v', rfl, L⟩ := dc_parts G (exOk G C m) x.toXOk h2
              exact st_setDc x h1 c1 c2 c3 c4 L
            · split at h
              · rename_i hcell
                obtain ⟨e', h2, rfl⟩ := opt_map h
                exact st_setCell x hl h1 (of_decide_eq_true hcell) (E _ _ h2)
              · cases h
          · split at h
            · cases h
            · rename_i hc
              obtain ⟨e', h2, rfl⟩ := opt_map h
              exact st_set x hl h1 (by simpa using hc) (E _ _ h2)
        · cases h
      · rename_i ts kk py
        split at h
        · split at h
          · rename_i nm px m py' a b k2 p2 _
            split at h
            · rename_i hc
              simp only [Bool.and_eq_true, decide_eq_true_eq, Bool.not_eq_true', beq_eq_false_iff_ne, beq_iff_eq] at hc
              obtain ⟨⟨⟨⟨⟨⟨⟨⟨c1, c2⟩, c3⟩, c4⟩, c5⟩, c6⟩, c7⟩, c8⟩, c9⟩ := hc
              obtain ⟨i, h1, h⟩ := opt_bind h
              obtain ⟨j, h2, h⟩ := opt_bind h
              obtain ⟨a', h3, h⟩ := opt_bind h
              obtain ⟨b', h4, rfl⟩ := opt_map h
              have hst : ([a, b] : List Expr).any isStar = false := by simp [c6, c7]
              have hseq : seqM (cE g.T N 60 sc) [a, b] = some [a', b'] := by simp [seqM, h3, h4]
              exact st_par x h1 h2 c1 c2 (swaps_par x.hsc c1 c2 c3 (by simpa using c4) c5 c6 c7 c8 c9) c5 (s_args E _ _ hseq hst)
            · cases h
          · cases h
        · rename_i hu
          split at h
          · cases h
          · rename_i hc
            obtain ⟨t, h1, h⟩ := opt_bind h
            obtain ⟨e', h2, rfl⟩ := opt_map h
            obtain ⟨m9, hm9⟩ : ∃ m : Nat, 9 = m + 1 := ⟨8, rfl⟩
            rw [hm9] at h1
            simp only [cTg] at h1
            obtain ⟨ts', h3, rfl⟩ := opt_map h1
            exact st_tup x h3 (by simpa using hc) (by simpa using hu) (E _ _ h2)
      · rename_i o i py
        split at h
        · cases h
        · rename_i hc
          simp only [Bool.or_eq_true, not_or, Bool.not_eq_true] at hc
          obtain ⟨e', h1, h⟩ := opt_bind h
          obtain ⟨o', h2, h⟩ := opt_bind h
          obtain ⟨i', h3, rfl⟩ := opt_map h
          exact st_sub x hc.2 hc.1 (E _ _ h1) (E _ _ h2) (E _ _ h3)
      · rename_i o f py
        split at h
        · cases h
        · rename_i hc
          simp only [Bool.or_eq_true, not_or, Bool.not_eq_true] at hc
          split at h
          · split at h
            · rename_i hj
              obtain ⟨e', h1, h⟩ := opt_bind h
              obtain ⟨o', h2, rfl⟩ := opt_map h
              exact st_fld x G hj hc.1 (E _ _ h1) (E _ _ h2)
            · cases h
          · cases h
      · cases h
    · cases h
  | AugAssign tg o e pos =>
    simp only [cS] at h
    split at h
    · split at h
      · rename_i hl
        obtain ⟨i, h1, h⟩ := opt_bind h
        obtain ⟨o', h2, h⟩ := opt_bind h
        split at h
        · rename_i hp
          obtain ⟨e', h3, rfl⟩ := opt_map h
          exact st_aug x hl h1 h2 hp (E _ _ h3)
        · cases h
      · cases h
    · cases h
  | Expr e pos =>
    simp only [cS] at h
    split at h
    · cases h; exact st_doc
    · split at h
      · cases h
      · rename_i hc
        obtain ⟨e', h1, rfl⟩ := opt_map h
        exact st_ex (by simpa using hc) (E _ _ h1)
  | Return e pos =>
    simp only [cS] at h
    split at h
    · obtain ⟨e', h1, rfl⟩ := opt_map h
      exact st_ret (E _ _ h1)
    · cases h; exact st_retN
  | Pass pos => simp only [cS] at h; cases h; exact st_pass
  | Break pos => simp only [cS] at h; cases h; exact st_brk
  | Continue pos => simp only [cS] at h; cases h; exact st_cnt
  | If c a b pos =>
    simp only [cS] at h
    obtain ⟨c', h1, h⟩ := opt_bind h
    obtain ⟨a', h2, h⟩ := opt_bind h
    obtain ⟨b', h3, rfl⟩ := opt_map h
    exact st_ite (E _ _ h1) (B _ _ h2) (B _ _ h3)
  | For tg iter b els pos =>
    simp only [cS] at h
    split at h
    · cases h
    · rename_i hc
      simp only [Bool.or_eq_true, not_or, Bool.not_eq_true, Bool.not_eq_false', List.isEmpty_iff] at hc
      obtain ⟨c1, c2⟩ := hc
      subst c2
      obtain ⟨t, h1, h⟩ := opt_bind h
      obtain ⟨p, h2, h⟩ := opt_bind h
      obtain ⟨b', h3, rfl⟩ := opt_map h
      exact st_for x c1 h1 (s_it x.toXOk G E h2) (B _ _ h3)
  | While c b els pos =>
    simp only [cS] at h
    split at h
    · cases h
    · rename_i hc
      simp only [Bool.not_eq_true, Bool.not_eq_false', List.isEmpty_iff] at hc
      subst hc
      obtain ⟨c', h1, h⟩ := opt_bind h
      obtain ⟨b', h2, rfl⟩ := opt_map h
      exact st_whl x (E _ _ h1) (B _ _ h2)
  | Raise e c pos =>
    simp only [cS] at h
    split at h
    · split at h
      · rename_i hg
        rw [Bool.and_eq_true] at hg
        obtain ⟨c, h1, rfl⟩ := opt_map h
        exact st_rse x G hg.1 hg.2 h1
      · cases h
    · cases h
  | Try b hs els fin pos =>
    simp only [cS] at h
    split at h
    · split at h
      · rename_i hg
        simp only [Bool.and_eq_true, decide_eq_true_eq] at hg
        obtain ⟨c, h1, h⟩ := opt_bind h
        obtain ⟨i, h2, h⟩ := opt_bind h
        obtain ⟨cs, h3, h⟩ := opt_bind h
        obtain ⟨b', h4, rfl⟩ := opt_map h
        exact st_try x G hg.1.1.1 hg.1.1.2 hg.2 hg.1.2 h1 h2 h3 fun W' X' x' => st_all ih x' b b' h4
      · cases h
    · cases h
  | _ => simp only [cS] at h; cases h
theorem stOk (G : GOk g cx) (C : COk g cx k) : ∀ n, StOk g N k cx n
  | 0 => fun sc W X x st st' h => by simp only [cS] at h; cases h
  | n + 1 => stOk_succ G C (stOk G C n)
theorem stsOk (G : GOk g cx) (C : COk g cx k) {n : Nat} (x : SOk g N k sc W X) {b : List Stmt} {b' : List Sx} (h : seqM (cD (cS g.T N n sc)) b = some b') : PSs X b (tS g W (exSs cx b')) := st_all (stOk G C n) x b b' h
end
end Ev
set_option Elab.async false
set_option linter.all false
set_option maxRecDepth 100000
set_option autoImplicit false
set_option maxHeartbeats 4000000
/-! Ev, part R: defs; all levels of calls. -/
namespace Ev
open PySem L2 PySem.Spec PyProof.Rows
section
variable {g : G} {H H' : Hp} {φ φ' : List Addr}
mutual
theorem Em.noRef {H : Hp} {φ : List Addr} : ∀ (d : D) (v : V), Em g H φ d v → Ev.noRef φ.length d = true
  | .non, _, _ => rfl
  | .bl _, _, _ => rfl
  | .int _, _, _ => rfl
  | .str _, _, _ => rfl
  | .fn _, _, _ => rfl
  | .cls _, _, _ => rfl
  | .ref n, _, h => by
    cases h with
    | ref hn => exact decide_eq_true (List.getElem?_eq_some_iff.mp hn).1
  | .tup ds, _, h => by
    cases h with
    | tup _ h2 =>
      show Ev.noRefs φ.length ds = true
      exact Ems.noRefs ds _ h2
theorem Ems.noRefs {H : Hp} {φ : List Addr} : ∀ (ds : List D) (vs : List V), Ems g H φ ds vs → Ev.noRefs φ.length ds = true
  | [], _, _ => rfl
  | d :: ds, _, h => by
    cases h with
    | cons h1 h2 =>
      show (Ev.noRef φ.length d && Ev.noRefs φ.length ds) = true
      rw [Em.noRef d _ h1, Ems.noRefs ds _ h2]
      rfl
end
mutual
theorem Em.down (e : Ext g H φ H' φ') : ∀ (d : D) (v : V), Em g H' φ' d v → Ev.noRef φ.length d = true → Em g H' φ d v
  | .non, _, h, _ => by cases h; exact .non
  | .bl _, _, h, _ => by cases h; exact .bl _
  | .int _, _, h, _ => by cases h; exact .int _
  | .str _, _, h, _ => by cases h; exact .str _
  | .fn _, _, h, _ => by cases h; exact .fn _
  | .cls _, _, h, _ => by cases h; exact .cls _
  | .ref n, _, h, hn => by
    cases h with
    | @ref _ a ha =>
      have hl : n < φ.length := of_decide_eq_true hn
      have h1 := e.pre n _ (List.getElem?_eq_getElem hl)
      rw [ha] at h1
      exact .ref (by rw [List.getElem?_eq_getElem hl, ← Option.some.inj h1])
  | .tup ds, _, h, hn => by
    cases h with
    | tup h1 h2 => exact .tup h1 (Ems.down e ds _ h2 hn)
theorem Ems.down (e : Ext g H φ H' φ') : ∀ (ds : List D) (vs : List V), Ems g H' φ' ds vs → Ev.noRefs φ.length ds = true → Ems g H' φ ds vs
  | [], _, h, _ => by cases h; exact .nil
  | d :: ds, _, h, hn => by
    cases h with
    | cons h1 h2 =>
      have hn' : (Ev.noRef φ.length d && Ev.noRefs φ.length ds) = true := hn
      rw [Bool.and_eq_true] at hn'
      exact .cons (Em.down e d _ h1 hn'.1) (Ems.down e ds _ h2 hn'.2)
end
theorem HOm.down (e : Ext g H φ H' φ') : ∀ {o : O} {ho ho' : HO}, HOm g H φ o ho → HOm g H' φ' o ho' → HOm g H' φ o ho'
  | .lst ds, _, _, ⟨vs, _, h2⟩, ⟨vs', k1, k2⟩ => ⟨vs', k1, Ems.down e ds _ k2 (Ems.noRefs ds _ h2)⟩
  | .dK kvs, _, _, ⟨vs, _, _, h2⟩, ⟨vs', k1, k2, k3⟩ => ⟨vs', k1, k2, Ems.down e _ _ k3 (Ems.noRefs _ _ h2)⟩
  | .dT kvs, _, _, ⟨_, _, vs, _, _, _, h2, _⟩, ⟨a', xs', vs', k1, k2, k3, k4, k5⟩ => ⟨a', xs', vs', k1, k2, k3, Ems.down e _ _ k4 (Ems.noRefs _ _ h2), k5⟩
  | .ins _ fs, _, _, ⟨_, _, _, _, h2, _⟩, ⟨dx', vs', k1, k2, k3, k4⟩ => ⟨dx', vs', k1, k2, Ems.down e _ _ k3 (Ems.noRefs _ _ h2), k4⟩
  | .exn _ _, _, _, h, _ => h.elim
  | .lk _, _, _, ⟨_, _, _, h2⟩, ⟨ob', ho', k1, k2⟩ => ⟨ob', ho', k1, HOm.down e h2 k2⟩
theorem Ext.down (e : Ext g H φ H' φ') : Ext g H φ H' φ := ⟨⟨e.tup, fun _ _ h => h, e.xd⟩, fun p o h k => ⟨(e.out p o h k).1, k⟩, e.dom, e.frz⟩
theorem Rel.down {S S1 : Store} (r : Rel g H φ S) (r1 : Rel g H' φ' S1) (e : Ext g H φ H' φ') (h : S1.take S.length = S) : Rel g H' φ S := by
  have up : ∀ n o, S[n]? = some o → S1[n]? = some o := fun n o hn => by
    have hl : n < S.length := (List.getElem?_eq_some_iff.mp hn).1
    rw [← h, List.getElem?_take_of_lt hl] at hn
    exact hn
  refine ⟨r.len, r.nd, fun n o hn hx => ?_, fun n c fs hn => ?_⟩
  · obtain ⟨a, ho, h1, h2, h3⟩ := r.at_ n o hn hx
    obtain ⟨a', ho', k1, k2, k3⟩ := r1.at_ n o (up n o hn) hx
    rw [e.pre n a h1] at k1
    cases k1
    exact ⟨a, ho', h1, k2, HOm.down e h3 k3⟩
  · obtain ⟨a, h1, h2⟩ := r.exn n c fs hn
    obtain ⟨a', k1, k2⟩ := r1.exn n c fs (up n _ hn)
    rw [e.pre n a h1] at k1
    cases k1
    refine ⟨a, h1, ?_⟩
    rcases k2 with ⟨q1, q2⟩ | ⟨dx, f, d, v, q1, q2, q3, q4⟩
    · exact .inl ⟨q1, q2⟩
    · refine .inr ⟨dx, f, d, v, q1, q2, q3, Em.down e d v q4 ?_⟩
      rcases h2 with ⟨p1, _⟩ | ⟨_, f', d', v', p1, _, _, p4⟩
      · rw [p1] at q1; cases q1
      · rw [p1] at q1
        cases q1
        exact Em.noRef _ _ p4
/-- what gc leaves -/
theorem gc_ok {S S1 : Store} {d : D} (r : Rel g H φ S) (e : Ext g H φ H' φ') (r1 : Rel g H' φ' S1) : ∃ φ2, Ext g H φ H' φ2 ∧ Rel g H' φ2 (gc S d S1) ∧ ∀ v, Em g H' φ' d v → Em g H' φ2 d v := by
  unfold gc
  split
  · rename_i h
    refine ⟨φ, e.down, r.down r1 e h.1, fun v m => Em.down e d v m (by rw [r.len]; exact h.2)⟩
  · exact ⟨φ', e, r1, fun v m => m⟩
theorem gcX_ok {S S1 : Store} {c : Nat} {dd : List D} (r : Rel g H φ S) (e : Ext g H φ H' φ') (r1 : Rel g H' φ' S1) : ∃ φ2, Ext g H φ H' φ2 ∧ Rel g H' φ2 (gcX S dd S1) ∧ ∀ dx, XEm g H' φ' c dd dx → XEm g H' φ2 c dd dx := by
  unfold gcX
  split
  · rename_i h
    refine ⟨φ, e.down, r.down r1 e h.1, fun dx m => ?_⟩
    unfold XEm at m ⊢
    split at m
    · exact m
    · obtain ⟨d, a, v, rfl, h2, h3, h4, h5⟩ := m
      have hn : noRef φ.length d = true := by
        have := h.2
        rw [← r.len] at this
        have t : (noRef φ.length d && true) = true := this
        simpa using t
      refine ⟨d, a, v, rfl, h2, h3, Em.down e d v h4 hn, fun ha => h5 ?_⟩
      obtain ⟨n, hlt, he⟩ := List.mem_iff_getElem.mp ha
      exact List.mem_of_getElem? (e.pre n a (by rw [List.getElem?_eq_getElem hlt, he]))
  · exact ⟨φ', e, r1, fun dx m => m⟩
theorem relE_start {ds : List D} {vs : List V} {N : List Str} {m : Nat} (h : Ems g H φ ds vs) (hm : m = N.length) : RelE g H φ (ds.map some ++ List.replicate (m - ds.length) none) (start N vs) := by
  subst hm
  unfold L2.start
  have hl := h.length
  refine ⟨by simp [hl], fun i d hi => ?_⟩
  by_cases hlt : i < ds.length
  · rw [List.getElem?_append_left (by simpa using hlt), List.getElem?_map] at hi
    cases hd : ds[i]? with
    | none => rw [hd] at hi; cases hi
    | some d' =>
      rw [hd] at hi
      cases hi
      obtain ⟨v, h1, h2⟩ := h.get hd
      refine ⟨v, ?_, h2⟩
      rw [List.getElem?_append_left (by simp; omega), List.getElem?_map, h1]
      rfl
  · rw [List.getElem?_append_right (by simpa using hlt), List.getElem?_replicate] at hi
    split at hi <;> cases hi
end

/-- a def of the text, and what was read off it -/
structure FnFact (g : G) (tb : Tb) (i : Nat) (fd : FuncData) (ps : List Str) : Prop where
  ex : ∃ (N : List Str) (name qual : Str) (st : Stmt) (e : Fd), tb.fs[i]? = some e ∧ Fun g.K name qual st (g.fa i) fd ∧ FnScope N ps (defScope st) ∧ seqM (cD (cS g.T N 60 (defScope st))) (defBody st) = some e.body ∧ ps.length = e.ps ∧ N.length = e.ns
  binds : Binds g.K fd ps []
structure PgOk (g : G) (tb : Tb) : Prop where
  fn_ : ∀ x i, g.T.funs.lookup x = some i → ∃ fd ps, FnFact g tb i fd ps
  eq_ : ∀ c f, tb.eq c = some f → ∃ fd ps, FnFact g tb f fd ps
  cl_ : ∀ x c, g.T.clss.lookup x = some c → PySem.W.keepIn g.K (.ref (g.ca c)) = true ∧ ∀ f, tb.ini c = some f → Mk g.K (g.ca c) (g.fa f) ∧ ∃ fd ps, FnFact g tb f fd ps
def cxAt (tb : Tb) (k : Nat) (c j : Nat → List D → Store → R D) : Cxt := ⟨c, mkE j tb.ini, tb.um, tb.sb, tb.at_, tb.ic, tb.rs, tb.xi, tb.xa, decide (2 ≤ k), tb.eq, j⟩
def GTb (g : G) (tb : Tb) : Prop := ∀ k c j, GOk g (cxAt tb k c j)
noncomputable def cxK (tb : Tb) (k : Nat) : Cxt := cxAt tb k (runK tb k) (runJ tb k)
theorem spOf_bad {g : G} {n : Nat} {run : List D → Store → R D} (h : ∀ ds S, run ds S = .bad) {vs : List V} {H : Hp} {Q : VK} {E : XK} : ¬ spOf g n run vs H Q E := by
  rintro ⟨_, ds, S, φ, _, _, p⟩
  rw [h] at p
  exact p
theorem fn0 {g : G} {tb : Tb} {i : Nat} {fd : FuncData} {ps : List Str} : FnOk g.P g.w g.K g.mg g.base (L2.CX g.P g.w) 0 (g.fa i) fd ps (spOf g ps.length (runK tb 0 i)) :=
  ⟨fun vs H Q E h => h.1, fun A outer s H args us vs Q E _ _ _ _ h => (spOf_bad (fun _ _ => rfl) h).elim⟩
theorem fnS {g : G} {tb : Tb} (GT : GTb g tb) {k i : Nat} {fd : FuncData} {ps : List Str} (F : FnFact g tb i fd ps) (C : COk g (cxK tb k) k) : FnOk g.P g.w g.K g.mg g.base (L2.CX g.P g.w) (k + 1) (g.fa i) fd ps (spOf g ps.length (runK tb (k + 1) i)) := by
  obtain ⟨N, name, qual, st, e, h1, h2, h3, h4, h5, h6⟩ := F.ex
  refine Fun.okX h2 h3 (fun vs H Q E h => h.1) fun cdv A outer s H vs Q E hr h => ?_
  obtain ⟨hl, ds, S, φ, r, m, p⟩ := h
  have hdl : ds.length = e.ps := by rw [m.length, hl, h5]
  have hrun : runK tb (k + 1) i ds S = finE S (exSs (cxK tb k) e.body (ds.map some ++ List.replicate (e.ns - ds.length) none) S) := by
    rw [runK_succ]
    unfold stepK
    rw [h1]
    show (if ds.length = e.ps then _ else _) = _
    rw [if_pos hdl]
    rfl
  rw [hrun] at p
  have x : SOk g N k (defScope st) (fun cls dx _ H' => E cls dx H') (cxOf (L2.CX g.P g.w) g.P g.w g.K g.mg g.base N qual (defScope st) (g.fa i) cdv A outer s H E) :=
    ⟨⟨rfl, rfl, rfl, rfl, rfl, rfl, h3.nd, rfl, hr, rfl, takes_of rfl rfl rfl rfl⟩, passes_of rfl, fun _ => rfl, rfl, rfl⟩
  refine ⟨_, stsOk (cx := cxK tb k) (GT _ _ _) C x h4, _, S, φ, r, relE_start m h6.symm, ?_⟩
  generalize exSs (cxK tb k) e.body (ds.map some ++ List.replicate (e.ns - ds.length) none) S = rr at p ⊢
  cases rr with
  | bad => exact p
  | ex c dd S1 => exact p
  | ok f S1 =>
    cases f with
    | bk σ => exact p.elim
    | ct σ => exact p.elim
    | nx σ =>
      intro H' φ' e' r' τ' rE
      obtain ⟨φ2, e2, r2, k2⟩ := gc_ok (d := .non) r e' r'
      exact p H' φ2 e2 r2 .non .non
    | rt d =>
      intro H' φ' e' r' v m'
      obtain ⟨φ2, e2, r2, k2⟩ := gc_ok (d := d) r e' r'
      exact p H' φ2 e2 r2 v (k2 v m')
    | xc σ c dd =>
      intro H' φ' e' r' τ' dx rE xm
      obtain ⟨φ2, e2, r2, k2⟩ := gcX_ok (c := c) (dd := dd) r e' r'
      exact p H' φ2 dx e2 r2 (k2 dx xm)
theorem run_len {g : G} {tb : Tb} {i : Nat} {fd : FuncData} {ps : List Str} (F : FnFact g tb i fd ps) (k : Nat) (ds : List D) (S : Store) (h : ds.length ≠ ps.length) : runK tb k i ds S = .bad := by
  cases k with
  | zero => rfl
  | succ k =>
    obtain ⟨N, name, qual, st, e, h1, h2, h3, h4, h5, h6⟩ := F.ex
    rw [runK_succ]
    unfold stepK
    rw [h1]
    show (if ds.length = e.ps then _ else _) = _
    rw [if_neg (by rw [← h5]; exact h)]
/-- every level keeps its word -/
theorem cokAll {g : G} {tb : Tb} (GT : GTb g tb) (O : PgOk g tb) : ∀ k, COk g (cxK tb k) k ∧ ∀ i fd ps, FnFact g tb i fd ps → FnOk g.P g.w g.K g.mg g.base (L2.CX g.P g.w) k (g.fa i) fd ps (spOf g ps.length (runK tb k i))
  | 0 => ⟨⟨fun h => of_decide_eq_true h, fun c f h => .inl fun ds S => rfl, fun x i h => by
      obtain ⟨fd, ps, F⟩ := O.fn_ x i h
      exact ⟨fd, ps, fun ds S _ => rfl, fn0 (tb := tb), F.binds⟩, fun x c h => ⟨(O.cl_ x c h).1, .inl fun ds S => by
        show mkE badC tb.ini c ds S = .bad
        unfold mkE
        split <;> rfl⟩⟩, fun i fd ps F => fn0 (tb := tb)⟩
  | k + 1 => by
    obtain ⟨C, _⟩ := cokAll GT O k
    have FN : ∀ i fd ps, FnFact g tb i fd ps → FnOk g.P g.w g.K g.mg g.base (L2.CX g.P g.w) (k + 1) (g.fa i) fd ps (spOf g ps.length (runK tb (k + 1) i)) := fun i fd ps F => fnS GT F C
    obtain ⟨_, FK⟩ := cokAll GT O k
    refine ⟨⟨fun h => of_decide_eq_true h, fun c f h => ?_, fun x i h => ?_, fun x c h => ?_⟩, FN⟩
    · obtain ⟨fd, ps, F⟩ := O.eq_ c f h
      exact .inr ⟨k, fd, ps, rfl, fun ds S hl => run_len F k ds S hl, FK f fd ps F, F.binds⟩
    · obtain ⟨fd, ps, F⟩ := O.fn_ x i h
      exact ⟨fd, ps, fun ds S hl => run_len F (k + 1) ds S hl, FN i fd ps F, F.binds⟩
    · obtain ⟨kp, hi⟩ := O.cl_ x c h
      refine ⟨kp, ?_⟩
      cases hc : tb.ini c with
      | none =>
        refine .inl fun ds S => ?_
        show mkE _ tb.ini c ds S = .bad
        unfold mkE
        rw [hc]
      | some f =>
        obtain ⟨M, fd, ps, F⟩ := hi f hc
        refine .inr ⟨k, g.fa f, fd, ps, runK tb k f, rfl, fun ds S hl => run_len F k ds S hl, M, FK f fd ps F, F.binds, fun ds S => ?_⟩
        show mkE (runK tb k) tb.ini c ds S = _
        unfold mkE
        rw [hc]
end Ev
set_option Elab.async false
set_option linter.all false
set_option maxRecDepth 100000
set_option autoImplicit false
set_option maxHeartbeats 4000000
/-! Ev, part S: the end of a law; facts of classes as one word. -/
namespace Ev
open PySem L2 PySem.Spec PyProof.Rows
/-- the written part holds no list -/
def noList (K : PySem.W.Frag) : Bool := K.all fun p => !(p.2.cls == Value.type "list")
theorem mem_of_look {α : Type} {l : List (Addr × α)} {a : Addr} {o : α} (h : l.lookup a = some o) : (a, o) ∈ l := by
  induction l with
  | nil => cases h
  | cons p l ih =>
    obtain ⟨b, x⟩ := p
    by_cases e : a = b
    · subst e
      have : (a == a) = true := by simp
      rw [List.lookup, this] at h
      cases h
      exact List.mem_cons_self
    · have : (a == b) = false := by simp [e]
      rw [List.lookup, this] at h
      exact List.mem_cons_of_mem _ (ih h)
theorem noList_ok {K : PySem.W.Frag} (h : noList K = true) {a : Addr} {o : Obj} (e : K.lookup a = some o) : o.cls ≠ .type "list" := by
  intro z
  have hm := mem_of_look e
  have := List.all_eq_true.mp h _ hm
  simp [z] at this
/-- what is asked of a law's def: over a list of whole numbers, at most n, it gives True -/
def spI (K : PySem.W.Frag) (n : Nat) : Sp := fun vs H Q _ => ∃ (a : Addr) (ns : List Int), vs = [.ref a] ∧ ns.length ≤ n ∧ (∀ z ∈ ns, Builtin.Int.intBits z ≤ 1048576) ∧ Only H ∧ SqL K H a (ns.map V.int) ∧ ∀ H', Q (.bl true) H'
/-- the script as the interpreter sees it -/
def scr (ns : List Int) : Store := [.lk (.lst (ns.map D.int))]
theorem Ems.intsOf {g : G} {H : Hp} {φ : List Addr} : ∀ (is : List Int), Ems g H φ (is.map D.int) (is.map V.int)
  | [] => .nil
  | i :: is => .cons (.int i) (Ems.intsOf is)
theorem law_fn {g : G} {tb : Tb} (GT : GTb g tb) (O : PgOk g tb) {i k n : Nat} {fd : FuncData} {x : Str} (F : FnFact g tb i fd [x]) (hK : noList g.K = true)
    (spec : ∀ ns : List Int, ns.length ≤ n → (∀ z ∈ ns, Builtin.Int.intBits z ≤ 1048576) → ∃ S', runK tb k i [.ref 0] (scr ns) = .ok (.bl true) S') :
    FnOk g.P g.w g.K g.mg g.base (L2.CX g.P g.w) k (g.fa i) fd [x] (spI g.K n) := by
  refine ((cokAll GT O k).2 i fd [x] F).imp fun vs H Q E h => ?_
  obtain ⟨a, ns, rfl, h1, h2, h3, h4, q⟩ := h
  obtain ⟨S', e⟩ := spec ns h1 h2
  have hH : ∃ o, H a = some (.frz o (.lst (ns.map V.int))) := by
    rcases h4 with (h | ⟨o, h⟩) | ⟨o, its, m, hl, hc, _⟩
    · rcases h3 a with z | ⟨o, xs, z⟩
      · rw [h] at z; cases z
      · rw [h] at z; cases z
    · exact ⟨o, h⟩
    · exact absurd hc (noList_ok hK hl)
  obtain ⟨o, hH⟩ := hH
  refine ⟨rfl, [.ref 0], scr ns, [a], ⟨rfl, by simp, fun m o' hm hx => ?_, fun m c fs hm => ?_⟩, .cons (.ref rfl) .nil, ?_⟩
  · cases m with
    | zero =>
      cases hm
      exact ⟨a, _, rfl, hH, o, _, rfl, _, rfl, Ems.intsOf ns⟩
    | succ m => cases hm
  · cases m with
    | zero => cases hm
    | succ m => cases hm
  · rw [e]
    intro H' φ' _ _ v m
    cases m
    exact q H'

/-! ### facts by lists -/
def Alls {α : Type} (P : Str → α → Prop) : List (Str × α) → Prop
  | [] => True
  | p :: r => P p.1 p.2 ∧ Alls P r
instance allsDec {α : Type} {P : Str → α → Prop} [∀ x i, Decidable (P x i)] : ∀ l, Decidable (Alls P l)
  | [] => isTrue trivial
  | p :: r => @instDecidableAnd (P p.1 p.2) (Alls P r) _ (allsDec r)
theorem look_all {α : Type} {P : Str → α → Prop} : ∀ {l : List (Str × α)}, Alls P l → ∀ x i, l.lookup x = some i → P x i
  | [], _, x, i, h => by cases h
  | (y, j) :: r, ⟨h1, h2⟩, x, i, h => by
    by_cases e : x = y
    · subst e
      have : (x == x) = true := by simp
      rw [List.lookup, this] at h
      cases h
      exact h1
    · have : (x == y) = false := by simp [e]
      rw [List.lookup, this] at h
      exact look_all h2 x i h
def Allm {α : Type} (P : α → Prop) : List α → Prop
  | [] => True
  | p :: r => P p ∧ Allm P r
theorem mem_all {α : Type} {P : α → Prop} : ∀ {l : List α}, Allm P l → ∀ x ∈ l, P x
  | [], _, x, h => by cases h
  | y :: r, ⟨h1, h2⟩, x, h => by
    rcases List.mem_cons.mp h with e | h
    · rw [e]; exact h1
    · exact mem_all h2 x h
theorem nat_all {P : Nat → Prop} {l : List Nat} (h : Allm P l) (c : Nat) (hc : l.contains c = true) : P c := mem_all h c (by simpa using hc)
theorem pair_all {P : Nat → Nat → Prop} {l : List (Nat × Nat)} (h : Allm (fun p => P p.1 p.2) l) (c f : Nat) (hc : l.contains (c, f) = true) : P c f := mem_all h (c, f) (by simpa using hc)
theorem lt_of_contains {l : List Nat} {c n : Nat} (h : l.contains c = true) (hl : (l.all fun i => decide (i < n)) = true) : c < n := of_decide_eq_true (List.all_eq_true.mp hl c (by simpa using h))

/-! ### classes of errors -/
def excB (K : PySem.W.Frag) (C : Addr) : Bool :=
  decide (PySem.W.findIn K (.ref C) "__getattribute__" = some (some (.builtin "BaseException.__getattribute__"))) && decide (PySem.W.findIn K (.ref C) "__getattr__" = some none) &&
  decide (PySem.W.subIn K (.ref C) (.type "BaseException") = some true) && PySem.W.hasDictIn K C && decide (PySem.W.findIn K (.ref C) "__class__" = some (some (.builtin "object.__class__"))) &&
  decide (PySem.W.specialIn K (.builtin "object.__class__") "__get__" = some (some (.builtin "getset_descriptor.__get__"))) && decide (PySem.W.takesIn K (.builtin "object.__class__") = some true) && decide (PySem.W.mroIn K C (.type "object") = some true)
theorem excB_ok {K : PySem.W.Frag} {C : Addr} (h : excB K C = true) : ExcC K C := by
  simp only [excB, Bool.and_eq_true, decide_eq_true_eq] at h
  obtain ⟨⟨⟨⟨⟨⟨⟨h1, h2⟩, h3⟩, h4⟩, h5⟩, h6⟩, h7⟩, h8⟩ := h
  exact ⟨h1, h2, h3, h4, h5, h6, h7, h8⟩
/-- all questions of isinstance and except between these classes -/
def pairB (K : PySem.W.Frag) (cs : List Addr) (sb : Nat → Nat → Bool) (xi : Nat → Bool) : Bool :=
  (List.range cs.length).all fun i => (List.range cs.length).all fun j => if xi i = true then
    decide (PySem.W.kitOne K (.ref (cs.getD i 0)) (.ref (cs.getD j 0)) = some (sb i j)) && (!(xi j) || decide (PySem.W.exmOne K (.ref (cs.getD i 0)) (.ref (cs.getD j 0)) = some (sb i j))) else true
theorem pairB_ok {K : PySem.W.Frag} {cs : List Addr} {sb : Nat → Nat → Bool} {xi : Nat → Bool} (h : pairB K cs sb xi = true) {i j : Nat} (hi : i < cs.length) (hj : j < cs.length) (hx : xi i = true) :
    PySem.W.kitOne K (.ref (cs.getD i 0)) (.ref (cs.getD j 0)) = some (sb i j) ∧ (xi j = true → PySem.W.exmOne K (.ref (cs.getD i 0)) (.ref (cs.getD j 0)) = some (sb i j)) := by
  have h1 := List.all_eq_true.mp (List.all_eq_true.mp h i (List.mem_range.mpr hi)) j (List.mem_range.mpr hj)
  rw [if_pos hx, Bool.and_eq_true, decide_eq_true_eq, Bool.or_eq_true, decide_eq_true_eq] at h1
  refine ⟨h1.1, fun hj => h1.2.resolve_left ?_⟩
  rw [hj]
  decide
def xiB (K : PySem.W.Frag) (cs : List Addr) (sb : Nat → Nat → Bool) (xi : Nat → Bool) : Bool :=
  (List.range cs.length).all fun i => if xi i = true then excB K (cs.getD i 0) && decide (PySem.W.kitOne K (.ref (cs.getD i 0)) (.type "ValueError") = some (sb i 1000)) else true
theorem xiB_ok {K : PySem.W.Frag} {cs : List Addr} {sb : Nat → Nat → Bool} {xi : Nat → Bool} (h : xiB K cs sb xi = true) {i : Nat} (hi : i < cs.length) (hx : xi i = true) :
    ExcC K (cs.getD i 0) ∧ PySem.W.kitOne K (.ref (cs.getD i 0)) (.type "ValueError") = some (sb i 1000) := by
  have h1 := List.all_eq_true.mp h i (List.mem_range.mpr hi)
  rw [if_pos hx, Bool.and_eq_true, decide_eq_true_eq] at h1
  exact ⟨excB_ok h1.1, h1.2⟩
def tcB (K : PySem.W.Frag) (cs : List Addr) : Bool := cs.all fun C => tyNames.all fun s => decide (PySem.W.kitOne K (.type s) (.ref C) = some false)
theorem tcB_ok {K : PySem.W.Frag} {cs : List Addr} (h : tcB K cs = true) {i : Nat} (hi : i < cs.length) {s : String} (hs : s ∈ tyNames) : PySem.W.kitOne K (.type s) (.ref (cs.getD i 0)) = some false := by
  have hm : cs.getD i 0 ∈ cs := by
    have e : cs.getD i 0 = cs[i] := by simp [List.getD, hi]
    rw [e]
    exact List.getElem_mem hi
  exact of_decide_eq_true (List.all_eq_true.mp (List.all_eq_true.mp h _ hm) s hs)
/-- errors that are made without arguments and have no __init__ -/
def rsB (K : PySem.W.Frag) (C : Addr) : Bool := PySem.W.keepIn K (.ref C) && PySem.W.excIn K C [.type "ValueError", .type "Exception", .type "BaseException", .type "object"] "ValueError.__new__" &&
  decide (PySem.W.subIn K (.ref C) (.type "BaseException") = some true) && decide (PySem.W.typeIn K (.ref C) = some (.type "type"))
theorem rsB_ok {K : PySem.W.Frag} {C : Addr} (h : rsB K C = true) : PySem.W.keepIn K (.ref C) = true ∧ PySem.W.excIn K C [.type "ValueError", .type "Exception", .type "BaseException", .type "object"] "ValueError.__new__" = true ∧
    PySem.W.subIn K (.ref C) (.type "BaseException") = some true ∧ PySem.W.typeIn K (.ref C) = some (.type "type") := by
  simp only [rsB, Bool.and_eq_true, decide_eq_true_eq] at h
  exact ⟨h.1.1.1, h.1.1.2, h.1.2, h.2⟩
/-- instances: attributes that are no one's but the instance's -/
def atB (K : PySem.W.Frag) (C : Addr) (fs : List Str) : Bool := PySem.W.plainGet K C Str.empty && PySem.W.hasDictIn K C && PySem.W.plainOver K C && decide (PySem.W.findIn K (.ref C) "__setattr__" = some (some (.builtin "object.__setattr__"))) &&
  fs.all fun f => decide (PySem.W.findIn K (.ref C) f = some none)
theorem atB_ok {K : PySem.W.Frag} {C : Addr} {fs : List Str} (h : atB K C fs = true) : Cls K C ∧ ∀ f ∈ fs, NoAttr K C f := by
  simp only [atB, Bool.and_eq_true, decide_eq_true_eq] at h
  obtain ⟨⟨⟨⟨h1, h2⟩, h3⟩, h4⟩, h5⟩ := h
  exact ⟨⟨h1, h2, h3, h4⟩, fun f hf => by
    have := of_decide_eq_true (List.all_eq_true.mp h5 f hf)
    exact this⟩
def icB (K : PySem.W.Frag) (C : Addr) : Bool := decide (PySem.W.findIn K (.ref C) "__class__" = some (some (.builtin "object.__class__"))) && decide (PySem.W.specialIn K (.builtin "object.__class__") "__get__" = some (some (.builtin "getset_descriptor.__get__"))) &&
  decide (PySem.W.takesIn K (.builtin "object.__class__") = some true) && decide (PySem.W.mroIn K C (.type "object") = some true) && tyNames.all fun s => decide (PySem.W.kitOne K (.ref C) (.type s) = some false)
theorem icB_ok {K : PySem.W.Frag} {C : Addr} (c : Cls K C) (h : icB K C = true) : Cls K C ∧ PySem.W.findIn K (.ref C) "__class__" = some (some (.builtin "object.__class__")) ∧
    PySem.W.specialIn K (.builtin "object.__class__") "__get__" = some (some (.builtin "getset_descriptor.__get__")) ∧ PySem.W.takesIn K (.builtin "object.__class__") = some true ∧ PySem.W.mroIn K C (.type "object") = some true ∧
    ∀ s ∈ tyNames, PySem.W.kitOne K (.ref C) (.type s) = some false := by
  simp only [icB, Bool.and_eq_true, decide_eq_true_eq] at h
  obtain ⟨⟨⟨⟨h1, h2⟩, h3⟩, h4⟩, h5⟩ := h
  exact ⟨c, h1, h2, h3, h4, fun s hs => of_decide_eq_true (List.all_eq_true.mp h5 s hs)⟩
def nfB (K : PySem.W.Frag) (C : Addr) : Bool := tyNames.all fun s => PySem.W.notFirst K C (.type s)
theorem nfB_ok {K : PySem.W.Frag} {C : Addr} (h : nfB K C = true) {s : String} (hs : s ∈ tyNames) : PySem.W.notFirst K C (.type s) = true := List.all_eq_true.mp h s hs
/-! ### an error's __init__ -/
theorem okInitX {P : Program} {w : World} {K : PySem.W.Frag} {mg : Str → Option Value} {base : Heap} {C fI : Addr} {fd : FuncData} {qual x0 x1 f : Str} {st : Stmt} {p1 p2 p3 p4 : Pos} (T : OexC K C) (hno : PySem.W.findIn K (.ref C) f = some none)
    (F : Fun K "__init__" qual st fI fd) (S : FnScope [x0, x1] [x0, x1] (defScope st)) (hb : defBody st = [.Assign [.Attribute (.Name x0 p1) f p2] (.Name x1 p3) p4])
    (h0 : okN x0 = true ∧ okN x1 = true) : FnOk P w K mg base (L2.CX P w) 1 fI fd [x0, x1] (spX C f) := by
  refine Fun.okX F S (fun vs H Q E h => ?_) fun cdv A outer s H vs Q E hr h => ?_
  · obtain ⟨a, v, rfl, _⟩ := h
    rfl
  · obtain ⟨a, v, rfl, ha, k⟩ := h
    rw [hb]
    have vis : ∀ x ∈ [x0, x1], ((defScope st).names.lookup x = some .local ∨ (defScope st).names.lookup x = some .cell) := S.par
    have vv : ∀ x ∈ [x0, x1], Vis (defScope st) x := fun x hx => (vis x hx).elim .inl fun h => .inr (.inl h)
    refine ⟨_, pss_one (ps_ost (pe_var (i := 0) rfl (vv x0 (by simp)) (okN_iff h0.1).1 (okN_iff h0.1).2.1) (pe_var (i := 1) rfl (vv x1 (by simp)) (okN_iff h0.2).1 (okN_iff h0.2).2.1) (noSwap rfl)), ?_⟩
    exact ⟨v, rfl, .ref a, rfl, a, C, rfl, T, hno, .inl ⟨ha, fun dx h1 h2 => k dx h1 h2⟩⟩
end Ev
set_option Elab.async false
set_option linter.all false
set_option maxRecDepth 100000
set_option autoImplicit false
set_option maxHeartbeats 0
namespace Lk55
open PySem L2 Ev
def top (i : Nat) : Stmt := PySem.Challenge.pw_everyreply_k55_whole_files_of_clauses.main.body.getD i (.Pass ⟨0, 0, 0, 0⟩)
def T : Tab := { funs := [("is_whole", 0), ("is_below", 1), ("are_below", 2), ("are_flags", 3), ("is_told", 4), ("is_ascending", 5), ("is_clause", 6), ("are_clauses", 7), ("clauses_asked", 10), ("made_clause", 11), ("joined_clause", 12), ("dropped_clause", 13), ("clause_of_step", 14), ("clauses_of_file", 15), ("told_by_file", 16), ("_law_cell", 17), ("_law_row", 18), ("_law_same", 19), ("_law_whole", 20), ("_law_spoiled", 21), ("_law_bits", 22), ("_law_is_cube", 23), ("_law_joined", 24), ("_law_dropped", 25), ("_law_step_told", 26), ("_law_file_clauses", 27), ("_law_clause", 28), ("_law_clauses", 29), ("_law_clause_book", 30), ("_law_steps", 31), ("law", 32)], clss := [("ReplyError", 0), ("NotClauses", 1), ("ClauseBook", 2)], csts := [("MOST_CLAUSE_FLAGS", .int 500), ("MOST_CLAUSES", .int 1000000)], flds := ["sides", "clauses"], meths := [], exs := [] }
abbrev s0 : Stmt := top 1
abbrev n0 : List Str := ["thing"]
abbrev p0 : List Str := ["thing"]
/-- is_whole -/
def d0 : Fd := ⟨1, 1, [.ret (.and (.nd (.isi (.b "int")) [(.var 0)]) (.not (.nd (.isi (.b "bool")) [(.var 0)])))]⟩
theorem c0 : seqM (cD (cS T n0 60 (defScope s0))) (defBody s0) = some d0.body := by kernel_rfl
theorem sc0 : FnScope n0 p0 (defScope s0) := ⟨rfl, rfl, rfl, by decide +kernel, rfl, by decide +kernel, by decide +kernel⟩
abbrev s1 : Stmt := top 2
abbrev n1 : List Str := ["thing", "bound"]
abbrev p1 : List Str := ["thing", "bound"]
/-- is_below -/
def d1 : Fd := ⟨2, 2, [.ret (.and (.na (.call 0) [(.var 0)]) (.ch .le .lt (.cst (.int 0)) (.var 0) (.var 1)))]⟩
theorem c1 : seqM (cD (cS T n1 60 (defScope s1))) (defBody s1) = some d1.body := by kernel_rfl
theorem sc1 : FnScope n1 p1 (defScope s1) := ⟨rfl, rfl, rfl, by decide +kernel, rfl, by decide +kernel, by decide +kernel⟩
abbrev s2 : Stmt := top 3
abbrev n2 : List Str := ["thing", "bound", "number"]
abbrev p2 : List Str := ["thing", "bound"]
/-- are_below -/
def d2 : Fd := ⟨2, 3, [.ret (.and (.nd (.isi (.b "tuple")) [(.var 0)]) (.nd (.bi .all) [(.lc (.var 2) .seq [(.var 0)] [] (.na (.call 1) [(.var 2), (.var 1)]) [2])]))]⟩
theorem c2 : seqM (cD (cS T n2 60 (defScope s2))) (defBody s2) = some d2.body := by kernel_rfl
theorem sc2 : FnScope n2 p2 (defScope s2) := ⟨rfl, rfl, rfl, by decide +kernel, rfl, by decide +kernel, by decide +kernel⟩
abbrev s3 : Stmt := top 4
abbrev n3 : List Str := ["thing", "flag"]
abbrev p3 : List Str := ["thing"]
/-- are_flags -/
def d3 : Fd := ⟨1, 2, [.ret (.and (.nd (.isi (.b "tuple")) [(.var 0)]) (.nd (.bi .all) [(.lc (.var 1) .seq [(.var 0)] [] (.nd (.isi (.b "bool")) [(.var 1)]) [1])]))]⟩
theorem c3 : seqM (cD (cS T n3 60 (defScope s3))) (defBody s3) = some d3.body := by kernel_rfl
theorem sc3 : FnScope n3 p3 (defScope s3) := ⟨rfl, rfl, rfl, by decide +kernel, rfl, by decide +kernel, by decide +kernel⟩
abbrev s4 : Stmt := top 5
abbrev n4 : List Str := ["thing", "word", "many"]
abbrev p4 : List Str := ["thing", "word", "many"]
/-- is_told -/
def d4 : Fd := ⟨3, 3, [.ret (.and (.nd (.isi (.b "tuple")) [(.var 0)]) (.and (.nd (.cmp .eq) [(.nd (.bi .len) [(.var 0)]), (.var 2)]) (.and (.nd (.isi (.b "str")) [(.nd .idx [(.var 0), (.cst (.int 0))])]) (.nd (.cmp .eq) [(.nd .idx [(.var 0), (.cst (.int 0))]), (.var 1)]))))]⟩
theorem c4 : seqM (cD (cS T n4 60 (defScope s4))) (defBody s4) = some d4.body := by kernel_rfl
theorem sc4 : FnScope n4 p4 (defScope s4) := ⟨rfl, rfl, rfl, by decide +kernel, rfl, by decide +kernel, by decide +kernel⟩
abbrev s5 : Stmt := top 6
abbrev n5 : List Str := ["thing", "at"]
abbrev p5 : List Str := ["thing"]
/-- is_ascending -/
def d5 : Fd := ⟨1, 2, [.ret (.nd (.bi .all) [(.lc (.var 1) .rng [(.cst (.int 1)), (.nd (.bi .len) [(.var 0)])] [] (.nd (.cmp .lt) [(.nd .idx [(.var 0), (.nd (.op .sub) [(.var 1), (.cst (.int 1))])]), (.nd .idx [(.var 0), (.var 1)])]) [1])])]⟩
theorem c5 : seqM (cD (cS T n5 60 (defScope s5))) (defBody s5) = some d5.body := by kernel_rfl
theorem sc5 : FnScope n5 p5 (defScope s5) := ⟨rfl, rfl, rfl, by decide +kernel, rfl, by decide +kernel, by decide +kernel⟩
abbrev s6 : Stmt := top 13
abbrev n6 : List Str := ["thing", "many", "at"]
abbrev p6 : List Str := ["thing", "many"]
/-- is_clause -/
def d6 : Fd := ⟨2, 3, [.ite (.or (.not (.na (.call 2) [(.var 0), (.nd (.op .mul) [(.cst (.int 2)), (.var 1)])])) (.not (.na (.call 5) [(.var 0)]))) [.ret (.cst (.bl false))] [], .ret (.nd (.bi .all) [(.lc (.var 2) .rng [(.cst (.int 1)), (.nd (.bi .len) [(.var 0)])] [] (.nd (.cmp .lt) [(.nd (.op .fdiv) [(.nd .idx [(.var 0), (.nd (.op .sub) [(.var 2), (.cst (.int 1))])]), (.cst (.int 2))]), (.nd (.op .fdiv) [(.nd .idx [(.var 0), (.var 2)]), (.cst (.int 2))])]) [2])])]⟩
theorem c6 : seqM (cD (cS T n6 60 (defScope s6))) (defBody s6) = some d6.body := by kernel_rfl
theorem sc6 : FnScope n6 p6 (defScope s6) := ⟨rfl, rfl, rfl, by decide +kernel, rfl, by decide +kernel, by decide +kernel⟩
abbrev s7 : Stmt := top 14
abbrev n7 : List Str := ["thing", "many", "clause"]
abbrev p7 : List Str := ["thing", "many"]
/-- are_clauses -/
def d7 : Fd := ⟨2, 3, [.ite (.or (.not (.nd (.isi (.b "tuple")) [(.var 0)])) (.nd (.cmp .gt) [(.nd (.bi .len) [(.var 0)]), (.cst (.int 1000000))])) [.ret (.cst (.bl false))] [], .ret (.and (.nd (.bi .all) [(.lc (.var 2) .seq [(.var 0)] [] (.na (.call 6) [(.var 2), (.var 1)]) [2])]) (.na (.call 5) [(.var 0)]))]⟩
theorem c7 : seqM (cD (cS T n7 60 (defScope s7))) (defBody s7) = some d7.body := by kernel_rfl
theorem sc7 : FnScope n7 p7 (defScope s7) := ⟨rfl, rfl, rfl, by decide +kernel, rfl, by decide +kernel, by decide +kernel⟩
abbrev s8 : Stmt := inClass (top 15) 0
abbrev n8 : List Str := ["self", "sides", "clauses"]
abbrev p8 : List Str := ["self", "sides", "clauses"]
/-- ClauseBook.__init__ -/
def d8 : Fd := ⟨3, 3, [.ite (.or (.not (.na (.call 3) [(.var 1)])) (.or (.nd (.cmp .gt) [(.nd (.bi .len) [(.var 1)]), (.cst (.int 500))]) (.not (.na (.call 7) [(.var 2), (.nd (.bi .len) [(.var 1)])])))) [.rse 1 []] [], .fldS (.var 0) 0 (.var 1), .fldS (.var 0) 1 (.var 2)]⟩
theorem c8 : seqM (cD (cS T n8 60 (defScope s8))) (defBody s8) = some d8.body := by kernel_rfl
theorem sc8 : FnScope n8 p8 (defScope s8) := ⟨rfl, rfl, rfl, by decide +kernel, rfl, by decide +kernel, by decide +kernel⟩
abbrev s9 : Stmt := inClass (top 15) 1
abbrev n9 : List Str := ["self", "other"]
abbrev p9 : List Str := ["self", "other"]
/-- ClauseBook.__eq__ -/
def d9 : Fd := ⟨2, 2, [.ret (.and (.nd (.isi (.c 2)) [(.var 1)]) (.and (.nd (.cmp .eq) [(.nd (.fld 0) [(.var 0)]), (.nd (.fld 0) [(.var 1)])]) (.nd (.cmp .eq) [(.nd (.fld 1) [(.var 0)]), (.nd (.fld 1) [(.var 1)])])))]⟩
theorem c9 : seqM (cD (cS T n9 60 (defScope s9))) (defBody s9) = some d9.body := by kernel_rfl
theorem sc9 : FnScope n9 p9 (defScope s9) := ⟨rfl, rfl, rfl, by decide +kernel, rfl, by decide +kernel, by decide +kernel⟩
abbrev s10 : Stmt := top 16
abbrev n10 : List Str := ["thing"]
abbrev p10 : List Str := ["thing"]
/-- clauses_asked -/
def d10 : Fd := ⟨1, 1, [.ite (.not (.nd (.isi (.c 2)) [(.var 0)])) [.rse 1 []] []]⟩
theorem c10 : seqM (cD (cS T n10 60 (defScope s10))) (defBody s10) = some d10.body := by kernel_rfl
theorem sc10 : FnScope n10 p10 (defScope s10) := ⟨rfl, rfl, rfl, by decide +kernel, rfl, by decide +kernel, by decide +kernel⟩
abbrev s11 : Stmt := top 17
abbrev n11 : List Str := ["literals", "kept", "literal"]
abbrev p11 : List Str := ["literals"]
/-- made_clause -/
def d11 : Fd := ⟨1, 3, [.set (.var 1) (.dc (.var 2) .seq [(.var 0)] [] (.var 2) (.cst (.bl true)) [2]), .ite (.nd (.bi .any) [(.lc (.var 2) .seq [(.var 1)] [] (.nd (.cmp .mem) [(.nd (.op .xor) [(.var 2), (.cst (.int 1))]), (.var 1)]) [2])]) [.ret (.cst (.non))] [], .ret (.nd (.bi .tuple) [(.nd (.bi .sorted) [(.var 1)])])]⟩
theorem c11 : seqM (cD (cS T n11 60 (defScope s11))) (defBody s11) = some d11.body := by kernel_rfl
theorem sc11 : FnScope n11 p11 (defScope s11) := ⟨rfl, rfl, rfl, by decide +kernel, rfl, by decide +kernel, by decide +kernel⟩
abbrev s12 : Stmt := top 19
abbrev n12 : List Str := ["one", "other", "flag", "literal"]
abbrev p12 : List Str := ["one", "other", "flag"]
/-- joined_clause -/
def d12 : Fd := ⟨3, 4, [.ite (.or (.nd (.cmp .nmem) [(.nd (.op .mul) [(.cst (.int 2)), (.var 2)]), (.var 0)]) (.nd (.cmp .nmem) [(.nd (.op .add) [(.nd (.op .mul) [(.cst (.int 2)), (.var 2)]), (.cst (.int 1))]), (.var 1)])) [.ret (.cst (.non))] [], .ret (.na (.call 11) [(.lc (.var 3) .seq [(.nd (.op .add) [(.var 0), (.var 1)])] [(.nd (.cmp .ne) [(.nd (.op .fdiv) [(.var 3), (.cst (.int 2))]), (.var 2)])] (.var 3) [3])])]⟩
theorem c12 : seqM (cD (cS T n12 60 (defScope s12))) (defBody s12) = some d12.body := by kernel_rfl
theorem sc12 : FnScope n12 p12 (defScope s12) := ⟨rfl, rfl, rfl, by decide +kernel, rfl, by decide +kernel, by decide +kernel⟩
abbrev s13 : Stmt := top 20
abbrev n13 : List Str := ["sides", "clause", "last", "literal"]
abbrev p13 : List Str := ["sides", "clause"]
/-- dropped_clause -/
def d13 : Fd := ⟨2, 4, [.set (.var 2) (.nd (.bi .max) [(.nd (.op .add) [(.na .lst [(.nd .neg [(.cst (.int 1))])]), (.nd (.bi .list) [(.lc (.var 3) .seq [(.var 1)] [(.nd .idx [(.var 0), (.nd (.op .fdiv) [(.var 3), (.cst (.int 2))])])] (.nd (.op .fdiv) [(.var 3), (.cst (.int 2))]) [3])])])]), .ret (.nd (.bi .tuple) [(.lc (.var 3) .seq [(.var 1)] [(.nd (.cmp .le) [(.nd (.op .fdiv) [(.var 3), (.cst (.int 2))]), (.var 2)])] (.var 3) [3])])]⟩
theorem c13 : seqM (cD (cS T n13 60 (defScope s13))) (defBody s13) = some d13.body := by kernel_rfl
theorem sc13 : FnScope n13 p13 (defScope s13) := ⟨rfl, rfl, rfl, by decide +kernel, rfl, by decide +kernel, by decide +kernel⟩
abbrev s14 : Stmt := top 21
abbrev n14 : List Str := ["sides", "given", "clauses", "step", "clause"]
abbrev p14 : List Str := ["sides", "given", "clauses", "step"]
/-- clause_of_step -/
def d14 : Fd := ⟨4, 5, [.ite (.na (.call 4) [(.var 3), (.cst (.str "given")), (.cst (.int 2))]) [.ret (.ite (.and (.na (.call 6) [(.nd .idx [(.var 3), (.cst (.int 1))]), (.nd (.bi .len) [(.var 0)])]) (.nd (.cmp .mem) [(.nd .idx [(.var 3), (.cst (.int 1))]), (.var 1)])) (.nd .idx [(.var 3), (.cst (.int 1))]) (.cst (.non)))] [], .ite (.na (.call 4) [(.var 3), (.cst (.str "join")), (.cst (.int 4))]) [.ite (.or (.not (.na (.call 1) [(.nd .idx [(.var 3), (.cst (.int 1))]), (.nd (.bi .len) [(.var 2)])])) (.not (.na (.call 1) [(.nd .idx [(.var 3), (.cst (.int 2))]), (.nd (.bi .len) [(.var 2)])]))) [.ret (.cst (.non))] [], .ite (.or (.not (.na (.call 1) [(.nd .idx [(.var 3), (.cst (.int 3))]), (.nd (.bi .len) [(.var 0)])])) (.not (.nd .idx [(.var 0), (.nd .idx [(.var 3), (.cst (.int 3))])]))) [.ret (.cst (.non))] [], .ret (.na (.call 12) [(.nd .idx [(.var 2), (.nd .idx [(.var 3), (.cst (.int 1))])]), (.nd .idx [(.var 2), (.nd .idx [(.var 3), (.cst (.int 2))])]), (.nd .idx [(.var 3), (.cst (.int 3))])])] [], .ite (.or (.not (.na (.call 4) [(.var 3), (.cst (.str "drop")), (.cst (.int 2))])) (.not (.na (.call 1) [(.nd .idx [(.var 3), (.cst (.int 1))]), (.nd (.bi .len) [(.var 2)])]))) [.ret (.cst (.non))] [], .set (.var 4) (.na (.call 13) [(.var 0), (.nd .idx [(.var 2), (.nd .idx [(.var 3), (.cst (.int 1))])])]), .ret (.ite (.nd (.cmp .eq) [(.var 4), (.nd .idx [(.var 2), (.nd .idx [(.var 3), (.cst (.int 1))])])]) (.cst (.non)) (.var 4))]⟩
theorem c14 : seqM (cD (cS T n14 60 (defScope s14))) (defBody s14) = some d14.body := by kernel_rfl
theorem sc14 : FnScope n14 p14 (defScope s14) := ⟨rfl, rfl, rfl, by decide +kernel, rfl, by decide +kernel, by decide +kernel⟩
abbrev s15 : Stmt := top 22
abbrev n15 : List Str := ["cbook", "thing", "clause", "given", "found", "step"]
abbrev p15 : List Str := ["cbook", "thing"]
/-- clauses_of_file -/
def d15 : Fd := ⟨2, 6, [.ite (.not (.nd (.isi (.b "tuple")) [(.var 1)])) [.ret (.cst (.non))] [], .set (.var 3) (.dc (.var 2) .seq [(.nd (.fld 1) [(.var 0)])] [] (.var 2) (.cst (.bl true)) [2]), .set (.var 4) (.na .lst []), .fr (.var 5) .seq [(.var 1)] [.set (.var 2) (.na (.call 14) [(.nd (.fld 0) [(.var 0)]), (.var 3), (.var 4), (.var 5)]), .ite (.nd (.cmp .is) [(.var 2), (.cst (.non))]) [.ret (.cst (.non))] [], .ex (.meth .append (.var 4) [(.var 2)])], .ret (.var 4)]⟩
theorem c15 : seqM (cD (cS T n15 60 (defScope s15))) (defBody s15) = some d15.body := by kernel_rfl
theorem sc15 : FnScope n15 p15 (defScope s15) := ⟨rfl, rfl, rfl, by decide +kernel, rfl, by decide +kernel, by decide +kernel⟩
abbrev s16 : Stmt := top 23
abbrev n16 : List Str := ["cbook", "thing", "found"]
abbrev p16 : List Str := ["cbook", "thing"]
/-- told_by_file -/
def d16 : Fd := ⟨2, 3, [.ex (.na (.call 10) [(.var 0)]), .set (.var 2) (.na (.call 15) [(.var 0), (.var 1)]), .ret (.ite (.nd (.cmp .is) [(.var 2), (.cst (.non))]) (.cst (.non)) (.nd (.bi .tuple) [(.var 2)]))]⟩
theorem c16 : seqM (cD (cS T n16 60 (defScope s16))) (defBody s16) = some d16.body := by kernel_rfl
theorem sc16 : FnScope n16 p16 (defScope s16) := ⟨rfl, rfl, rfl, by decide +kernel, rfl, by decide +kernel, by decide +kernel⟩
abbrev s17 : Stmt := top 25
abbrev n17 : List Str := ["script", "k"]
abbrev p17 : List Str := ["script", "k"]
/-- _law_cell -/
def d17 : Fd := ⟨2, 2, [.ite (.nd (.cmp .lt) [(.var 1), (.nd (.bi .len) [(.var 0)])]) [.ret (.nd .idx [(.var 0), (.var 1)])] [], .ret (.cst (.int 0))]⟩
theorem c17 : seqM (cD (cS T n17 60 (defScope s17))) (defBody s17) = some d17.body := by kernel_rfl
theorem sc17 : FnScope n17 p17 (defScope s17) := ⟨rfl, rfl, rfl, by decide +kernel, rfl, by decide +kernel, by decide +kernel⟩
abbrev s18 : Stmt := top 26
abbrev n18 : List Str := ["cell", "bounds", "left", "great", "mixed", "row", "k"]
abbrev p18 : List Str := ["cell", "bounds"]
/-- _law_row -/
def d18 : Fd := ⟨2, 7, [.set (.var 2) (.nd (.bi .abs) [(.var 0)]), .set (.var 3) (.nd (.cmp .ge) [(.var 2), (.nd (.op .pow) [(.cst (.int 10)), (.cst (.int 18))])]), .set (.var 4) (.nd (.op .mod) [(.nd (.bi .int) [(.var 2)]), (.cst (.int 2147483647))]), .set (.var 5) (.na .lst []), .fr (.var 6) .rng [(.nd (.bi .len) [(.var 1)])] [.set (.var 4) (.nd (.op .mod) [(.nd (.bi .int) [(.nd (.op .add) [(.nd (.op .add) [(.nd (.op .mul) [(.var 4), (.cst (.int 48271))]), (.nd (.op .mul) [(.cst (.int 29)), (.var 6)])]), (.cst (.int 17))])]), (.cst (.int 2147483647))]), .set (.var 4) (.nd (.op .mod) [(.nd (.bi .int) [(.nd (.op .add) [(.nd (.op .add) [(.nd (.op .mul) [(.var 4), (.cst (.int 69621))]), (.nd (.op .mul) [(.cst (.int 13)), (.var 6)])]), (.cst (.int 5))])]), (.cst (.int 2147483629))]), .ite (.and (.var 3) (.nd (.cmp .gt) [(.var 2), (.cst (.int 0))])) [.ex (.meth .append (.var 5) [(.nd (.op .mod) [(.nd (.bi .int) [(.var 2)]), (.nd .idx [(.var 1), (.var 6)])])]), .set (.var 2) (.nd (.op .fdiv) [(.var 2), (.nd .idx [(.var 1), (.var 6)])])] [.ex (.meth .append (.var 5) [(.nd (.op .mod) [(.nd (.bi .int) [(.nd (.op .fdiv) [(.var 4), (.cst (.int 7))])]), (.nd .idx [(.var 1), (.var 6)])])])]], .ret (.var 5)]⟩
theorem c18 : seqM (cD (cS T n18 60 (defScope s18))) (defBody s18) = some d18.body := by kernel_rfl
theorem sc18 : FnScope n18 p18 (defScope s18) := ⟨rfl, rfl, rfl, by decide +kernel, rfl, by decide +kernel, by decide +kernel⟩
abbrev s19 : Stmt := top 27
abbrev n19 : List Str := ["found", "due", "k"]
abbrev p19 : List Str := ["found", "due"]
/-- _law_same -/
def d19 : Fd := ⟨2, 3, [.ite (.nd (.isi (.b "tuple")) [(.var 1)]) [.ite (.or (.not (.nd (.isi (.b "tuple")) [(.var 0)])) (.nd (.cmp .ne) [(.nd (.bi .len) [(.var 0)]), (.nd (.bi .len) [(.var 1)])])) [.ret (.cst (.bl false))] [], .ret (.nd (.bi .all) [(.lc (.var 2) .rng [(.nd (.bi .len) [(.var 1)])] [] (.na (.call 19) [(.nd .idx [(.var 0), (.var 2)]), (.nd .idx [(.var 1), (.var 2)])]) [2])])] [], .ite (.nd (.isi (.b "list")) [(.var 1)]) [.ite (.or (.not (.nd (.isi (.b "list")) [(.var 0)])) (.nd (.cmp .ne) [(.nd (.bi .len) [(.var 0)]), (.nd (.bi .len) [(.var 1)])])) [.ret (.cst (.bl false))] [], .ret (.nd (.bi .all) [(.lc (.var 2) .rng [(.nd (.bi .len) [(.var 1)])] [] (.na (.call 19) [(.nd .idx [(.var 0), (.var 2)]), (.nd .idx [(.var 1), (.var 2)])]) [2])])] [], .ite (.nd (.cmp .is) [(.var 1), (.cst (.non))]) [.ret (.nd (.cmp .is) [(.var 0), (.cst (.non))])] [], .ite (.nd (.isi (.b "bool")) [(.var 1)]) [.ret (.and (.nd (.isi (.b "bool")) [(.var 0)]) (.nd (.cmp .eq) [(.var 0), (.var 1)]))] [], .ite (.nd (.isi (.b "int")) [(.var 1)]) [.ret (.and (.nd (.isi (.b "int")) [(.var 0)]) (.and (.not (.nd (.isi (.b "bool")) [(.var 0)])) (.nd (.cmp .eq) [(.var 0), (.var 1)])))] [], .ret (.and (.nd (.isi (.b "str")) [(.var 0)]) (.and (.nd (.isi (.b "str")) [(.var 1)]) (.nd (.cmp .eq) [(.var 0), (.var 1)])))]⟩
theorem c19 : seqM (cD (cS T n19 60 (defScope s19))) (defBody s19) = some d19.body := by kernel_rfl
theorem sc19 : FnScope n19 p19 (defScope s19) := ⟨rfl, rfl, rfl, by decide +kernel, rfl, by decide +kernel, by decide +kernel⟩
abbrev s20 : Stmt := top 28
abbrev n20 : List Str := ["found", "low", "high"]
abbrev p20 : List Str := ["found", "low", "high"]
/-- _law_whole -/
def d20 : Fd := ⟨3, 3, [.ret (.and (.nd (.isi (.b "int")) [(.var 0)]) (.and (.not (.nd (.isi (.b "bool")) [(.var 0)])) (.ch .le .le (.var 1) (.var 0) (.var 2))))]⟩
theorem c20 : seqM (cD (cS T n20 60 (defScope s20))) (defBody s20) = some d20.body := by kernel_rfl
theorem sc20 : FnScope n20 p20 (defScope s20) := ⟨rfl, rfl, rfl, by decide +kernel, rfl, by decide +kernel, by decide +kernel⟩
abbrev s21 : Stmt := top 29
abbrev n21 : List Str := ["cell", "some"]
abbrev p21 : List Str := ["cell"]
/-- _law_spoiled -/
def d21 : Fd := ⟨1, 2, [.set (.var 1) (.na .lst [(.cst (.non)), (.cst (.bl true)), (.nd .neg [(.cst (.int 1))]), (.cst (.str "0")), (.na .tup []), (.na .lst []), (.na .tup [(.cst (.int 0)), (.cst (.bl true))]), (.nd .dct [])]), .set (.var 1) (.nd (.op .add) [(.var 1), (.na .lst [(.na .tup [(.na .tup [])]), (.cst (.str "and")), (.nd (.op .pow) [(.cst (.int 10)), (.cst (.int 30))]), (.na .tup [(.na .lst [])]), (.na .tup [(.cst (.non))]), (.na .tup [(.na .tup [(.cst (.int 0))])])])]), .ret (.nd .idx [(.var 1), (.nd (.op .mod) [(.nd (.bi .int) [(.var 0)]), (.nd (.bi .len) [(.var 1)])])])]⟩
theorem c21 : seqM (cD (cS T n21 60 (defScope s21))) (defBody s21) = some d21.body := by kernel_rfl
theorem sc21 : FnScope n21 p21 (defScope s21) := ⟨rfl, rfl, rfl, by decide +kernel, rfl, by decide +kernel, by decide +kernel⟩
abbrev s22 : Stmt := top 30
abbrev n22 : List Str := ["number", "many", "bits", "k"]
abbrev p22 : List Str := ["number", "many"]
/-- _law_bits -/
def d22 : Fd := ⟨2, 4, [.set (.var 2) (.na .lst []), .fr (.var 3) .rng [(.var 1)] [.ex (.meth .append (.var 2) [(.nd (.cmp .eq) [(.nd (.op .mod) [(.var 0), (.cst (.int 2))]), (.cst (.int 1))])]), .set (.var 0) (.nd (.op .fdiv) [(.var 0), (.cst (.int 2))])], .ret (.nd (.bi .tuple) [(.var 2)])]⟩
theorem c22 : seqM (cD (cS T n22 60 (defScope s22))) (defBody s22) = some d22.body := by kernel_rfl
theorem sc22 : FnScope n22 p22 (defScope s22) := ⟨rfl, rfl, rfl, by decide +kernel, rfl, by decide +kernel, by decide +kernel⟩
abbrev s23 : Stmt := top 31
abbrev n23 : List Str := ["thing", "many", "literal", "k"]
abbrev p23 : List Str := ["thing", "many"]
/-- _law_is_cube -/
def d23 : Fd := ⟨2, 4, [.ite (.or (.not (.nd (.isi (.b "tuple")) [(.var 0)])) (.not (.nd (.bi .all) [(.lc (.var 2) .seq [(.var 0)] [] (.na (.call 20) [(.var 2), (.cst (.int 0)), (.nd (.op .sub) [(.nd (.op .mul) [(.cst (.int 2)), (.var 1)]), (.cst (.int 1))])]) [2])]))) [.ret (.cst (.bl false))] [], .ret (.nd (.bi .all) [(.lc (.var 3) .rng [(.cst (.int 1)), (.nd (.bi .len) [(.var 0)])] [] (.nd (.cmp .lt) [(.nd (.op .fdiv) [(.nd .idx [(.var 0), (.nd (.op .sub) [(.var 3), (.cst (.int 1))])]), (.cst (.int 2))]), (.nd (.op .fdiv) [(.nd .idx [(.var 0), (.var 3)]), (.cst (.int 2))])]) [3])])]⟩
theorem c23 : seqM (cD (cS T n23 60 (defScope s23))) (defBody s23) = some d23.body := by kernel_rfl
theorem sc23 : FnScope n23 p23 (defScope s23) := ⟨rfl, rfl, rfl, by decide +kernel, rfl, by decide +kernel, by decide +kernel⟩
abbrev s24 : Stmt := top 32
abbrev n24 : List Str := ["one", "other", "flag", "rest", "literal", "k"]
abbrev p24 : List Str := ["one", "other", "flag"]
/-- _law_joined -/
def d24 : Fd := ⟨3, 6, [.ite (.or (.nd (.cmp .nmem) [(.nd (.op .mul) [(.cst (.int 2)), (.var 2)]), (.var 0)]) (.nd (.cmp .nmem) [(.nd (.op .add) [(.nd (.op .mul) [(.cst (.int 2)), (.var 2)]), (.cst (.int 1))]), (.var 1)])) [.ret (.cst (.non))] [], .set (.var 3) (.nd (.bi .sorted) [(.lc (.var 4) .seq [(.var 0)] [(.nd (.cmp .ne) [(.nd (.op .fdiv) [(.var 4), (.cst (.int 2))]), (.var 2)])] (.var 4) [4])]), .set (.var 3) (.nd (.bi .sorted) [(.nd (.op .add) [(.var 3), (.lc (.var 4) .seq [(.var 1)] [(.and (.nd (.cmp .ne) [(.nd (.op .fdiv) [(.var 4), (.cst (.int 2))]), (.var 2)]) (.nd (.cmp .nmem) [(.var 4), (.var 3)]))] (.var 4) [4])])]), .ite (.not (.nd (.bi .all) [(.lc (.var 5) .rng [(.cst (.int 1)), (.nd (.bi .len) [(.var 3)])] [] (.nd (.cmp .lt) [(.nd (.op .fdiv) [(.nd .idx [(.var 3), (.nd (.op .sub) [(.var 5), (.cst (.int 1))])]), (.cst (.int 2))]), (.nd (.op .fdiv) [(.nd .idx [(.var 3), (.var 5)]), (.cst (.int 2))])]) [5])])) [.ret (.cst (.non))] [], .ret (.nd (.bi .tuple) [(.var 3)])]⟩
theorem c24 : seqM (cD (cS T n24 60 (defScope s24))) (defBody s24) = some d24.body := by kernel_rfl
theorem sc24 : FnScope n24 p24 (defScope s24) := ⟨rfl, rfl, rfl, by decide +kernel, rfl, by decide +kernel, by decide +kernel⟩
abbrev s25 : Stmt := top 33
abbrev n25 : List Str := ["sides", "side", "row", "last", "literal"]
abbrev p25 : List Str := ["sides", "side", "row"]
/-- _law_dropped -/
def d25 : Fd := ⟨3, 5, [.set (.var 3) (.nd (.bi .max) [(.nd (.op .add) [(.na .lst [(.nd .neg [(.cst (.int 1))])]), (.lc (.var 4) .seq [(.var 2)] [(.nd (.cmp .ne) [(.nd .idx [(.var 0), (.nd (.op .fdiv) [(.var 4), (.cst (.int 2))])]), (.var 1)])] (.nd (.op .fdiv) [(.var 4), (.cst (.int 2))]) [4])])]), .ret (.nd (.bi .tuple) [(.lc (.var 4) .seq [(.var 2)] [(.nd (.cmp .le) [(.nd (.op .fdiv) [(.var 4), (.cst (.int 2))]), (.var 3)])] (.var 4) [4])])]⟩
theorem c25 : seqM (cD (cS T n25 60 (defScope s25))) (defBody s25) = some d25.body := by kernel_rfl
theorem sc25 : FnScope n25 p25 (defScope s25) := ⟨rfl, rfl, rfl, by decide +kernel, rfl, by decide +kernel, by decide +kernel⟩
abbrev s26 : Stmt := top 34
abbrev n26 : List Str := ["sides", "side", "rows", "step", "row", "number"]
abbrev p26 : List Str := ["sides", "side", "rows", "step"]
/-- _law_step_told -/
def d26 : Fd := ⟨4, 6, [.ite (.or (.not (.nd (.isi (.b "tuple")) [(.var 3)])) (.or (.nd (.cmp .lt) [(.nd (.bi .len) [(.var 3)]), (.cst (.int 2))]) (.not (.nd (.isi (.b "str")) [(.nd .idx [(.var 3), (.cst (.int 0))])])))) [.ret (.cst (.non))] [], .ite (.not (.nd (.bi .all) [(.lc (.var 5) .seq [(.nd (.slc 1) [(.var 3), (.cst (.int 1))])] [] (.na (.call 20) [(.var 5), (.cst (.int 0)), (.nd (.op .pow) [(.cst (.int 10)), (.cst (.int 6))])]) [5])])) [.ret (.cst (.non))] [], .ite (.and (.nd (.cmp .eq) [(.nd .idx [(.var 3), (.cst (.int 0))]), (.cst (.str "drop"))]) (.and (.nd (.cmp .eq) [(.nd (.bi .len) [(.var 3)]), (.cst (.int 2))]) (.nd (.cmp .lt) [(.nd .idx [(.var 3), (.cst (.int 1))]), (.nd (.bi .len) [(.var 2)])]))) [.set (.var 4) (.na (.call 25) [(.var 0), (.var 1), (.nd .idx [(.var 2), (.nd .idx [(.var 3), (.cst (.int 1))])])]), .ite (.nd (.cmp .ne) [(.var 4), (.nd .idx [(.var 2), (.nd .idx [(.var 3), (.cst (.int 1))])])]) [.ret (.var 4)] []] [], .ite (.and (.nd (.cmp .eq) [(.nd .idx [(.var 3), (.cst (.int 0))]), (.cst (.str "join"))]) (.and (.nd (.cmp .eq) [(.nd (.bi .len) [(.var 3)]), (.cst (.int 4))]) (.nd (.cmp .lt) [(.nd .max2 [(.nd .idx [(.var 3), (.cst (.int 1))]), (.nd .idx [(.var 3), (.cst (.int 2))])]), (.nd (.bi .len) [(.var 2)])]))) [.ite (.and (.nd (.cmp .lt) [(.nd .idx [(.var 3), (.cst (.int 3))]), (.nd (.bi .len) [(.var 0)])]) (.nd (.cmp .ne) [(.nd .idx [(.var 0), (.nd .idx [(.var 3), (.cst (.int 3))])]), (.var 1)])) [.ret (.na (.call 24) [(.nd .idx [(.var 2), (.nd .idx [(.var 3), (.cst (.int 1))])]), (.nd .idx [(.var 2), (.nd .idx [(.var 3), (.cst (.int 2))])]), (.nd .idx [(.var 3), (.cst (.int 3))])])] []] [], .ret (.cst (.non))]⟩
theorem c26 : seqM (cD (cS T n26 60 (defScope s26))) (defBody s26) = some d26.body := by kernel_rfl
theorem sc26 : FnScope n26 p26 (defScope s26) := ⟨rfl, rfl, rfl, by decide +kernel, rfl, by decide +kernel, by decide +kernel⟩
abbrev s27 : Stmt := top 35
abbrev n27 : List Str := ["sides", "clauses", "thing", "found", "step", "clause"]
abbrev p27 : List Str := ["sides", "clauses", "thing"]
/-- _law_file_clauses -/
def d27 : Fd := ⟨3, 6, [.ite (.not (.nd (.isi (.b "tuple")) [(.var 2)])) [.ret (.cst (.non))] [], .set (.var 3) (.na .lst []), .fr (.var 4) .seq [(.var 2)] [.set (.var 5) (.cst (.non)), .ite (.and (.nd (.isi (.b "tuple")) [(.var 4)]) (.and (.nd (.cmp .eq) [(.nd (.bi .len) [(.var 4)]), (.cst (.int 2))]) (.na (.call 19) [(.nd .idx [(.var 4), (.cst (.int 0))]), (.cst (.str "given"))]))) [.ite (.and (.na (.call 23) [(.nd .idx [(.var 4), (.cst (.int 1))]), (.nd (.bi .len) [(.var 0)])]) (.nd (.cmp .mem) [(.nd .idx [(.var 4), (.cst (.int 1))]), (.var 1)])) [.set (.var 5) (.nd .idx [(.var 4), (.cst (.int 1))])] []] [.set (.var 5) (.na (.call 26) [(.var 0), (.cst (.bl false)), (.var 3), (.var 4)])], .ite (.nd (.cmp .is) [(.var 5), (.cst (.non))]) [.ret (.cst (.non))] [], .ex (.meth .append (.var 3) [(.var 5)])], .ret (.var 3)]⟩
theorem c27 : seqM (cD (cS T n27 60 (defScope s27))) (defBody s27) = some d27.body := by kernel_rfl
theorem sc27 : FnScope n27 p27 (defScope s27) := ⟨rfl, rfl, rfl, by decide +kernel, rfl, by decide +kernel, by decide +kernel⟩
abbrev s28 : Stmt := top 36
abbrev n28 : List Str := ["cell", "many", "most", "digits", "kept", "literal", "other"]
abbrev p28 : List Str := ["cell", "many", "most"]
/-- _law_clause -/
def d28 : Fd := ⟨3, 7, [.set (.var 3) (.na (.call 18) [(.var 0), (.nd (.op .add) [(.na .lst [(.nd (.op .add) [(.var 2), (.cst (.int 1))])]), (.nd (.op .mul) [(.na .lst [(.nd (.op .mul) [(.cst (.int 2)), (.var 1)])]), (.var 2)])])]), .set (.var 4) (.na .lst []), .fr (.var 5) .seq [(.sl (.var 3) (.cst (.int 1)) (.nd (.op .add) [(.cst (.int 1)), (.nd .idx [(.var 3), (.cst (.int 0))])]))] [.ite (.nd (.bi .all) [(.lc (.var 6) .seq [(.var 4)] [] (.nd (.cmp .ne) [(.nd (.op .fdiv) [(.var 5), (.cst (.int 2))]), (.nd (.op .fdiv) [(.var 6), (.cst (.int 2))])]) [6])]) [.ex (.meth .append (.var 4) [(.var 5)])] []], .ret (.nd (.bi .tuple) [(.nd (.bi .sorted) [(.var 4)])])]⟩
theorem c28 : seqM (cD (cS T n28 60 (defScope s28))) (defBody s28) = some d28.body := by kernel_rfl
theorem sc28 : FnScope n28 p28 (defScope s28) := ⟨rfl, rfl, rfl, by decide +kernel, rfl, by decide +kernel, by decide +kernel⟩
abbrev s29 : Stmt := top 37
abbrev n29 : List Str := ["cell", "many", "most", "size", "digits", "found", "k", "clause"]
abbrev p29 : List Str := ["cell", "many", "most", "size"]
/-- _law_clauses -/
def d29 : Fd := ⟨4, 8, [.set (.var 4) (.na (.call 18) [(.var 0), (.nd (.op .add) [(.na .lst [(.nd (.op .add) [(.var 2), (.cst (.int 1))])]), (.nd (.op .mul) [(.na .lst [(.nd (.op .pow) [(.cst (.int 10)), (.cst (.int 9))])]), (.var 2)])])]), .set (.var 5) (.na .lst []), .fr (.var 6) .rng [(.nd .idx [(.var 4), (.cst (.int 0))])] [.set (.var 7) (.na (.call 28) [(.nd .idx [(.var 4), (.nd (.op .add) [(.cst (.int 1)), (.var 6)])]), (.var 1), (.var 3)]), .ite (.and (.nd (.cmp .nmem) [(.var 7), (.var 5)]) (.or (.nd (.cmp .ne) [(.var 7), (.na .tup [])]) (.nd (.cmp .eq) [(.nd (.op .mod) [(.nd .idx [(.var 4), (.nd (.op .add) [(.cst (.int 1)), (.var 6)])]), (.cst (.int 11))]), (.cst (.int 0))]))) [.ex (.meth .append (.var 5) [(.var 7)])] []], .ret (.nd (.bi .tuple) [(.nd (.bi .sorted) [(.var 5)])])]⟩
theorem c29 : seqM (cD (cS T n29 60 (defScope s29))) (defBody s29) = some d29.body := by kernel_rfl
theorem sc29 : FnScope n29 p29 (defScope s29) := ⟨rfl, rfl, rfl, by decide +kernel, rfl, by decide +kernel, by decide +kernel⟩
abbrev s30 : Stmt := top 38
abbrev n30 : List Str := ["cell", "many", "most", "size", "digits"]
abbrev p30 : List Str := ["cell", "many", "most", "size"]
/-- _law_clause_book -/
def d30 : Fd := ⟨4, 5, [.set (.var 4) (.na (.call 18) [(.var 0), (.na .lst [(.cst (.int 256)), (.nd (.op .pow) [(.cst (.int 10)), (.cst (.int 9))])])]), .ret (.na .tup [(.na (.call 22) [(.nd .idx [(.var 4), (.cst (.int 0))]), (.var 1)]), (.na (.call 29) [(.nd .idx [(.var 4), (.cst (.int 1))]), (.var 1), (.var 2), (.var 3)])])]⟩
theorem c30 : seqM (cD (cS T n30 60 (defScope s30))) (defBody s30) = some d30.body := by kernel_rfl
theorem sc30 : FnScope n30 p30 (defScope s30) := ⟨rfl, rfl, rfl, by decide +kernel, rfl, by decide +kernel, by decide +kernel⟩
abbrev s31 : Stmt := top 39
abbrev n31 : List Str := ["cell", "sides", "clauses", "digits", "steps", "rows", "k", "row", "step", "pairs", "i", "j", "flag", "drops", "told"]
abbrev p31 : List Str := ["cell", "sides", "clauses"]
/-- _law_steps -/
def d31 : Fd := ⟨3, 15, [.set (.var 3) (.na (.call 18) [(.var 0), (.nd (.op .add) [(.na .lst [(.cst (.int 13))]), (.nd (.op .mul) [(.na .lst [(.cst (.int 4)), (.cst (.int 20)), (.cst (.int 20)), (.cst (.int 10))]), (.cst (.int 12))])])]), .set (.var 4) (.na .lst []), .set (.var 5) (.na .lst []), .fr (.var 6) .rng [(.nd .idx [(.var 3), (.cst (.int 0))])] [.set (.var 7) (.sl (.var 3) (.nd (.op .add) [(.cst (.int 1)), (.nd (.op .mul) [(.cst (.int 4)), (.var 6)])]) (.nd (.op .add) [(.cst (.int 5)), (.nd (.op .mul) [(.cst (.int 4)), (.var 6)])])), .set (.var 8) (.na .tup [(.cst (.str "given")), (.na .tup [])]), .ite (.nd (.cmp .gt) [(.nd (.bi .len) [(.var 2)]), (.cst (.int 0))]) [.set (.var 8) (.na .tup [(.cst (.str "given")), (.nd .idx [(.var 2), (.nd (.op .mod) [(.nd .idx [(.var 7), (.cst (.int 1))]), (.nd (.bi .len) [(.var 2)])])])])] [], .ite (.and (.nd (.cmp .gt) [(.nd .idx [(.var 7), (.cst (.int 0))]), (.cst (.int 0))]) (.nd (.cmp .gt) [(.nd (.bi .len) [(.var 5)]), (.cst (.int 0))])) [.set (.var 9) (.na .lst []), .fr (.var 10) .rng [(.nd (.bi .len) [(.var 5)])] [.fr (.var 11) .rng [(.nd (.bi .len) [(.var 5)])] [.fr (.var 12) .rng [(.nd (.bi .len) [(.var 1)])] [.ite (.and (.nd .idx [(.var 1), (.var 12)]) (.nd (.cmp .nis) [(.na (.call 24) [(.nd .idx [(.var 5), (.var 10)]), (.nd .idx [(.var 5), (.var 11)]), (.var 12)]), (.cst (.non))])) [.ex (.meth .append (.var 9) [(.na .tup [(.cst (.str "join")), (.var 10), (.var 11), (.var 12)])])] []]]], .set (.var 13) (.lc (.var 10) .rng [(.nd (.bi .len) [(.var 5)])] [(.nd (.cmp .ne) [(.na (.call 25) [(.var 1), (.cst (.bl false)), (.nd .idx [(.var 5), (.var 10)])]), (.nd .idx [(.var 5), (.var 10)])])] (.na .tup [(.cst (.str "drop")), (.var 10)]) [10]), .ite (.and (.nd (.cmp .eq) [(.nd .idx [(.var 7), (.cst (.int 0))]), (.cst (.int 1))]) (.nd (.cmp .gt) [(.nd (.bi .len) [(.var 13)]), (.cst (.int 0))])) [.set (.var 8) (.nd .idx [(.var 13), (.nd (.op .mod) [(.nd .idx [(.var 7), (.cst (.int 1))]), (.nd (.bi .len) [(.var 13)])])])] [.ite (.nd (.cmp .gt) [(.nd (.bi .len) [(.var 9)]), (.cst (.int 0))]) [.set (.var 8) (.nd .idx [(.var 9), (.nd (.op .mod) [(.nd (.op .add) [(.nd (.op .mul) [(.cst (.int 20)), (.nd .idx [(.var 7), (.cst (.int 1))])]), (.nd .idx [(.var 7), (.cst (.int 2))])]), (.nd (.bi .len) [(.var 9)])])])] []]] [], .set (.var 14) (.na (.call 27) [(.var 1), (.var 2), (.nd (.op .add) [(.nd (.bi .tuple) [(.var 4)]), (.na .tup [(.var 8)])])]), .ite (.nd (.cmp .nis) [(.var 14), (.cst (.non))]) [.ex (.meth .append (.var 4) [(.var 8)]), .set (.var 5) (.var 14)] []], .ret (.nd (.bi .tuple) [(.var 4)])]⟩
theorem c31 : seqM (cD (cS T n31 60 (defScope s31))) (defBody s31) = some d31.body := by kernel_rfl
theorem sc31 : FnScope n31 p31 (defScope s31) := ⟨rfl, rfl, rfl, by decide +kernel, rfl, by decide +kernel, by decide +kernel⟩
abbrev s32 : Stmt := top 40
abbrev n32 : List Str := ["script", "digits", "sides", "clauses", "cbook", "steps", "at", "bad", "things", "thing", "due", "error"]
abbrev p32 : List Str := ["script"]
/-- law -/
def d32 : Fd := ⟨1, 12, [.set (.var 1) (.na (.call 18) [(.na (.call 17) [(.var 0), (.cst (.int 0))]), (.na .lst [(.cst (.int 8)), (.cst (.int 14)), (.cst (.int 13)), (.cst (.int 10))])]), .set (.tup [(.var 2), (.var 3)]) (.na (.call 30) [(.na (.call 17) [(.var 0), (.cst (.int 1))]), (.nd (.op .add) [(.cst (.int 1)), (.nd .idx [(.var 1), (.cst (.int 0))])]), (.cst (.int 12)), (.cst (.int 3))]), .set (.var 4) (.na (.mk 2) [(.var 2), (.var 3)]), .set (.var 5) (.na (.call 31) [(.na (.call 17) [(.var 0), (.cst (.int 2))]), (.var 2), (.var 3)]), .set (.var 6) (.nd (.op .mod) [(.nd .idx [(.var 1), (.cst (.int 2))]), (.nd (.op .add) [(.nd (.bi .len) [(.var 5)]), (.cst (.int 1))])]), .set (.var 7) (.na .lst [(.na .tup [(.cst (.str "given")), (.na .tup [(.cst (.int 0)), (.cst (.int 1))])]), (.na .tup [(.cst (.str "join")), (.cst (.int 0)), (.cst (.int 0)), (.cst (.int 0))]), (.na .tup [(.cst (.str "drop")), (.cst (.int 0))]), (.na .tup [(.cst (.str "drop")), (.cst (.int 99))]), (.na .tup [(.cst (.str "join")), (.cst (.int 0)), (.cst (.int 1)), (.cst (.int 99))]), (.na .tup [(.cst (.str "leaf")), (.na .tup [])])]), .set (.var 7) (.nd (.op .add) [(.var 7), (.na .lst [(.na .tup [(.cst (.str "given"))]), (.na .lst [(.cst (.str "drop")), (.cst (.int 0))]), (.na .tup [(.cst (.str "drop")), (.cst (.bl true))]), (.na .tup [(.cst (.str "join")), (.cst (.int 0)), (.cst (.int 1))])])]), .set (.var 8) (.na .lst [(.var 5), (.nd (.bi .list) [(.var 5)]), (.nd (.slc 1) [(.var 5), (.cst (.int 1))]), (.nd (.op .add) [(.nd (.op .add) [(.nd (.slc 2) [(.var 5), (.var 6)]), (.na .tup [(.nd .idx [(.var 7), (.nd .idx [(.var 1), (.cst (.int 3))])])])]), (.nd (.slc 1) [(.var 5), (.var 6)])]), (.na (.call 21) [(.nd .idx [(.var 1), (.cst (.int 1))])])]), .fr (.var 9) .seq [(.nd (.op .add) [(.var 8), (.na .lst [(.nd (.op .add) [(.var 5), (.nd (.slc 1) [(.var 5), (.nd .neg [(.cst (.int 1))])])]), (.nd .bk [(.var 5)])])])] [.set (.var 10) (.na (.call 27) [(.var 2), (.var 3), (.var 9)]), .ite (.nd (.cmp .nis) [(.var 10), (.cst (.non))]) [.set (.var 10) (.nd (.bi .tuple) [(.var 10)])] [], .ite (.not (.na (.call 19) [(.na (.call 16) [(.var 4), (.var 9)]), (.var 10)])) [.ret (.cst (.bl false))] []], .tr [.ex (.na (.call 16) [(.var 5), (.var 5)])] 0 11 [1], .ret (.cst (.bl false))]⟩
theorem c32 : seqM (cD (cS T n32 60 (defScope s32))) (defBody s32) = some d32.body := by kernel_rfl
theorem sc32 : FnScope n32 p32 (defScope s32) := ⟨rfl, rfl, rfl, by decide +kernel, rfl, by decide +kernel, by decide +kernel⟩
def sb (i j : Nat) : Bool := decide (j = i) || (decide (i = 1) && decide (j = 0)) || (decide (j = 1000) && (decide (i = 0) || decide (i = 1)))
def xi (i : Nat) : Bool := [0, 1].contains i
def rs (i : Nat) : Bool := [0, 1].contains i
def ic (i : Nat) : Bool := [2].contains i
def at_ (c f : Nat) : Bool := [(2, 0), (2, 1)].contains (c, f)
def xa (c f : Nat) : Bool := [].contains (c, f)
def ini (c : Nat) : Option Nat := if c = 2 then some 8 else none
def eqf (c : Nat) : Option Nat := if c = 2 then some 9 else none
def tb : Tb := ⟨[d0, d1, d2, d3, d4, d5, d6, d7, d8, d9, d10, d11, d12, d13, d14, d15, d16, d17, d18, d19, d20, d21, d22, d23, d24, d25, d26, d27, d28, d29, d30, d31, d32], ini, fun _ _ => none, sb, at_, ic, rs, xi, xa, eqf⟩
section
open PySem.W
theorem all_mk {l : PySem.W.OpenLaw} {w : World} {K : PySem.W.Frag} {h : Heap} {mg : Str → Option Value} {fa : Addr} (X : K.In h) (G : h.Ns mainGlobals mg) (hfa : mg "law" = some (.ref fa)) (spec : ∀ ns : List Int, ns.length ≤ 63 → (∀ z ∈ ns, Builtin.Int.intBits z ≤ 1048576) → ∃ S', runK tb 20 32 [.ref 0] (scr ns) = .ok (.bl true) S')
    {f0 f1 f2 f3 f4 f5 f6 f7 f8 f9 f10 f11 f12 f13 f14 f15 f16 f17 f18 f19 f20 f21 f22 f23 f24 f25 f26 f27 f28 f29 f30 f31 f32 C0 C1 C2 : Addr} {od0 an0 : Option Addr} {sl0 : Array (Option Value)} {oc0 kV0 dc0 pm0 cd0 ct0 : Value} {od1 an1 : Option Addr} {sl1 : Array (Option Value)} {oc1 kV1 dc1 pm1 cd1 ct1 : Value} {od2 an2 : Option Addr} {sl2 : Array (Option Value)} {oc2 kV2 dc2 pm2 cd2 ct2 : Value} {od3 an3 : Option Addr} {sl3 : Array (Option Value)} {oc3 kV3 dc3 pm3 cd3 ct3 : Value} {od4 an4 : Option Addr} {sl4 : Array (Option Value)} {oc4 kV4 dc4 pm4 cd4 ct4 : Value} {od5 an5 : Option Addr} {sl5 : Array (Option Value)} {oc5 kV5 dc5 pm5 cd5 ct5 : Value} {od6 an6 : Option Addr} {sl6 : Array (Option Value)} {oc6 kV6 dc6 pm6 cd6 ct6 : Value} {od7 an7 : Option Addr} {sl7 : Array (Option Value)} {oc7 kV7 dc7 pm7 cd7 ct7 : Value} {od8 an8 : Option Addr} {sl8 : Array (Option Value)} {oc8 kV8 dc8 pm8 cd8 ct8 : Value} {od9 an9 : Option Addr} {sl9 : Array (Option Value)} {oc9 kV9 dc9 pm9 cd9 ct9 : Value} {od10 an10 : Option Addr} {sl10 : Array (Option Value)} {oc10 kV10 dc10 pm10 cd10 ct10 : Value} {od11 an11 : Option Addr} {sl11 : Array (Option Value)} {oc11 kV11 dc11 pm11 cd11 ct11 : Value} {od12 an12 : Option Addr} {sl12 : Array (Option Value)} {oc12 kV12 dc12 pm12 cd12 ct12 : Value} {od13 an13 : Option Addr} {sl13 : Array (Option Value)} {oc13 kV13 dc13 pm13 cd13 ct13 : Value} {od14 an14 : Option Addr} {sl14 : Array (Option Value)} {oc14 kV14 dc14 pm14 cd14 ct14 : Value} {od15 an15 : Option Addr} {sl15 : Array (Option Value)} {oc15 kV15 dc15 pm15 cd15 ct15 : Value} {od16 an16 : Option Addr} {sl16 : Array (Option Value)} {oc16 kV16 dc16 pm16 cd16 ct16 : Value} {od17 an17 : Option Addr} {sl17 : Array (Option Value)} {oc17 kV17 dc17 pm17 cd17 ct17 : Value} {od18 an18 : Option Addr} {sl18 : Array (Option Value)} {oc18 kV18 dc18 pm18 cd18 ct18 : Value} {od19 an19 : Option Addr} {sl19 : Array (Option Value)} {oc19 kV19 dc19 pm19 cd19 ct19 : Value} {od20 an20 : Option Addr} {sl20 : Array (Option Value)} {oc20 kV20 dc20 pm20 cd20 ct20 : Value} {od21 an21 : Option Addr} {sl21 : Array (Option Value)} {oc21 kV21 dc21 pm21 cd21 ct21 : Value} {od22 an22 : Option Addr} {sl22 : Array (Option Value)} {oc22 kV22 dc22 pm22 cd22 ct22 : Value} {od23 an23 : Option Addr} {sl23 : Array (Option Value)} {oc23 kV23 dc23 pm23 cd23 ct23 : Value} {od24 an24 : Option Addr} {sl24 : Array (Option Value)} {oc24 kV24 dc24 pm24 cd24 ct24 : Value} {od25 an25 : Option Addr} {sl25 : Array (Option Value)} {oc25 kV25 dc25 pm25 cd25 ct25 : Value} {od26 an26 : Option Addr} {sl26 : Array (Option Value)} {oc26 kV26 dc26 pm26 cd26 ct26 : Value} {od27 an27 : Option Addr} {sl27 : Array (Option Value)} {oc27 kV27 dc27 pm27 cd27 ct27 : Value} {od28 an28 : Option Addr} {sl28 : Array (Option Value)} {oc28 kV28 dc28 pm28 cd28 ct28 : Value} {od29 an29 : Option Addr} {sl29 : Array (Option Value)} {oc29 kV29 dc29 pm29 cd29 ct29 : Value} {od30 an30 : Option Addr} {sl30 : Array (Option Value)} {oc30 kV30 dc30 pm30 cd30 ct30 : Value} {od31 an31 : Option Addr} {sl31 : Array (Option Value)} {oc31 kV31 dc31 pm31 cd31 ct31 : Value} {od32 an32 : Option Addr} {sl32 : Array (Option Value)} {oc32 kV32 dc32 pm32 cd32 ct32 : Value} {tk_MOST_CLAUSE_FLAGS : Tok} {tk_MOST_CLAUSES : Tok}
    (aC0 : PySem.W.nsIn K mainGlobals "ReplyError" = some (some (.ref C0)))
    (aC1 : PySem.W.nsIn K mainGlobals "NotClauses" = some (some (.ref C1)))
    (aC2 : PySem.W.nsIn K mainGlobals "ClauseBook" = some (some (.ref C2)))
    (a0 : PySem.W.nsIn K mainGlobals "is_whole" = some (some (.ref f0)))
    (l0 : K.lookup f0 = some ⟨oc0, od0, .func (PySem.W.fnOf "is_whole" "is_whole" (defArgs s0) (defBody s0) (defScope s0) .none kV0 dc0 pm0 an0 cd0 ct0), sl0⟩)
    (c0_ : PySem.W.codeIn K cd0 "is_whole" = true)
    (k0 : PySem.W.keepIn K (.ref f0) = true)
    (a1 : PySem.W.nsIn K mainGlobals "is_below" = some (some (.ref f1)))
    (l1 : K.lookup f1 = some ⟨oc1, od1, .func (PySem.W.fnOf "is_below" "is_below" (defArgs s1) (defBody s1) (defScope s1) .none kV1 dc1 pm1 an1 cd1 ct1), sl1⟩)
    (c1_ : PySem.W.codeIn K cd1 "is_below" = true)
    (k1 : PySem.W.keepIn K (.ref f1) = true)
    (a2 : PySem.W.nsIn K mainGlobals "are_below" = some (some (.ref f2)))
    (l2 : K.lookup f2 = some ⟨oc2, od2, .func (PySem.W.fnOf "are_below" "are_below" (defArgs s2) (defBody s2) (defScope s2) .none kV2 dc2 pm2 an2 cd2 ct2), sl2⟩)
    (c2_ : PySem.W.codeIn K cd2 "are_below" = true)
    (k2 : PySem.W.keepIn K (.ref f2) = true)
    (a3 : PySem.W.nsIn K mainGlobals "are_flags" = some (some (.ref f3)))
    (l3 : K.lookup f3 = some ⟨oc3, od3, .func (PySem.W.fnOf "are_flags" "are_flags" (defArgs s3) (defBody s3) (defScope s3) .none kV3 dc3 pm3 an3 cd3 ct3), sl3⟩)
    (c3_ : PySem.W.codeIn K cd3 "are_flags" = true)
    (k3 : PySem.W.keepIn K (.ref f3) = true)
    (a4 : PySem.W.nsIn K mainGlobals "is_told" = some (some (.ref f4)))
    (l4 : K.lookup f4 = some ⟨oc4, od4, .func (PySem.W.fnOf "is_told" "is_told" (defArgs s4) (defBody s4) (defScope s4) .none kV4 dc4 pm4 an4 cd4 ct4), sl4⟩)
    (c4_ : PySem.W.codeIn K cd4 "is_told" = true)
    (k4 : PySem.W.keepIn K (.ref f4) = true)
    (a5 : PySem.W.nsIn K mainGlobals "is_ascending" = some (some (.ref f5)))
    (l5 : K.lookup f5 = some ⟨oc5, od5, .func (PySem.W.fnOf "is_ascending" "is_ascending" (defArgs s5) (defBody s5) (defScope s5) .none kV5 dc5 pm5 an5 cd5 ct5), sl5⟩)
    (c5_ : PySem.W.codeIn K cd5 "is_ascending" = true)
    (k5 : PySem.W.keepIn K (.ref f5) = true)
    (a6 : PySem.W.nsIn K mainGlobals "is_clause" = some (some (.ref f6)))
    (l6 : K.lookup f6 = some ⟨oc6, od6, .func (PySem.W.fnOf "is_clause" "is_clause" (defArgs s6) (defBody s6) (defScope s6) .none kV6 dc6 pm6 an6 cd6 ct6), sl6⟩)
    (c6_ : PySem.W.codeIn K cd6 "is_clause" = true)
    (k6 : PySem.W.keepIn K (.ref f6) = true)
    (a7 : PySem.W.nsIn K mainGlobals "are_clauses" = some (some (.ref f7)))
    (l7 : K.lookup f7 = some ⟨oc7, od7, .func (PySem.W.fnOf "are_clauses" "are_clauses" (defArgs s7) (defBody s7) (defScope s7) .none kV7 dc7 pm7 an7 cd7 ct7), sl7⟩)
    (c7_ : PySem.W.codeIn K cd7 "are_clauses" = true)
    (k7 : PySem.W.keepIn K (.ref f7) = true)
    (a8 : PySem.W.findIn K (.ref C2) "__init__" = some (some (.ref f8)))
    (if8 : PySem.W.isFn K (.ref f8) = true)
    (mk8 : PySem.W.makesIn K C2 = true)
    (l8 : K.lookup f8 = some ⟨oc8, od8, .func (PySem.W.fnOf "__init__" "ClauseBook.__init__" (defArgs s8) (defBody s8) (defScope s8) .none kV8 dc8 pm8 an8 cd8 ct8), sl8⟩)
    (c8_ : PySem.W.codeIn K cd8 "ClauseBook.__init__" = true)
    (k8 : PySem.W.keepIn K (.ref f8) = true)
    (a9 : PySem.W.findIn K (.ref C2) "__eq__" = some (some (.ref f9)))
    (if9 : PySem.W.isFn K (.ref f9) = true)
    (ne9 : PySem.W.findIn K (.ref C2) "__ne__" = some (some (.builtin "object.__ne__")))
    (mo9 : PySem.W.mroIn K C2 (.type "object") = some true)
    (nt9 : nfB K C2 = true)
    (nc9_2 : PySem.W.notFirst K C2 (.ref C2) = true)
    (l9 : K.lookup f9 = some ⟨oc9, od9, .func (PySem.W.fnOf "__eq__" "ClauseBook.__eq__" (defArgs s9) (defBody s9) (defScope s9) .none kV9 dc9 pm9 an9 cd9 ct9), sl9⟩)
    (c9_ : PySem.W.codeIn K cd9 "ClauseBook.__eq__" = true)
    (k9 : PySem.W.keepIn K (.ref f9) = true)
    (a10 : PySem.W.nsIn K mainGlobals "clauses_asked" = some (some (.ref f10)))
    (l10 : K.lookup f10 = some ⟨oc10, od10, .func (PySem.W.fnOf "clauses_asked" "clauses_asked" (defArgs s10) (defBody s10) (defScope s10) .none kV10 dc10 pm10 an10 cd10 ct10), sl10⟩)
    (c10_ : PySem.W.codeIn K cd10 "clauses_asked" = true)
    (k10 : PySem.W.keepIn K (.ref f10) = true)
    (a11 : PySem.W.nsIn K mainGlobals "made_clause" = some (some (.ref f11)))
    (l11 : K.lookup f11 = some ⟨oc11, od11, .func (PySem.W.fnOf "made_clause" "made_clause" (defArgs s11) (defBody s11) (defScope s11) .none kV11 dc11 pm11 an11 cd11 ct11), sl11⟩)
    (c11_ : PySem.W.codeIn K cd11 "made_clause" = true)
    (k11 : PySem.W.keepIn K (.ref f11) = true)
    (a12 : PySem.W.nsIn K mainGlobals "joined_clause" = some (some (.ref f12)))
    (l12 : K.lookup f12 = some ⟨oc12, od12, .func (PySem.W.fnOf "joined_clause" "joined_clause" (defArgs s12) (defBody s12) (defScope s12) .none kV12 dc12 pm12 an12 cd12 ct12), sl12⟩)
    (c12_ : PySem.W.codeIn K cd12 "joined_clause" = true)
    (k12 : PySem.W.keepIn K (.ref f12) = true)
    (a13 : PySem.W.nsIn K mainGlobals "dropped_clause" = some (some (.ref f13)))
    (l13 : K.lookup f13 = some ⟨oc13, od13, .func (PySem.W.fnOf "dropped_clause" "dropped_clause" (defArgs s13) (defBody s13) (defScope s13) .none kV13 dc13 pm13 an13 cd13 ct13), sl13⟩)
    (c13_ : PySem.W.codeIn K cd13 "dropped_clause" = true)
    (k13 : PySem.W.keepIn K (.ref f13) = true)
    (a14 : PySem.W.nsIn K mainGlobals "clause_of_step" = some (some (.ref f14)))
    (l14 : K.lookup f14 = some ⟨oc14, od14, .func (PySem.W.fnOf "clause_of_step" "clause_of_step" (defArgs s14) (defBody s14) (defScope s14) .none kV14 dc14 pm14 an14 cd14 ct14), sl14⟩)
    (c14_ : PySem.W.codeIn K cd14 "clause_of_step" = true)
    (k14 : PySem.W.keepIn K (.ref f14) = true)
    (a15 : PySem.W.nsIn K mainGlobals "clauses_of_file" = some (some (.ref f15)))
    (l15 : K.lookup f15 = some ⟨oc15, od15, .func (PySem.W.fnOf "clauses_of_file" "clauses_of_file" (defArgs s15) (defBody s15) (defScope s15) .none kV15 dc15 pm15 an15 cd15 ct15), sl15⟩)
    (c15_ : PySem.W.codeIn K cd15 "clauses_of_file" = true)
    (k15 : PySem.W.keepIn K (.ref f15) = true)
    (a16 : PySem.W.nsIn K mainGlobals "told_by_file" = some (some (.ref f16)))
    (l16 : K.lookup f16 = some ⟨oc16, od16, .func (PySem.W.fnOf "told_by_file" "told_by_file" (defArgs s16) (defBody s16) (defScope s16) .none kV16 dc16 pm16 an16 cd16 ct16), sl16⟩)
    (c16_ : PySem.W.codeIn K cd16 "told_by_file" = true)
    (k16 : PySem.W.keepIn K (.ref f16) = true)
    (a17 : PySem.W.nsIn K mainGlobals "_law_cell" = some (some (.ref f17)))
    (l17 : K.lookup f17 = some ⟨oc17, od17, .func (PySem.W.fnOf "_law_cell" "_law_cell" (defArgs s17) (defBody s17) (defScope s17) .none kV17 dc17 pm17 an17 cd17 ct17), sl17⟩)
    (c17_ : PySem.W.codeIn K cd17 "_law_cell" = true)
    (k17 : PySem.W.keepIn K (.ref f17) = true)
    (a18 : PySem.W.nsIn K mainGlobals "_law_row" = some (some (.ref f18)))
    (l18 : K.lookup f18 = some ⟨oc18, od18, .func (PySem.W.fnOf "_law_row" "_law_row" (defArgs s18) (defBody s18) (defScope s18) .none kV18 dc18 pm18 an18 cd18 ct18), sl18⟩)
    (c18_ : PySem.W.codeIn K cd18 "_law_row" = true)
    (k18 : PySem.W.keepIn K (.ref f18) = true)
    (a19 : PySem.W.nsIn K mainGlobals "_law_same" = some (some (.ref f19)))
    (l19 : K.lookup f19 = some ⟨oc19, od19, .func (PySem.W.fnOf "_law_same" "_law_same" (defArgs s19) (defBody s19) (defScope s19) .none kV19 dc19 pm19 an19 cd19 ct19), sl19⟩)
    (c19_ : PySem.W.codeIn K cd19 "_law_same" = true)
    (k19 : PySem.W.keepIn K (.ref f19) = true)
    (a20 : PySem.W.nsIn K mainGlobals "_law_whole" = some (some (.ref f20)))
    (l20 : K.lookup f20 = some ⟨oc20, od20, .func (PySem.W.fnOf "_law_whole" "_law_whole" (defArgs s20) (defBody s20) (defScope s20) .none kV20 dc20 pm20 an20 cd20 ct20), sl20⟩)
    (c20_ : PySem.W.codeIn K cd20 "_law_whole" = true)
    (k20 : PySem.W.keepIn K (.ref f20) = true)
    (a21 : PySem.W.nsIn K mainGlobals "_law_spoiled" = some (some (.ref f21)))
    (l21 : K.lookup f21 = some ⟨oc21, od21, .func (PySem.W.fnOf "_law_spoiled" "_law_spoiled" (defArgs s21) (defBody s21) (defScope s21) .none kV21 dc21 pm21 an21 cd21 ct21), sl21⟩)
    (c21_ : PySem.W.codeIn K cd21 "_law_spoiled" = true)
    (k21 : PySem.W.keepIn K (.ref f21) = true)
    (a22 : PySem.W.nsIn K mainGlobals "_law_bits" = some (some (.ref f22)))
    (l22 : K.lookup f22 = some ⟨oc22, od22, .func (PySem.W.fnOf "_law_bits" "_law_bits" (defArgs s22) (defBody s22) (defScope s22) .none kV22 dc22 pm22 an22 cd22 ct22), sl22⟩)
    (c22_ : PySem.W.codeIn K cd22 "_law_bits" = true)
    (k22 : PySem.W.keepIn K (.ref f22) = true)
    (a23 : PySem.W.nsIn K mainGlobals "_law_is_cube" = some (some (.ref f23)))
    (l23 : K.lookup f23 = some ⟨oc23, od23, .func (PySem.W.fnOf "_law_is_cube" "_law_is_cube" (defArgs s23) (defBody s23) (defScope s23) .none kV23 dc23 pm23 an23 cd23 ct23), sl23⟩)
    (c23_ : PySem.W.codeIn K cd23 "_law_is_cube" = true)
    (k23 : PySem.W.keepIn K (.ref f23) = true)
    (a24 : PySem.W.nsIn K mainGlobals "_law_joined" = some (some (.ref f24)))
    (l24 : K.lookup f24 = some ⟨oc24, od24, .func (PySem.W.fnOf "_law_joined" "_law_joined" (defArgs s24) (defBody s24) (defScope s24) .none kV24 dc24 pm24 an24 cd24 ct24), sl24⟩)
    (c24_ : PySem.W.codeIn K cd24 "_law_joined" = true)
    (k24 : PySem.W.keepIn K (.ref f24) = true)
    (a25 : PySem.W.nsIn K mainGlobals "_law_dropped" = some (some (.ref f25)))
    (l25 : K.lookup f25 = some ⟨oc25, od25, .func (PySem.W.fnOf "_law_dropped" "_law_dropped" (defArgs s25) (defBody s25) (defScope s25) .none kV25 dc25 pm25 an25 cd25 ct25), sl25⟩)
    (c25_ : PySem.W.codeIn K cd25 "_law_dropped" = true)
    (k25 : PySem.W.keepIn K (.ref f25) = true)
    (a26 : PySem.W.nsIn K mainGlobals "_law_step_told" = some (some (.ref f26)))
    (l26 : K.lookup f26 = some ⟨oc26, od26, .func (PySem.W.fnOf "_law_step_told" "_law_step_told" (defArgs s26) (defBody s26) (defScope s26) .none kV26 dc26 pm26 an26 cd26 ct26), sl26⟩)
    (c26_ : PySem.W.codeIn K cd26 "_law_step_told" = true)
    (k26 : PySem.W.keepIn K (.ref f26) = true)
    (a27 : PySem.W.nsIn K mainGlobals "_law_file_clauses" = some (some (.ref f27)))
    (l27 : K.lookup f27 = some ⟨oc27, od27, .func (PySem.W.fnOf "_law_file_clauses" "_law_file_clauses" (defArgs s27) (defBody s27) (defScope s27) .none kV27 dc27 pm27 an27 cd27 ct27), sl27⟩)
    (c27_ : PySem.W.codeIn K cd27 "_law_file_clauses" = true)
    (k27 : PySem.W.keepIn K (.ref f27) = true)
    (a28 : PySem.W.nsIn K mainGlobals "_law_clause" = some (some (.ref f28)))
    (l28 : K.lookup f28 = some ⟨oc28, od28, .func (PySem.W.fnOf "_law_clause" "_law_clause" (defArgs s28) (defBody s28) (defScope s28) .none kV28 dc28 pm28 an28 cd28 ct28), sl28⟩)
    (c28_ : PySem.W.codeIn K cd28 "_law_clause" = true)
    (k28 : PySem.W.keepIn K (.ref f28) = true)
    (a29 : PySem.W.nsIn K mainGlobals "_law_clauses" = some (some (.ref f29)))
    (l29 : K.lookup f29 = some ⟨oc29, od29, .func (PySem.W.fnOf "_law_clauses" "_law_clauses" (defArgs s29) (defBody s29) (defScope s29) .none kV29 dc29 pm29 an29 cd29 ct29), sl29⟩)
    (c29_ : PySem.W.codeIn K cd29 "_law_clauses" = true)
    (k29 : PySem.W.keepIn K (.ref f29) = true)
    (a30 : PySem.W.nsIn K mainGlobals "_law_clause_book" = some (some (.ref f30)))
    (l30 : K.lookup f30 = some ⟨oc30, od30, .func (PySem.W.fnOf "_law_clause_book" "_law_clause_book" (defArgs s30) (defBody s30) (defScope s30) .none kV30 dc30 pm30 an30 cd30 ct30), sl30⟩)
    (c30_ : PySem.W.codeIn K cd30 "_law_clause_book" = true)
    (k30 : PySem.W.keepIn K (.ref f30) = true)
    (a31 : PySem.W.nsIn K mainGlobals "_law_steps" = some (some (.ref f31)))
    (l31 : K.lookup f31 = some ⟨oc31, od31, .func (PySem.W.fnOf "_law_steps" "_law_steps" (defArgs s31) (defBody s31) (defScope s31) .none kV31 dc31 pm31 an31 cd31 ct31), sl31⟩)
    (c31_ : PySem.W.codeIn K cd31 "_law_steps" = true)
    (k31 : PySem.W.keepIn K (.ref f31) = true)
    (a32 : PySem.W.nsIn K mainGlobals "law" = some (some (.ref f32)))
    (l32 : K.lookup f32 = some ⟨oc32, od32, .func (PySem.W.fnOf "law" "law" (defArgs s32) (defBody s32) (defScope s32) .none kV32 dc32 pm32 an32 cd32 ct32), sl32⟩)
    (c32_ : PySem.W.codeIn K cd32 "law" = true)
    (k32 : PySem.W.keepIn K (.ref f32) = true)
    (kC0 : PySem.W.keepIn K (.ref C0) = true)
    (kC1 : PySem.W.keepIn K (.ref C1) = true)
    (kC2 : PySem.W.keepIn K (.ref C2) = true)
    (b_len : PySem.W.nsIn K mainGlobals "len" = some none)
    (b_all : PySem.W.nsIn K mainGlobals "all" = some none)
    (b_any : PySem.W.nsIn K mainGlobals "any" = some none)
    (b_tuple : PySem.W.nsIn K mainGlobals "tuple" = some none)
    (b_list : PySem.W.nsIn K mainGlobals "list" = some none)
    (b_int : PySem.W.nsIn K mainGlobals "int" = some none)
    (b_abs : PySem.W.nsIn K mainGlobals "abs" = some none)
    (b_sorted : PySem.W.nsIn K mainGlobals "sorted" = some none)
    (b_sum : PySem.W.nsIn K mainGlobals "sum" = some none)
    (b_bool : PySem.W.nsIn K mainGlobals "bool" = some none)
    (b_isinstance : PySem.W.nsIn K mainGlobals "isinstance" = some none)
    (b_str : PySem.W.nsIn K mainGlobals "str" = some none)
    (b_dict : PySem.W.nsIn K mainGlobals "dict" = some none)
    (b_max : PySem.W.nsIn K mainGlobals "max" = some none)
    (b_min : PySem.W.nsIn K mainGlobals "min" = some none)
    (b_range : PySem.W.nsIn K mainGlobals "range" = some none)
    (b_enumerate : PySem.W.nsIn K mainGlobals "enumerate" = some none)
    (b_zip : PySem.W.nsIn K mainGlobals "zip" = some none)
    (b_reversed : PySem.W.nsIn K mainGlobals "reversed" = some none)
    (b_ValueError : PySem.W.nsIn K mainGlobals "ValueError" = some none)
    (v_MOST_CLAUSE_FLAGS : PySem.W.nsIn K mainGlobals "MOST_CLAUSE_FLAGS" = some (some (.int 500 tk_MOST_CLAUSE_FLAGS)))
    (v_MOST_CLAUSES : PySem.W.nsIn K mainGlobals "MOST_CLAUSES" = some (some (.int 1000000 tk_MOST_CLAUSES)))
    (B1 : xiB K [C0, C1, C2] sb xi = true)
    (B2 : pairB K [C0, C1, C2] sb xi = true)
    (B3 : tcB K [C0, C1, C2] = true)
    (B4 : noList K = true)
    (R0 : rsB K C0 = true)
    (R1 : rsB K C1 = true)
    (t2 : atB K C2 ["sides", "clauses"] = true)
    (I2 : icB K C2 = true)
    (cc2_0 : PySem.W.kitOne K (.ref C2) (.ref C0) = some (sb 2 0))
    (cc2_1 : PySem.W.kitOne K (.ref C2) (.ref C1) = some (sb 2 1))
    (cc2_2 : PySem.W.kitOne K (.ref C2) (.ref C2) = some (sb 2 2))
    : ∃ fd : FuncData, (∀ (s : Shared) (v : Value), BindsTo s fd ⟨[v], []⟩ [("script", v)]) ∧ ∀ base : Heap, K.In base → base.Ns mainGlobals mg → FnOk l.prog w K mg base (L2.CX l.prog w) 20 fa fd ["script"] (spI K 63) := by
  have e : f32 = fa := Value.ref.inj (Option.some.inj ((PySem.W.mg_of X G a32).symm.trans hfa))
  subst e
  have F0 := fun_mk (st := s0) l0 c0_ k0
  have b0 := F0.binds (ps := p0) fun _ _ _ _ _ _ us hl => match us, hl with | [_], _ => rfl
  have F1 := fun_mk (st := s1) l1 c1_ k1
  have b1 := F1.binds (ps := p1) fun _ _ _ _ _ _ us hl => match us, hl with | [_, _], _ => rfl
  have F2 := fun_mk (st := s2) l2 c2_ k2
  have b2 := F2.binds (ps := p2) fun _ _ _ _ _ _ us hl => match us, hl with | [_, _], _ => rfl
  have F3 := fun_mk (st := s3) l3 c3_ k3
  have b3 := F3.binds (ps := p3) fun _ _ _ _ _ _ us hl => match us, hl with | [_], _ => rfl
  have F4 := fun_mk (st := s4) l4 c4_ k4
  have b4 := F4.binds (ps := p4) fun _ _ _ _ _ _ us hl => match us, hl with | [_, _, _], _ => rfl
  have F5 := fun_mk (st := s5) l5 c5_ k5
  have b5 := F5.binds (ps := p5) fun _ _ _ _ _ _ us hl => match us, hl with | [_], _ => rfl
  have F6 := fun_mk (st := s6) l6 c6_ k6
  have b6 := F6.binds (ps := p6) fun _ _ _ _ _ _ us hl => match us, hl with | [_, _], _ => rfl
  have F7 := fun_mk (st := s7) l7 c7_ k7
  have b7 := F7.binds (ps := p7) fun _ _ _ _ _ _ us hl => match us, hl with | [_, _], _ => rfl
  have F8 := fun_mk (st := s8) l8 c8_ k8
  have b8 := F8.binds (ps := p8) fun _ _ _ _ _ _ us hl => match us, hl with | [_, _, _], _ => rfl
  have F9 := fun_mk (st := s9) l9 c9_ k9
  have b9 := F9.binds (ps := p9) fun _ _ _ _ _ _ us hl => match us, hl with | [_, _], _ => rfl
  have F10 := fun_mk (st := s10) l10 c10_ k10
  have b10 := F10.binds (ps := p10) fun _ _ _ _ _ _ us hl => match us, hl with | [_], _ => rfl
  have F11 := fun_mk (st := s11) l11 c11_ k11
  have b11 := F11.binds (ps := p11) fun _ _ _ _ _ _ us hl => match us, hl with | [_], _ => rfl
  have F12 := fun_mk (st := s12) l12 c12_ k12
  have b12 := F12.binds (ps := p12) fun _ _ _ _ _ _ us hl => match us, hl with | [_, _, _], _ => rfl
  have F13 := fun_mk (st := s13) l13 c13_ k13
  have b13 := F13.binds (ps := p13) fun _ _ _ _ _ _ us hl => match us, hl with | [_, _], _ => rfl
  have F14 := fun_mk (st := s14) l14 c14_ k14
  have b14 := F14.binds (ps := p14) fun _ _ _ _ _ _ us hl => match us, hl with | [_, _, _, _], _ => rfl
  have F15 := fun_mk (st := s15) l15 c15_ k15
  have b15 := F15.binds (ps := p15) fun _ _ _ _ _ _ us hl => match us, hl with | [_, _], _ => rfl
  have F16 := fun_mk (st := s16) l16 c16_ k16
  have b16 := F16.binds (ps := p16) fun _ _ _ _ _ _ us hl => match us, hl with | [_, _], _ => rfl
  have F17 := fun_mk (st := s17) l17 c17_ k17
  have b17 := F17.binds (ps := p17) fun _ _ _ _ _ _ us hl => match us, hl with | [_, _], _ => rfl
  have F18 := fun_mk (st := s18) l18 c18_ k18
  have b18 := F18.binds (ps := p18) fun _ _ _ _ _ _ us hl => match us, hl with | [_, _], _ => rfl
  have F19 := fun_mk (st := s19) l19 c19_ k19
  have b19 := F19.binds (ps := p19) fun _ _ _ _ _ _ us hl => match us, hl with | [_, _], _ => rfl
  have F20 := fun_mk (st := s20) l20 c20_ k20
  have b20 := F20.binds (ps := p20) fun _ _ _ _ _ _ us hl => match us, hl with | [_, _, _], _ => rfl
  have F21 := fun_mk (st := s21) l21 c21_ k21
  have b21 := F21.binds (ps := p21) fun _ _ _ _ _ _ us hl => match us, hl with | [_], _ => rfl
  have F22 := fun_mk (st := s22) l22 c22_ k22
  have b22 := F22.binds (ps := p22) fun _ _ _ _ _ _ us hl => match us, hl with | [_, _], _ => rfl
  have F23 := fun_mk (st := s23) l23 c23_ k23
  have b23 := F23.binds (ps := p23) fun _ _ _ _ _ _ us hl => match us, hl with | [_, _], _ => rfl
  have F24 := fun_mk (st := s24) l24 c24_ k24
  have b24 := F24.binds (ps := p24) fun _ _ _ _ _ _ us hl => match us, hl with | [_, _, _], _ => rfl
  have F25 := fun_mk (st := s25) l25 c25_ k25
  have b25 := F25.binds (ps := p25) fun _ _ _ _ _ _ us hl => match us, hl with | [_, _, _], _ => rfl
  have F26 := fun_mk (st := s26) l26 c26_ k26
  have b26 := F26.binds (ps := p26) fun _ _ _ _ _ _ us hl => match us, hl with | [_, _, _, _], _ => rfl
  have F27 := fun_mk (st := s27) l27 c27_ k27
  have b27 := F27.binds (ps := p27) fun _ _ _ _ _ _ us hl => match us, hl with | [_, _, _], _ => rfl
  have F28 := fun_mk (st := s28) l28 c28_ k28
  have b28 := F28.binds (ps := p28) fun _ _ _ _ _ _ us hl => match us, hl with | [_, _, _], _ => rfl
  have F29 := fun_mk (st := s29) l29 c29_ k29
  have b29 := F29.binds (ps := p29) fun _ _ _ _ _ _ us hl => match us, hl with | [_, _, _, _], _ => rfl
  have F30 := fun_mk (st := s30) l30 c30_ k30
  have b30 := F30.binds (ps := p30) fun _ _ _ _ _ _ us hl => match us, hl with | [_, _, _, _], _ => rfl
  have F31 := fun_mk (st := s31) l31 c31_ k31
  have b31 := F31.binds (ps := p31) fun _ _ _ _ _ _ us hl => match us, hl with | [_, _, _], _ => rfl
  have F32 := fun_mk (st := s32) l32 c32_ k32
  have b32 := F32.binds (ps := p32) fun _ _ _ _ _ _ us hl => match us, hl with | [_], _ => rfl
  refine ⟨PySem.W.fnOf "law" "law" (defArgs s32) (defBody s32) (defScope s32) .none kV32 dc32 pm32 an32 cd32 ct32, fun s v => .of_eq rfl, fun base KB GB => ?_⟩
  have gT : ∀ base : Heap, ∃ g : Ev.G, g = (⟨l.prog, w, K, mg, base, fun i => [f0, f1, f2, f3, f4, f5, f6, f7, f8, f9, f10, f11, f12, f13, f14, f15, f16, f17, f18, f19, f20, f21, f22, f23, f24, f25, f26, f27, f28, f29, f30, f31, f32].getD i 0, fun i => [C0, C1, C2].getD i 0, T, fun _ => none⟩ : Ev.G) := fun base => ⟨_, rfl⟩
  obtain ⟨g, hg⟩ := gT base
  have GT : GTb g tb := by
    intro kk cc jj
    subst hg
    exact {
      nd := (by decide +kernel : T.flds.Nodup)
      fun_ := look_all ⟨⟨mg_of X G a0, k0⟩, ⟨mg_of X G a1, k1⟩, ⟨mg_of X G a2, k2⟩, ⟨mg_of X G a3, k3⟩, ⟨mg_of X G a4, k4⟩, ⟨mg_of X G a5, k5⟩, ⟨mg_of X G a6, k6⟩, ⟨mg_of X G a7, k7⟩, ⟨mg_of X G a10, k10⟩, ⟨mg_of X G a11, k11⟩, ⟨mg_of X G a12, k12⟩, ⟨mg_of X G a13, k13⟩, ⟨mg_of X G a14, k14⟩, ⟨mg_of X G a15, k15⟩, ⟨mg_of X G a16, k16⟩, ⟨mg_of X G a17, k17⟩, ⟨mg_of X G a18, k18⟩, ⟨mg_of X G a19, k19⟩, ⟨mg_of X G a20, k20⟩, ⟨mg_of X G a21, k21⟩, ⟨mg_of X G a22, k22⟩, ⟨mg_of X G a23, k23⟩, ⟨mg_of X G a24, k24⟩, ⟨mg_of X G a25, k25⟩, ⟨mg_of X G a26, k26⟩, ⟨mg_of X G a27, k27⟩, ⟨mg_of X G a28, k28⟩, ⟨mg_of X G a29, k29⟩, ⟨mg_of X G a30, k30⟩, ⟨mg_of X G a31, k31⟩, ⟨mg_of X G a32, k32⟩, trivial⟩
      cls_ := look_all ⟨mg_of X G aC0, mg_of X G aC1, mg_of X G aC2, trivial⟩
      cst_ := look_all ⟨⟨_, .int 500, mg_of X G v_MOST_CLAUSE_FLAGS, ⟨_, rfl⟩, fun _ _ => .int _⟩, ⟨_, .int 1000000, mg_of X G v_MOST_CLAUSES, ⟨_, rfl⟩, fun _ _ => .int _⟩, trivial⟩
      blt_ := mem_all ⟨mg_none_of X G b_len, mg_none_of X G b_all, mg_none_of X G b_any, mg_none_of X G b_tuple, mg_none_of X G b_list, mg_none_of X G b_int, mg_none_of X G b_abs, mg_none_of X G b_sorted, mg_none_of X G b_sum, mg_none_of X G b_bool, mg_none_of X G b_isinstance, mg_none_of X G b_str, mg_none_of X G b_dict, mg_none_of X G b_max, mg_none_of X G b_min, mg_none_of X G b_range, mg_none_of X G b_enumerate, mg_none_of X G b_zip, mg_none_of X G b_reversed, trivial⟩
      at_ := fun c f h => by
        have h := pair_all (P := fun c f => Cls K ([C0, C1, C2].getD c 0) ∧ NoAttr K ([C0, C1, C2].getD c 0) (T.flds.getD f "")) (l := [(2, 0), (2, 1)]) ⟨⟨(atB_ok t2).1, (atB_ok t2).2 _ (by decide +kernel)⟩, ⟨(atB_ok t2).1, (atB_ok t2).2 _ (by decide +kernel)⟩, trivial⟩ c f h
        exact h
      ic_ := nat_all (l := [2]) ⟨icB_ok (atB_ok t2).1 I2, trivial⟩
      cc_ := fun x m n hm hn => by
        have h := nat_all (P := fun m => ∀ x n, T.clss.lookup x = some n → PySem.W.kitOne K (.ref ([C0, C1, C2].getD m 0)) (.ref ([C0, C1, C2].getD n 0)) = some (sb m n)) (l := [2]) ⟨look_all ⟨cc2_0, cc2_1, cc2_2, trivial⟩, trivial⟩ m hm x n hn
        exact h
      xi_ := fun c hc => xiB_ok B1 (lt_of_contains (l := [0, 1]) (n := 3) hc (by decide +kernel)) hc
      rs_ := nat_all (l := [0, 1]) ⟨⟨(show xi 0 = true from by decide +kernel), rfl, rsB_ok R0⟩, ⟨(show xi 1 = true from by decide +kernel), rfl, rsB_ok R1⟩, trivial⟩
      ex_ := fun x c d hc hd => by
        have hd2 : d < 3 := look_all (P := fun _ i => i < 3) (l := T.clss) (by decide +kernel) x d hd
        exact pairB_ok B2 (lt_of_contains (l := [0, 1]) (n := 3) hc (by decide +kernel)) hd2 hc
      xa_ := fun c f h => by
        have h := pair_all (P := fun c f => ExcC K ([C0, C1, C2].getD c 0) ∧ PySem.W.findIn K (.ref ([C0, C1, C2].getD c 0)) (T.flds.getD f "") = some none) (l := []) trivial c f h
        exact h
      x0_ := fun x c h => by cases h
      x1_ := fun x c f h => by cases h
      eq_ := fun c f h => by
        have h2 : (c = 2 ∧ f = 9) := by
          have h : eqf c = some f := h
          unfold eqf at h
          repeat (first | (split at h; · rename_i hc; cases h; simp [hc]) | cases h)
        rcases h2 with ⟨rfl, rfl⟩
        · exact ⟨(show ic 2 = true from by decide +kernel), a9, if9, ⟨ne9, mo9⟩, fun s hs => nfB_ok nt9 hs, nat_all (P := fun m => PySem.W.notFirst K C2 (.ref ([C0, C1, C2].getD m 0)) = true) (l := [2]) ⟨nc9_2, trivial⟩⟩
      vn_ := mg_none_of X G b_ValueError
      tc_ := fun x s n hs hn => by
        have hd2 : n < 3 := look_all (P := fun _ i => i < 3) (l := T.clss) (by decide +kernel) x n hn
        exact tcB_ok B3 hd2 hs }
  have W0 : FnFact g tb 0 (PySem.W.fnOf "is_whole" "is_whole" (defArgs s0) (defBody s0) (defScope s0) .none kV0 dc0 pm0 an0 cd0 ct0) p0 := by
    subst hg
    exact ⟨⟨n0, _, _, s0, d0, rfl, F0, sc0, c0, rfl, rfl⟩, b0⟩
  have W1 : FnFact g tb 1 (PySem.W.fnOf "is_below" "is_below" (defArgs s1) (defBody s1) (defScope s1) .none kV1 dc1 pm1 an1 cd1 ct1) p1 := by
    subst hg
    exact ⟨⟨n1, _, _, s1, d1, rfl, F1, sc1, c1, rfl, rfl⟩, b1⟩
  have W2 : FnFact g tb 2 (PySem.W.fnOf "are_below" "are_below" (defArgs s2) (defBody s2) (defScope s2) .none kV2 dc2 pm2 an2 cd2 ct2) p2 := by
    subst hg
    exact ⟨⟨n2, _, _, s2, d2, rfl, F2, sc2, c2, rfl, rfl⟩, b2⟩
  have W3 : FnFact g tb 3 (PySem.W.fnOf "are_flags" "are_flags" (defArgs s3) (defBody s3) (defScope s3) .none kV3 dc3 pm3 an3 cd3 ct3) p3 := by
    subst hg
    exact ⟨⟨n3, _, _, s3, d3, rfl, F3, sc3, c3, rfl, rfl⟩, b3⟩
  have W4 : FnFact g tb 4 (PySem.W.fnOf "is_told" "is_told" (defArgs s4) (defBody s4) (defScope s4) .none kV4 dc4 pm4 an4 cd4 ct4) p4 := by
    subst hg
    exact ⟨⟨n4, _, _, s4, d4, rfl, F4, sc4, c4, rfl, rfl⟩, b4⟩
  have W5 : FnFact g tb 5 (PySem.W.fnOf "is_ascending" "is_ascending" (defArgs s5) (defBody s5) (defScope s5) .none kV5 dc5 pm5 an5 cd5 ct5) p5 := by
    subst hg
    exact ⟨⟨n5, _, _, s5, d5, rfl, F5, sc5, c5, rfl, rfl⟩, b5⟩
  have W6 : FnFact g tb 6 (PySem.W.fnOf "is_clause" "is_clause" (defArgs s6) (defBody s6) (defScope s6) .none kV6 dc6 pm6 an6 cd6 ct6) p6 := by
    subst hg
    exact ⟨⟨n6, _, _, s6, d6, rfl, F6, sc6, c6, rfl, rfl⟩, b6⟩
  have W7 : FnFact g tb 7 (PySem.W.fnOf "are_clauses" "are_clauses" (defArgs s7) (defBody s7) (defScope s7) .none kV7 dc7 pm7 an7 cd7 ct7) p7 := by
    subst hg
    exact ⟨⟨n7, _, _, s7, d7, rfl, F7, sc7, c7, rfl, rfl⟩, b7⟩
  have W8 : FnFact g tb 8 (PySem.W.fnOf "__init__" "ClauseBook.__init__" (defArgs s8) (defBody s8) (defScope s8) .none kV8 dc8 pm8 an8 cd8 ct8) p8 := by
    subst hg
    exact ⟨⟨n8, _, _, s8, d8, rfl, F8, sc8, c8, rfl, rfl⟩, b8⟩
  have W9 : FnFact g tb 9 (PySem.W.fnOf "__eq__" "ClauseBook.__eq__" (defArgs s9) (defBody s9) (defScope s9) .none kV9 dc9 pm9 an9 cd9 ct9) p9 := by
    subst hg
    exact ⟨⟨n9, _, _, s9, d9, rfl, F9, sc9, c9, rfl, rfl⟩, b9⟩
  have W10 : FnFact g tb 10 (PySem.W.fnOf "clauses_asked" "clauses_asked" (defArgs s10) (defBody s10) (defScope s10) .none kV10 dc10 pm10 an10 cd10 ct10) p10 := by
    subst hg
    exact ⟨⟨n10, _, _, s10, d10, rfl, F10, sc10, c10, rfl, rfl⟩, b10⟩
  have W11 : FnFact g tb 11 (PySem.W.fnOf "made_clause" "made_clause" (defArgs s11) (defBody s11) (defScope s11) .none kV11 dc11 pm11 an11 cd11 ct11) p11 := by
    subst hg
    exact ⟨⟨n11, _, _, s11, d11, rfl, F11, sc11, c11, rfl, rfl⟩, b11⟩
  have W12 : FnFact g tb 12 (PySem.W.fnOf "joined_clause" "joined_clause" (defArgs s12) (defBody s12) (defScope s12) .none kV12 dc12 pm12 an12 cd12 ct12) p12 := by
    subst hg
    exact ⟨⟨n12, _, _, s12, d12, rfl, F12, sc12, c12, rfl, rfl⟩, b12⟩
  have W13 : FnFact g tb 13 (PySem.W.fnOf "dropped_clause" "dropped_clause" (defArgs s13) (defBody s13) (defScope s13) .none kV13 dc13 pm13 an13 cd13 ct13) p13 := by
    subst hg
    exact ⟨⟨n13, _, _, s13, d13, rfl, F13, sc13, c13, rfl, rfl⟩, b13⟩
  have W14 : FnFact g tb 14 (PySem.W.fnOf "clause_of_step" "clause_of_step" (defArgs s14) (defBody s14) (defScope s14) .none kV14 dc14 pm14 an14 cd14 ct14) p14 := by
    subst hg
    exact ⟨⟨n14, _, _, s14, d14, rfl, F14, sc14, c14, rfl, rfl⟩, b14⟩
  have W15 : FnFact g tb 15 (PySem.W.fnOf "clauses_of_file" "clauses_of_file" (defArgs s15) (defBody s15) (defScope s15) .none kV15 dc15 pm15 an15 cd15 ct15) p15 := by
    subst hg
    exact ⟨⟨n15, _, _, s15, d15, rfl, F15, sc15, c15, rfl, rfl⟩, b15⟩
  have W16 : FnFact g tb 16 (PySem.W.fnOf "told_by_file" "told_by_file" (defArgs s16) (defBody s16) (defScope s16) .none kV16 dc16 pm16 an16 cd16 ct16) p16 := by
    subst hg
    exact ⟨⟨n16, _, _, s16, d16, rfl, F16, sc16, c16, rfl, rfl⟩, b16⟩
  have W17 : FnFact g tb 17 (PySem.W.fnOf "_law_cell" "_law_cell" (defArgs s17) (defBody s17) (defScope s17) .none kV17 dc17 pm17 an17 cd17 ct17) p17 := by
    subst hg
    exact ⟨⟨n17, _, _, s17, d17, rfl, F17, sc17, c17, rfl, rfl⟩, b17⟩
  have W18 : FnFact g tb 18 (PySem.W.fnOf "_law_row" "_law_row" (defArgs s18) (defBody s18) (defScope s18) .none kV18 dc18 pm18 an18 cd18 ct18) p18 := by
    subst hg
    exact ⟨⟨n18, _, _, s18, d18, rfl, F18, sc18, c18, rfl, rfl⟩, b18⟩
  have W19 : FnFact g tb 19 (PySem.W.fnOf "_law_same" "_law_same" (defArgs s19) (defBody s19) (defScope s19) .none kV19 dc19 pm19 an19 cd19 ct19) p19 := by
    subst hg
    exact ⟨⟨n19, _, _, s19, d19, rfl, F19, sc19, c19, rfl, rfl⟩, b19⟩
  have W20 : FnFact g tb 20 (PySem.W.fnOf "_law_whole" "_law_whole" (defArgs s20) (defBody s20) (defScope s20) .none kV20 dc20 pm20 an20 cd20 ct20) p20 := by
    subst hg
    exact ⟨⟨n20, _, _, s20, d20, rfl, F20, sc20, c20, rfl, rfl⟩, b20⟩
  have W21 : FnFact g tb 21 (PySem.W.fnOf "_law_spoiled" "_law_spoiled" (defArgs s21) (defBody s21) (defScope s21) .none kV21 dc21 pm21 an21 cd21 ct21) p21 := by
    subst hg
    exact ⟨⟨n21, _, _, s21, d21, rfl, F21, sc21, c21, rfl, rfl⟩, b21⟩
  have W22 : FnFact g tb 22 (PySem.W.fnOf "_law_bits" "_law_bits" (defArgs s22) (defBody s22) (defScope s22) .none kV22 dc22 pm22 an22 cd22 ct22) p22 := by
    subst hg
    exact ⟨⟨n22, _, _, s22, d22, rfl, F22, sc22, c22, rfl, rfl⟩, b22⟩
  have W23 : FnFact g tb 23 (PySem.W.fnOf "_law_is_cube" "_law_is_cube" (defArgs s23) (defBody s23) (defScope s23) .none kV23 dc23 pm23 an23 cd23 ct23) p23 := by
    subst hg
    exact ⟨⟨n23, _, _, s23, d23, rfl, F23, sc23, c23, rfl, rfl⟩, b23⟩
  have W24 : FnFact g tb 24 (PySem.W.fnOf "_law_joined" "_law_joined" (defArgs s24) (defBody s24) (defScope s24) .none kV24 dc24 pm24 an24 cd24 ct24) p24 := by
    subst hg
    exact ⟨⟨n24, _, _, s24, d24, rfl, F24, sc24, c24, rfl, rfl⟩, b24⟩
  have W25 : FnFact g tb 25 (PySem.W.fnOf "_law_dropped" "_law_dropped" (defArgs s25) (defBody s25) (defScope s25) .none kV25 dc25 pm25 an25 cd25 ct25) p25 := by
    subst hg
    exact ⟨⟨n25, _, _, s25, d25, rfl, F25, sc25, c25, rfl, rfl⟩, b25⟩
  have W26 : FnFact g tb 26 (PySem.W.fnOf "_law_step_told" "_law_step_told" (defArgs s26) (defBody s26) (defScope s26) .none kV26 dc26 pm26 an26 cd26 ct26) p26 := by
    subst hg
    exact ⟨⟨n26, _, _, s26, d26, rfl, F26, sc26, c26, rfl, rfl⟩, b26⟩
  have W27 : FnFact g tb 27 (PySem.W.fnOf "_law_file_clauses" "_law_file_clauses" (defArgs s27) (defBody s27) (defScope s27) .none kV27 dc27 pm27 an27 cd27 ct27) p27 := by
    subst hg
    exact ⟨⟨n27, _, _, s27, d27, rfl, F27, sc27, c27, rfl, rfl⟩, b27⟩
  have W28 : FnFact g tb 28 (PySem.W.fnOf "_law_clause" "_law_clause" (defArgs s28) (defBody s28) (defScope s28) .none kV28 dc28 pm28 an28 cd28 ct28) p28 := by
    subst hg
    exact ⟨⟨n28, _, _, s28, d28, rfl, F28, sc28, c28, rfl, rfl⟩, b28⟩
  have W29 : FnFact g tb 29 (PySem.W.fnOf "_law_clauses" "_law_clauses" (defArgs s29) (defBody s29) (defScope s29) .none kV29 dc29 pm29 an29 cd29 ct29) p29 := by
    subst hg
    exact ⟨⟨n29, _, _, s29, d29, rfl, F29, sc29, c29, rfl, rfl⟩, b29⟩
  have W30 : FnFact g tb 30 (PySem.W.fnOf "_law_clause_book" "_law_clause_book" (defArgs s30) (defBody s30) (defScope s30) .none kV30 dc30 pm30 an30 cd30 ct30) p30 := by
    subst hg
    exact ⟨⟨n30, _, _, s30, d30, rfl, F30, sc30, c30, rfl, rfl⟩, b30⟩
  have W31 : FnFact g tb 31 (PySem.W.fnOf "_law_steps" "_law_steps" (defArgs s31) (defBody s31) (defScope s31) .none kV31 dc31 pm31 an31 cd31 ct31) p31 := by
    subst hg
    exact ⟨⟨n31, _, _, s31, d31, rfl, F31, sc31, c31, rfl, rfl⟩, b31⟩
  have W32 : FnFact g tb 32 (PySem.W.fnOf "law" "law" (defArgs s32) (defBody s32) (defScope s32) .none kV32 dc32 pm32 an32 cd32 ct32) p32 := by
    subst hg
    exact ⟨⟨n32, _, _, s32, d32, rfl, F32, sc32, c32, rfl, rfl⟩, b32⟩
  have O : PgOk g tb := by
    subst hg
    refine ⟨look_all ⟨⟨_, _, W0⟩, ⟨_, _, W1⟩, ⟨_, _, W2⟩, ⟨_, _, W3⟩, ⟨_, _, W4⟩, ⟨_, _, W5⟩, ⟨_, _, W6⟩, ⟨_, _, W7⟩, ⟨_, _, W10⟩, ⟨_, _, W11⟩, ⟨_, _, W12⟩, ⟨_, _, W13⟩, ⟨_, _, W14⟩, ⟨_, _, W15⟩, ⟨_, _, W16⟩, ⟨_, _, W17⟩, ⟨_, _, W18⟩, ⟨_, _, W19⟩, ⟨_, _, W20⟩, ⟨_, _, W21⟩, ⟨_, _, W22⟩, ⟨_, _, W23⟩, ⟨_, _, W24⟩, ⟨_, _, W25⟩, ⟨_, _, W26⟩, ⟨_, _, W27⟩, ⟨_, _, W28⟩, ⟨_, _, W29⟩, ⟨_, _, W30⟩, ⟨_, _, W31⟩, ⟨_, _, W32⟩, trivial⟩, fun c f h => ?_, look_all ⟨⟨kC0, fun f h => by cases h⟩, ⟨kC1, fun f h => by cases h⟩, ⟨kC2, fun f h => by cases h; exact ⟨⟨mk8, a8, if8, kC2⟩, _, _, W8⟩⟩, trivial⟩⟩
    have h2 : (c = 2 ∧ f = 9) := by
      have h : eqf c = some f := h
      unfold eqf at h
      repeat (first | (split at h; · rename_i hc; cases h; simp [hc]) | cases h)
    rcases h2 with ⟨rfl, rfl⟩
    · exact ⟨_, _, W9⟩
  have R := law_fn GT O (i := 32) (k := 20) (n := 63) W32 (by subst hg; exact B4) spec
  subst hg
  exact R
end
end Lk55
set_option Elab.async false
set_option linter.all false
set_option maxRecDepth 100000
set_option autoImplicit false
set_option maxHeartbeats 4000000
/-! Ev, part T: rows for the simplifier: the interpreter run by simp, step by step. Printed by evt.py. -/
namespace Ev
section
variable {α β : Type} {f : α → Store → R β} {h : α → Store → R Fl} {σ : Env}
@[simp] theorem bind_ok' (a : α) (S : Store) : (R.ok a S).bind f = f a S := rfl
@[simp] theorem bind_ex' (c : Nat) (dd : List D) (S : Store) : (R.ex c dd S : R α).bind f = .ex c dd S := rfl
@[simp] theorem cat_ok' (a : α) (S : Store) : (R.ok a S).cat σ h = h a S := rfl
@[simp] theorem cat_ex' (c : Nat) (dd : List D) (S : Store) : (R.ex c dd S : R α).cat σ h = .ok (.xc σ c dd) S := rfl
@[simp] theorem map_ok' (a : α) (S : Store) (f : α → β) : (R.ok a S).map f = .ok (f a) S := rfl
@[simp] theorem nox_ok' (a : α) (S : Store) : (R.ok a S).nox = .ok a S := rfl
@[simp] theorem ofO_some (a : α) (S : Store) : ofO S (some a) = .ok a S := rfl
end
@[simp] theorem alloc_v (d : D) (S : Store) : alloc (.v d) S = (d, S) := rfl
@[simp] theorem alloc_t (o : O) (S : Store) : alloc (.t o) S = (.ref S.length, S ++ [o]) := rfl
@[simp] theorem ralloc (t : T) (S : Store) : (R.ok t S).alloc = .ok (alloc t S).1 (alloc t S).2 := rfl
section
variable (cx : Cxt) (σ : Env) (S : Store)
@[simp] theorem den_var (i : Nat) : (den cx (.var i)).e σ S = ofO S ((σ[i]?.join).map T.v) := rfl
@[simp] theorem den_cst (d : D) : (den cx (.cst d)).e σ S = .ok (.v d) S := rfl
def kNd (cx : Cxt) (k : Kd) : List T → Store → R T := fun ts S => app cx S k ts
@[simp] theorem kNd_ap (cx : Cxt) (k : Kd) (ts : List T) (S : Store) : kNd cx k ts S = app cx S k ts := rfl
@[simp] theorem den_nd (k : Kd) (es : List Ex) : (den cx (.nd k es)).e σ S = (dens cx es σ S).bind (kNd cx k) := rfl
def kNa (cx : Cxt) (k : Ka) : List D → Store → R T := fun ts S => appA cx S k ts
@[simp] theorem kNa_ap (cx : Cxt) (k : Ka) (ts : List D) (S : Store) : kNa cx k ts S = appA cx S k ts := rfl
@[simp] theorem den_na (k : Ka) (es : List Ex) : (den cx (.na k es)).e σ S = (ded cx es σ S).bind (kNa cx k) := rfl
def andK (cx : Cxt) (b : Ex) (σ : Env) (t : T) (S : Store) : R T := match t with
  | .v (.bl true) => (den cx b).e σ S
  | .v (.bl false) => .ok (.v (.bl false)) S
  | _ => .bad
def orK (cx : Cxt) (b : Ex) (σ : Env) (t : T) (S : Store) : R T := match t with
  | .v (.bl false) => (den cx b).e σ S
  | .v (.bl true) => .ok (.v (.bl true)) S
  | _ => .bad
def notK (t : T) (S : Store) : R T := match t with
  | .v (.bl c) => .ok (.v (.bl (!c))) S
  | _ => .bad
@[simp] theorem den_and (a b : Ex) : (den cx (.and a b)).e σ S = ((den cx a).e σ S).bind (andK cx b σ) := rfl
@[simp] theorem den_or (a b : Ex) : (den cx (.or a b)).e σ S = ((den cx a).e σ S).bind (orK cx b σ) := rfl
@[simp] theorem den_not (a : Ex) : (den cx (.not a)).e σ S = ((den cx a).e σ S).bind notK := rfl
@[simp] theorem andK_t (b : Ex) : andK cx b σ (.v (.bl true)) S = (den cx b).e σ S := rfl
@[simp] theorem andK_f (b : Ex) : andK cx b σ (.v (.bl false)) S = .ok (.v (.bl false)) S := rfl
@[simp] theorem orK_t (b : Ex) : orK cx b σ (.v (.bl true)) S = .ok (.v (.bl true)) S := rfl
@[simp] theorem orK_f (b : Ex) : orK cx b σ (.v (.bl false)) S = (den cx b).e σ S := rfl
theorem andK_b (b : Ex) (c : Bool) : andK cx b σ (.v (.bl c)) S = if c = true then (den cx b).e σ S else .ok (.v (.bl false)) S := by cases c <;> rfl
theorem orK_b (b : Ex) (c : Bool) : orK cx b σ (.v (.bl c)) S = if c = true then .ok (.v (.bl true)) S else (den cx b).e σ S := by cases c <;> rfl
@[simp] theorem notK_b (c : Bool) : notK (.v (.bl c)) S = .ok (.v (.bl (!c))) S := rfl
def iteK (cx : Cxt) (a b : Ex) (σ : Env) : Bool → Store → R T := fun x S => if x = true then (den cx a).e σ S else (den cx b).e σ S
@[simp] theorem iteK_ap (cx : Cxt) (a b : Ex) (σ : Env) (x : Bool) (S : Store) : iteK cx a b σ x S = if x = true then (den cx a).e σ S else (den cx b).e σ S := rfl
@[simp] theorem den_ite (c a b : Ex) : (den cx (.ite c a b)).e σ S = ((den cx c).b σ S).bind (iteK cx a b σ) := rfl
def ch4 (cx : Cxt) (o' : Cm) (y : T) : T → Store → R T := fun z S => ofO S ((cmpE S o' y z).map fun q => .v (.bl q))
@[simp] theorem ch4_ap (cx : Cxt) (o' : Cm) (y : T) (z : T) (S : Store) : ch4 cx o' y z S = ofO S ((cmpE S o' y z).map fun q => .v (.bl q)) := rfl
def ch3 (cx : Cxt) (o' : Cm) (c : Ex) (σ : Env) (y : T) : Bool → Store → R T := fun r S => if r = true then ((den cx c).e σ S).bind (ch4 cx o' y) else .ok (.v (.bl false)) S
@[simp] theorem ch3_ap (cx : Cxt) (o' : Cm) (c : Ex) (σ : Env) (y : T) (r : Bool) (S : Store) : ch3 cx o' c σ y r S = if r = true then ((den cx c).e σ S).bind (ch4 cx o' y) else .ok (.v (.bl false)) S := rfl
def ch2 (cx : Cxt) (o o' : Cm) (c : Ex) (σ : Env) (x : T) : T → Store → R T := fun y S => (ofO S (cmpE S o x y)).bind (ch3 cx o' c σ y)
@[simp] theorem ch2_ap (cx : Cxt) (o o' : Cm) (c : Ex) (σ : Env) (x : T) (y : T) (S : Store) : ch2 cx o o' c σ x y S = (ofO S (cmpE S o x y)).bind (ch3 cx o' c σ y) := rfl
def ch1 (cx : Cxt) (o o' : Cm) (b c : Ex) (σ : Env) : T → Store → R T := fun x S => ((den cx b).e σ S).bind (ch2 cx o o' c σ x)
@[simp] theorem ch1_ap (cx : Cxt) (o o' : Cm) (b c : Ex) (σ : Env) (x : T) (S : Store) : ch1 cx o o' b c σ x S = ((den cx b).e σ S).bind (ch2 cx o o' c σ x) := rfl
@[simp] theorem den_ch (o o' : Cm) (a b c : Ex) : (den cx (.ch o o' a b c)).e σ S = ((den cx a).e σ S).bind (ch1 cx o o' b c σ) := rfl
def lcEnd (ds : List D) (S : Store) : R T := .ok (.t (.lst ds)) S
@[simp] theorem lcEnd_ap (ds : List D) : lcEnd ds S = .ok (.t (.lst ds)) S := rfl
def elF (cx : Cxt) (el : Ex) : Env → Store → R D := fun σ S => ((den cx el).e σ S).alloc
@[simp] theorem elF_ap (el : Ex) : elF cx el σ S = ((den cx el).e σ S).alloc := rfl
def lcG (cx : Cxt) (t : Tg) (cs : List Ex) (el : Ex) (own : List Nat) (σ : Env) : Store → (Store → Bool) → List D → R (List D) := fun S' gd ds => lcL (bindT t) (dent cx cs) (elF cx el) gd (wipeE σ own) ds S'
@[simp] theorem lcG_ap (t : Tg) (cs : List Ex) (el : Ex) (own : List Nat) (gd : Store → Bool) (ds : List D) : lcG cx t cs el own σ S gd ds = lcL (bindT t) (dent cx cs) (elF cx el) gd (wipeE σ own) ds S := rfl
def lckE (p : Nat × List (L2.Key × D)) : List D → Store → R T := fun ds S2 => if S2[p.1]? = some (.lk (.dK p.2)) then .ok (.t (.lst ds)) (S2.set p.1 (.dK p.2)) else .bad
@[simp] theorem lckE_ap (p : Nat × List (L2.Key × D)) (ds : List D) : lckE p ds S = if S[p.1]? = some (.lk (.dK p.2)) then .ok (.t (.lst ds)) (S.set p.1 (.dK p.2)) else .bad := rfl
@[simp] theorem lckR_some (p : Nat × List (L2.Key × D)) (f : Store → (Store → Bool) → List D → R (List D)) : lckR (some p) f S = (f (S.set p.1 (.lk (.dK p.2))) (fun S' => decide (S'[p.1]? = some (.lk (.dK p.2)))) (p.2.map fun kv => keyD kv.1)).nox.bind (lckE p) := rfl
def lcO (cx : Cxt) (t : Tg) (ik : Ik) (ia cs : List Ex) (el : Ex) (own : List Nat) (σ : Env) (ts : List T) (S : Store) : Option (List D × (Store → Bool)) → R T
  | none => lckR (lockOf ik ia ts S) (lcG cx t cs el own σ) S
  | some p => (lcL (bindT t) (dent cx cs) (elF cx el) p.2 (wipeE σ own) p.1 S).nox.bind lcEnd
@[simp] theorem lcO_some (t : Tg) (ik : Ik) (ia cs : List Ex) (el : Ex) (own : List Nat) (ts : List T) (p : List D × (Store → Bool)) : lcO cx t ik ia cs el own σ ts S (some p) = (lcL (bindT t) (dent cx cs) (elF cx el) p.2 (wipeE σ own) p.1 S).nox.bind lcEnd := rfl
@[simp] theorem lcO_none (t : Tg) (ik : Ik) (ia cs : List Ex) (el : Ex) (own : List Nat) (ts : List T) : lcO cx t ik ia cs el own σ ts S none = lckR (lockOf ik ia ts S) (lcG cx t cs el own σ) S := rfl
def lcK (cx : Cxt) (t : Tg) (ik : Ik) (ia cs : List Ex) (el : Ex) (own : List Nat) (σ : Env) : List T → Store → R T := fun ts S => lcO cx t ik ia cs el own σ ts S (iterOf S ik ts)
@[simp] theorem lcK_ap (t : Tg) (ik : Ik) (ia cs : List Ex) (el : Ex) (own : List Nat) (ts : List T) : lcK cx t ik ia cs el own σ ts S = lcO cx t ik ia cs el own σ ts S (iterOf S ik ts) := rfl
@[simp] theorem den_lc (t : Tg) (ik : Ik) (ia cs : List Ex) (el : Ex) (own : List Nat) : (den cx (.lc t ik ia cs el own)).e σ S = (dens cx ia σ S).bind (lcK cx t ik ia cs el own σ) := by
  show (dens cx ia σ S).bind _ = _
  congr 1
def dcEnd (o : O) (S : Store) : R T := .ok (.t o) S
@[simp] theorem dcEnd_ap (o : O) : dcEnd o S = .ok (.t o) S := rfl
def dcO (cx : Cxt) (t : Tg) (cs : List Ex) (ke ve : Ex) (own : List Nat) (σ : Env) (S : Store) : Option (List D × (Store → Bool)) → R T
  | none => .bad
  | some p => (dcL (bindT t) (dent cx cs) (elF cx ke) (elF cx ve) p.2 (wipeE σ own) p.1 (.dK []) S).nox.bind dcEnd
@[simp] theorem dcO_some (t : Tg) (cs : List Ex) (ke ve : Ex) (own : List Nat) (p : List D × (Store → Bool)) : dcO cx t cs ke ve own σ S (some p) = (dcL (bindT t) (dent cx cs) (elF cx ke) (elF cx ve) p.2 (wipeE σ own) p.1 (.dK []) S).nox.bind dcEnd := rfl
def dcK (cx : Cxt) (t : Tg) (ik : Ik) (cs : List Ex) (ke ve : Ex) (own : List Nat) (σ : Env) : List T → Store → R T := fun ts S => dcO cx t cs ke ve own σ S (iterOf S ik ts)
@[simp] theorem dcK_ap (t : Tg) (ik : Ik) (cs : List Ex) (ke ve : Ex) (own : List Nat) (ts : List T) : dcK cx t ik cs ke ve own σ ts S = dcO cx t cs ke ve own σ S (iterOf S ik ts) := rfl
@[simp] theorem den_dc (t : Tg) (ik : Ik) (ia cs : List Ex) (ke ve : Ex) (own : List Nat) : (den cx (.dc t ik ia cs ke ve own)).e σ S = (dens cx ia σ S).bind (dcK cx t ik cs ke ve own σ) := by
  show (dens cx ia σ S).bind _ = _
  congr 1
def sl3 (x : T) (i : Int) : T → Store → R T := fun z S => ofO S ((intO z).bind fun j => slcE S x (some i) (some j))
@[simp] theorem sl3_ap (x : T) (i : Int) (z : T) (S : Store) : sl3 x i z S = ofO S ((intO z).bind fun j => slcE S x (some i) (some j)) := rfl
def sl2 (cx : Cxt) (h : Ex) (σ : Env) (x : T) (y : T) (S : Store) : R T := match intO y with
      | none => .bad
      | some i => ((den cx h).e σ S).bind (sl3 x i)
@[simp] theorem sl2_ap (h : Ex) (x : T) (i : Int) : sl2 cx h σ x (.v (.int i)) S = ((den cx h).e σ S).bind (sl3 x i) := rfl
def sl1 (cx : Cxt) (l h : Ex) (σ : Env) (x : T) (S : Store) : R T := ((den cx l).e σ S).bind (sl2 cx h σ x)
@[simp] theorem sl1_ap (l h : Ex) (x : T) : sl1 cx l h σ x S = ((den cx l).e σ S).bind (sl2 cx h σ x) := rfl
@[simp] theorem den_sl (a l h : Ex) : (den cx (.sl a l h)).e σ S = ((den cx a).e σ S).bind (sl1 cx l h σ) := by
  show ((den cx a).e σ S).bind _ = _
  congr 1
def met2 (m : Me) (t : T) : List D → Store → R T := fun ds S => meE S m t ds
@[simp] theorem met2_ap (m : Me) (t : T) (ds : List D) (S : Store) : met2 m t ds S = meE S m t ds := rfl
def met1 (cx : Cxt) (m : Me) (es : List Ex) (σ : Env) : T → Store → R T := fun t S => if meOk S m t = true then (ded cx es σ S).bind (met2 m t) else .bad
@[simp] theorem met1_ap (cx : Cxt) (m : Me) (es : List Ex) (σ : Env) (t : T) (S : Store) : met1 cx m es σ t S = if meOk S m t = true then (ded cx es σ S).bind (met2 m t) else .bad := rfl
@[simp] theorem den_meth (m : Me) (o : Ex) (es : List Ex) : (den cx (.meth m o es)).e σ S = ((den cx o).e σ S).bind (met1 cx m es σ) := rfl
def truK  : T → Store → R Bool := fun t S => ofO S (truth S t)
@[simp] theorem truK_ap  (t : T) (S : Store) : truK  t S = ofO S (truth S t) := rfl
@[simp] theorem denb_var (i : Nat) : (den cx (.var i)).b σ S = ((den cx (.var i)).e σ S).bind truK := rfl
@[simp] theorem denb_nd (k : Kd) (es : List Ex) : (den cx (.nd k es)).b σ S = ((den cx (.nd k es)).e σ S).bind truK := rfl
@[simp] theorem denb_na (k : Ka) (es : List Ex) : (den cx (.na k es)).b σ S = ((den cx (.na k es)).e σ S).bind truK := rfl
@[simp] theorem denb_ch (o o' : Cm) (a b c : Ex) : (den cx (.ch o o' a b c)).b σ S = ((den cx (.ch o o' a b c)).e σ S).bind truK := rfl
@[simp] theorem denb_lc (t : Tg) (ik : Ik) (ia cs : List Ex) (el : Ex) (own : List Nat) : (den cx (.lc t ik ia cs el own)).b σ S = ((den cx (.lc t ik ia cs el own)).e σ S).bind truK := rfl
@[simp] theorem denb_dc (t : Tg) (ik : Ik) (ia cs : List Ex) (ke ve : Ex) (own : List Nat) : (den cx (.dc t ik ia cs ke ve own)).b σ S = ((den cx (.dc t ik ia cs ke ve own)).e σ S).bind truK := rfl
@[simp] theorem denb_meth (m : Me) (o : Ex) (es : List Ex) : (den cx (.meth m o es)).b σ S = ((den cx (.meth m o es)).e σ S).bind truK := rfl
@[simp] theorem denb_sl (a l h : Ex) : (den cx (.sl a l h)).b σ S = ((den cx (.sl a l h)).e σ S).bind truK := rfl
@[simp] theorem denb_cst (d : D) : (den cx (.cst d)).b σ S = ofO S (truth S (.v d)) := rfl
def bAnd (cx : Cxt) (b : Ex) (σ : Env) : Bool → Store → R Bool := fun c S => if c = true then (den cx b).b σ S else .ok false S
@[simp] theorem bAnd_ap (cx : Cxt) (b : Ex) (σ : Env) (c : Bool) (S : Store) : bAnd cx b σ c S = if c = true then (den cx b).b σ S else .ok false S := rfl
def bOr (cx : Cxt) (b : Ex) (σ : Env) : Bool → Store → R Bool := fun c S => if c = true then .ok true S else (den cx b).b σ S
@[simp] theorem bOr_ap (cx : Cxt) (b : Ex) (σ : Env) (c : Bool) (S : Store) : bOr cx b σ c S = if c = true then .ok true S else (den cx b).b σ S := rfl
def bNot  : Bool → Store → R Bool := fun c S => .ok (!c) S
@[simp] theorem bNot_ap  (c : Bool) (S : Store) : bNot  c S = .ok (!c) S := rfl
def bIte (cx : Cxt) (a b : Ex) (σ : Env) : Bool → Store → R Bool := fun c S => if c = true then (den cx a).b σ S else (den cx b).b σ S
@[simp] theorem bIte_ap (cx : Cxt) (a b : Ex) (σ : Env) (c : Bool) (S : Store) : bIte cx a b σ c S = if c = true then (den cx a).b σ S else (den cx b).b σ S := rfl
@[simp] theorem denb_and (a b : Ex) : (den cx (.and a b)).b σ S = ((den cx a).b σ S).bind (bAnd cx b σ) := rfl
@[simp] theorem denb_or (a b : Ex) : (den cx (.or a b)).b σ S = ((den cx a).b σ S).bind (bOr cx b σ) := rfl
@[simp] theorem denb_not (a : Ex) : (den cx (.not a)).b σ S = ((den cx a).b σ S).bind bNot := rfl
@[simp] theorem denb_ite (c a b : Ex) : (den cx (.ite c a b)).b σ S = ((den cx c).b σ S).bind (bIte cx a b σ) := rfl
def cons2 {α : Type} (t : α) : List α → Store → R (List α) := fun ts S => .ok (t :: ts) S
@[simp] theorem cons2_ap {α : Type} (t : α) (ts : List α) : cons2 t ts S = .ok (t :: ts) S := rfl
def cons1 (cx : Cxt) (es : List Ex) (σ : Env) : T → Store → R (List T) := fun t S => (dens cx es σ S).bind (cons2 t)
@[simp] theorem cons1_ap (es : List Ex) (t : T) : cons1 cx es σ t S = (dens cx es σ S).bind (cons2 t) := rfl
def con1 (cx : Cxt) (es : List Ex) (σ : Env) : D → Store → R (List D) := fun t S => (ded cx es σ S).bind (cons2 t)
@[simp] theorem con1_ap (es : List Ex) (t : D) : con1 cx es σ t S = (ded cx es σ S).bind (cons2 t) := rfl
@[simp] theorem dens_nil : dens cx [] σ S = .ok [] S := rfl
@[simp] theorem dens_cons (e : Ex) (es : List Ex) : dens cx (e :: es) σ S = ((den cx e).e σ S).bind (cons1 cx es σ) := rfl
@[simp] theorem ded_nil' : ded cx [] σ S = .ok [] S := rfl
@[simp] theorem ded_cons (e : Ex) (es : List Ex) : ded cx (e :: es) σ S = ((den cx e).e σ S).alloc.bind (con1 cx es σ) := rfl
@[simp] theorem dent_nil : dent cx [] σ S = .ok true S := rfl
@[simp] theorem dent_cons (c : Ex) (r : List Ex) : dent cx (c :: r) σ S = (den cx c).b σ S := rfl
@[simp] theorem app_op (o : Op2) (a b : T) : app cx S (.op o) [a, b] = ofO S (opE S o a b) := rfl
@[simp] theorem app_neg (i : Int) : app cx S .neg [.v (.int i)] = .ok (.v (.int (-i))) S := rfl
def cmpF (cx : Cxt) (S : Store) (o : Cm) (a b : T) : Option (Nat × D × D) → R T
  | some q => (cx.cj q.1 [q.2.1, q.2.2] S).nox.bind (ownK o)
  | none => ofO S ((cmpE S o a b).map fun c => .v (.bl c))
@[simp] theorem cmpF_none (o : Cm) (a b : T) : cmpF cx S o a b none = ofO S ((cmpE S o a b).map fun c => .v (.bl c)) := rfl
@[simp] theorem cmpF_some (o : Cm) (a b : T) (q : Nat × D × D) : cmpF cx S o a b (some q) = (cx.cj q.1 [q.2.1, q.2.2] S).nox.bind (ownK o) := rfl
@[simp] theorem ownK_bl (o : Cm) (r : Bool) : ownK o (.bl r) S = .ok (.v (.bl (negB o r))) S := rfl
@[simp] theorem app_cmp (o : Cm) (a b : T) : app cx S (.cmp o) [a, b] = cmpF cx S o a b (ownQ cx S o a b) := by
  show (match ownQ cx S o a b with | some q => _ | none => _) = _
  cases ownQ cx S o a b <;> rfl
@[simp] theorem own_lt (a b : T) : ownQ cx S .lt a b = none := rfl
@[simp] theorem own_le (a b : T) : ownQ cx S .le a b = none := rfl
@[simp] theorem own_gt (a b : T) : ownQ cx S .gt a b = none := rfl
@[simp] theorem own_ge (a b : T) : ownQ cx S .ge a b = none := rfl
@[simp] theorem own_mem (a b : T) : ownQ cx S .mem a b = none := rfl
@[simp] theorem own_nmem (a b : T) : ownQ cx S .nmem a b = none := rfl
@[simp] theorem own_is (a b : T) : ownQ cx S .is a b = none := rfl
@[simp] theorem own_nis (a b : T) : ownQ cx S .nis a b = none := rfl
@[simp] theorem own_int (o : Cm) (i : Int) (b : T) : ownQ cx S o (.v (.int i)) b = none := by unfold ownQ; split <;> rfl
@[simp] theorem own_str (o : Cm) (x : PySem.Str) (b : T) : ownQ cx S o (.v (.str x)) b = none := by unfold ownQ; split <;> rfl
@[simp] theorem own_bl (o : Cm) (x : Bool) (b : T) : ownQ cx S o (.v (.bl x)) b = none := by unfold ownQ; split <;> rfl
@[simp] theorem own_non (o : Cm) (b : T) : ownQ cx S o (.v .non) b = none := by unfold ownQ; split <;> rfl
@[simp] theorem own_tup (o : Cm) (x : List D) (b : T) : ownQ cx S o (.v (.tup x)) b = none := by unfold ownQ; split <;> rfl
@[simp] theorem own_t (o : Cm) (x : O) (b : T) : ownQ cx S o (.t x) b = none := by unfold ownQ; split <;> rfl
theorem own_lst {o : Cm} {n : Nat} {ds : List D} {b : T} (h : S[n]? = some (.lst ds)) : ownQ cx S o (.v (.ref n)) b = none := by
  unfold ownQ
  split
  · cases b with
    | v y => dsimp only; rw [h]
    | t _ => rfl
  · rfl
@[simp] theorem app_idx (a i : T) : app cx S .idx [a, i] = ofO S ((idxE S a i).map T.v) := rfl
@[simp] theorem app_slc0 (a : T) : app cx S (.slc 0) [a] = ofO S (slcE S a none none) := rfl
@[simp] theorem app_slc1 (a : T) (i : Int) : app cx S (.slc 1) [a, .v (.int i)] = ofO S (slcE S a (some i) none) := rfl
@[simp] theorem app_slc2 (a : T) (i : Int) : app cx S (.slc 2) [a, .v (.int i)] = ofO S (slcE S a none (some i)) := rfl
@[simp] theorem app_bi (b : Bi) (t : T) : app cx S (.bi b) [t] = ofO S (biE S b t) := rfl
theorem app_isiC (n : Nat) (a : T) : app cx S (.isi (.c n)) [a] = match tyC S a with
      | some m => if cx.ic m = true then .ok (.v (.bl (cx.sb m n))) S else .bad
      | none => match tyX S a with
        | some m => if cx.xi m = true then .ok (.v (.bl (cx.sb m n))) S else .bad
        | none => match tyB S a with
          | some _ => .ok (.v (.bl false)) S
          | none => .bad := rfl
theorem app_isiB (s : String) (a : T) : app cx S (.isi (.b s)) [a] = match tyB S a with
      | some u => ofO S ((L2.kitB u s).map fun c => .v (.bl c))
      | none => match tyC S a with
        | some m => if cx.ic m = true then .ok (.v (.bl false)) S else .bad
        | none => .bad := rfl
theorem app_isiV (a : T) : app cx S (.isi .ve) [a] = match tyX S a with
      | some m => if cx.xi m = true then .ok (.v (.bl (cx.sb m 1000))) S else .bad
      | none => .bad := rfl
theorem app_fld (f : Nat) (t : T) : app cx S (.fld f) [t] = match objW S t with
    | some (.ins c fs) => if cx.at_ c f = true then ofO S ((fs.lookup f).map T.v) else .bad
    | some (.exn c fs) => if cx.xa c f = true then ofO S ((fs.lookup f).map T.v) else .bad
    | _ => .bad := rfl
/-- isinstance of a value of a built-in type -/
theorem isiB_of {s u : String} {a : T} {c : Bool} (h : tyB S a = some u) (k : L2.kitB u s = some c) : app cx S (.isi (.b s)) [a] = .ok (.v (.bl c)) S := by
  rw [app_isiB, h]
  show ofO S ((L2.kitB u s).map _) = _
  rw [k]
  rfl
@[simp] theorem app_dct : app cx S .dct [] = .ok (.t (.dK [])) S := rfl
@[simp] theorem appA_tup (ds : List D) : appA cx S .tup ds = if ds.length ≤ PySem.sizeLine then .ok (.v (.tup ds)) S else .bad := rfl
@[simp] theorem appA_lst (ds : List D) : appA cx S .lst ds = if ds.length ≤ PySem.sizeLine then .ok (.t (.lst ds)) S else .bad := rfl
def valK1 : D → Store → R T := fun d S => .ok (.v d) S
@[simp] theorem valK1_ap (d : D) : valK1 d S = .ok (.v d) S := rfl
@[simp] theorem appA_call (f : Nat) (ds : List D) : appA cx S (.call f) ds = (cx.call f ds S).bind valK1 := rfl
@[simp] theorem appA_mk (c : Nat) (ds : List D) : appA cx S (.mk c) ds = (cx.mak c ds S).bind valK1 := rfl
@[simp] theorem appA_mkx0 (c : Nat) : appA cx S (.mkx c none) [] = if cx.lv = true then .ok (.v (.ref S.length)) (S ++ [.exn c []]) else .bad := rfl
@[simp] theorem appA_mkx1 (c f : Nat) (d : D) : appA cx S (.mkx c (some f)) [d] = if cx.lv = true then .ok (.v (.ref S.length)) (S ++ [.exn c [(f, d)]]) else .bad := rfl
/-! statements -/
def setK (i : Nat) (σ : Env) : T → Store → R Fl := fun v S => if i < σ.length then .ok (.nx (σ.set i (some (alloc v S).1))) (alloc v S).2 else .bad
@[simp] theorem setK_ap (i : Nat) (v : T) : setK i σ v S = if i < σ.length then .ok (.nx (σ.set i (some (alloc v S).1))) (alloc v S).2 else .bad := rfl
@[simp] theorem ex_set (i : Nat) (e : Ex) : exS cx (.set (.var i) e) σ S = ((den cx e).e σ S).cat σ (setK i σ) := by simp only [exS]; rfl
def retK : D → Store → R Fl := fun d S => .ok (.rt d) S
@[simp] theorem retK_ap (d : D) : retK d S = .ok (.rt d) S := rfl
@[simp] theorem ex_ret (e : Ex) : exS cx (.ret e) σ S = ((den cx e).e σ S).alloc.cat σ retK := by simp only [exS]; rfl
@[simp] theorem ex_retN : exS cx .retN σ S = .ok (.rt .non) S := by simp only [exS]
@[simp] theorem ex_nop : exS cx .nop σ S = .ok (.nx σ) S := by simp only [exS]
@[simp] theorem ex_brk : exS cx .brk σ S = .ok (.bk σ) S := by simp only [exS]
@[simp] theorem ex_cnt : exS cx .cnt σ S = .ok (.ct σ) S := by simp only [exS]
def exK (σ : Env) : T → Store → R Fl := fun _ S => .ok (.nx σ) S
@[simp] theorem exK_ap (t : T) : exK σ t S = .ok (.nx σ) S := rfl
@[simp] theorem ex_ex (e : Ex) : exS cx (.ex e) σ S = ((den cx e).e σ S).cat σ (exK σ) := by simp only [exS]; rfl
noncomputable def ifK (cx : Cxt) (a b : List Sx) (σ : Env) : Bool → Store → R Fl := fun x S => if x = true then exSs cx a σ S else exSs cx b σ S
@[simp] theorem ifK_ap (a b : List Sx) (x : Bool) : ifK cx a b σ x S = if x = true then exSs cx a σ S else exSs cx b σ S := rfl
@[simp] theorem ex_ite (c : Ex) (a b : List Sx) : exS cx (.ite c a b) σ S = ((den cx c).b σ S).cat σ (ifK cx a b σ) := by simp only [exS]; rfl
noncomputable def frO (cx : Cxt) (t : Tg) (b : List Sx) (σ : Env) (S : Store) : Option (List D × (Store → Bool)) → R Fl
  | none => .bad
  | some p => frL (bindT t) (exSs cx b) p.2 p.1 σ S
@[simp] theorem frO_some (t : Tg) (b : List Sx) (p : List D × (Store → Bool)) : frO cx t b σ S (some p) = frL (bindT t) (exSs cx b) p.2 p.1 σ S := rfl
noncomputable def frK (cx : Cxt) (t : Tg) (ik : Ik) (b : List Sx) (σ : Env) : List T → Store → R Fl := fun ts S => frO cx t b σ S (iterOf S ik ts)
@[simp] theorem frK_ap (t : Tg) (ik : Ik) (b : List Sx) (ts : List T) : frK cx t ik b σ ts S = frO cx t b σ S (iterOf S ik ts) := rfl
@[simp] theorem ex_fr (t : Tg) (ik : Ik) (ia : List Ex) (b : List Sx) : exS cx (.fr t ik ia b) σ S = (dens cx ia σ S).cat σ (frK cx t ik b σ) := by
  simp only [exS]
  congr 1
@[simp] theorem exs_nil : exSs cx [] σ S = .ok (.nx σ) S := by simp only [exSs]
noncomputable def seqK (cx : Cxt) (r : List Sx) (f : Fl) (S : Store) : R Fl := match f with
  | .nx σ1 => exSs cx r σ1 S
  | f => .ok f S
@[simp] theorem seqK_nx (r : List Sx) : seqK cx r (.nx σ) S = exSs cx r σ S := rfl
@[simp] theorem seqK_rt (r : List Sx) (d : D) : seqK cx r (.rt d) S = .ok (.rt d) S := rfl
@[simp] theorem seqK_bk (r : List Sx) : seqK cx r (.bk σ) S = .ok (.bk σ) S := rfl
@[simp] theorem seqK_ct (r : List Sx) : seqK cx r (.ct σ) S = .ok (.ct σ) S := rfl
@[simp] theorem seqK_xc (r : List Sx) (c : Nat) (dd : List D) : seqK cx r (.xc σ c dd) S = .ok (.xc σ c dd) S := rfl
@[simp] theorem exs_cons (s : Sx) (r : List Sx) : exSs cx (s :: r) σ S = (exS cx s σ S).bind (seqK cx r) := by
  simp only [exSs]
  congr 1
@[simp] theorem fin_rt (d : D) (S1 : Store) : finE S (.ok (.rt d) S1) = .ok d (gc S d S1) := rfl
@[simp] theorem fin_nx (S1 : Store) : finE S (.ok (.nx σ) S1) = .ok .non (gc S .non S1) := rfl
@[simp] theorem fin_xc (c : Nat) (dd : List D) (S1 : Store) : finE S (.ok (.xc σ c dd) S1) = .ex c dd (gcX S dd S1) := rfl
end
@[simp] theorem gc_same (S : Store) (d : D) : gc S d S = S := by unfold gc; split <;> rfl
@[simp] theorem gc_app (S T : Store) (d : D) : gc S d (S ++ T) = if noRef S.length d = true then S else S ++ T := by
  unfold gc
  simp
@[simp] theorem cxK_call (tb : Tb) (k : Nat) : (cxK tb k).call = runK tb k := rfl
@[simp] theorem cxK_mak (tb : Tb) (k : Nat) : (cxK tb k).mak = mkE (runJ tb k) tb.ini := rfl
@[simp] theorem cxK_sb (tb : Tb) (k : Nat) : (cxK tb k).sb = tb.sb := rfl
@[simp] theorem cxK_at (tb : Tb) (k : Nat) : (cxK tb k).at_ = tb.at_ := rfl
@[simp] theorem cxK_ic (tb : Tb) (k : Nat) : (cxK tb k).ic = tb.ic := rfl
@[simp] theorem cxK_rs (tb : Tb) (k : Nat) : (cxK tb k).rs = tb.rs := rfl
@[simp] theorem cxK_xi (tb : Tb) (k : Nat) : (cxK tb k).xi = tb.xi := rfl
@[simp] theorem cxK_xa (tb : Tb) (k : Nat) : (cxK tb k).xa = tb.xa := rfl
@[simp] theorem cxK_eq (tb : Tb) (k : Nat) : (cxK tb k).eq = tb.eq := rfl
@[simp] theorem cxK_cj (tb : Tb) (k : Nat) : (cxK tb k).cj = runJ tb k := rfl
@[simp] theorem runJ_s (tb : Tb) (k : Nat) : runJ tb (k + 1) = runK tb k := rfl
@[simp] theorem app_bk (cx : Cxt) (S : Store) (t : T) : app cx S .bk [t] = ofO S (bkE S t) := rfl
@[simp] theorem app_max (cx : Cxt) (S : Store) (i j : Int) : app cx S .max2 [.v (.int i), .v (.int j)] = .ok (.v (.int (if j > i then j else i))) S := rfl
@[simp] theorem app_min (cx : Cxt) (S : Store) (i j : Int) : app cx S .min2 [.v (.int i), .v (.int j)] = .ok (.v (.int (if j < i then j else i))) S := rfl
@[simp] theorem cxK_lv (tb : Tb) (k : Nat) : (cxK tb k).lv = decide (2 ≤ k) := rfl
theorem app_at {α : Type} {S : List α} {n : Nat} {o : α} (h : S[n]? = some o) (T : List α) : (S ++ T)[n]? = some o := by
  rw [List.getElem?_append_left (List.getElem?_eq_some_iff.mp h).1]
  exact h
theorem size_line : PySem.sizeLine = 16777216 := PySem.sizeLine_eq

@[simp] theorem kb_NoneType_int : L2.kitB "NoneType" "int" = some false := by decide +kernel
@[simp] theorem kb_NoneType_bool : L2.kitB "NoneType" "bool" = some false := by decide +kernel
@[simp] theorem kb_NoneType_str : L2.kitB "NoneType" "str" = some false := by decide +kernel
@[simp] theorem kb_NoneType_tuple : L2.kitB "NoneType" "tuple" = some false := by decide +kernel
@[simp] theorem kb_NoneType_list : L2.kitB "NoneType" "list" = some false := by decide +kernel
@[simp] theorem kb_NoneType_dict : L2.kitB "NoneType" "dict" = some false := by decide +kernel
@[simp] theorem kb_bool_int : L2.kitB "bool" "int" = some true := by decide +kernel
@[simp] theorem kb_bool_bool : L2.kitB "bool" "bool" = some true := by decide +kernel
@[simp] theorem kb_bool_str : L2.kitB "bool" "str" = some false := by decide +kernel
@[simp] theorem kb_bool_tuple : L2.kitB "bool" "tuple" = some false := by decide +kernel
@[simp] theorem kb_bool_list : L2.kitB "bool" "list" = some false := by decide +kernel
@[simp] theorem kb_bool_dict : L2.kitB "bool" "dict" = some false := by decide +kernel
@[simp] theorem kb_int_int : L2.kitB "int" "int" = some true := by decide +kernel
@[simp] theorem kb_int_bool : L2.kitB "int" "bool" = some false := by decide +kernel
@[simp] theorem kb_int_str : L2.kitB "int" "str" = some false := by decide +kernel
@[simp] theorem kb_int_tuple : L2.kitB "int" "tuple" = some false := by decide +kernel
@[simp] theorem kb_int_list : L2.kitB "int" "list" = some false := by decide +kernel
@[simp] theorem kb_int_dict : L2.kitB "int" "dict" = some false := by decide +kernel
@[simp] theorem kb_str_int : L2.kitB "str" "int" = some false := by decide +kernel
@[simp] theorem kb_str_bool : L2.kitB "str" "bool" = some false := by decide +kernel
@[simp] theorem kb_str_str : L2.kitB "str" "str" = some true := by decide +kernel
@[simp] theorem kb_str_tuple : L2.kitB "str" "tuple" = some false := by decide +kernel
@[simp] theorem kb_str_list : L2.kitB "str" "list" = some false := by decide +kernel
@[simp] theorem kb_str_dict : L2.kitB "str" "dict" = some false := by decide +kernel
@[simp] theorem kb_tuple_int : L2.kitB "tuple" "int" = some false := by decide +kernel
@[simp] theorem kb_tuple_bool : L2.kitB "tuple" "bool" = some false := by decide +kernel
@[simp] theorem kb_tuple_str : L2.kitB "tuple" "str" = some false := by decide +kernel
@[simp] theorem kb_tuple_tuple : L2.kitB "tuple" "tuple" = some true := by decide +kernel
@[simp] theorem kb_tuple_list : L2.kitB "tuple" "list" = some false := by decide +kernel
@[simp] theorem kb_tuple_dict : L2.kitB "tuple" "dict" = some false := by decide +kernel
@[simp] theorem kb_list_int : L2.kitB "list" "int" = some false := by decide +kernel
@[simp] theorem kb_list_bool : L2.kitB "list" "bool" = some false := by decide +kernel
@[simp] theorem kb_list_str : L2.kitB "list" "str" = some false := by decide +kernel
@[simp] theorem kb_list_tuple : L2.kitB "list" "tuple" = some false := by decide +kernel
@[simp] theorem kb_list_list : L2.kitB "list" "list" = some true := by decide +kernel
@[simp] theorem kb_list_dict : L2.kitB "list" "dict" = some false := by decide +kernel
@[simp] theorem kb_dict_int : L2.kitB "dict" "int" = some false := by decide +kernel
@[simp] theorem kb_dict_bool : L2.kitB "dict" "bool" = some false := by decide +kernel
@[simp] theorem kb_dict_str : L2.kitB "dict" "str" = some false := by decide +kernel
@[simp] theorem kb_dict_tuple : L2.kitB "dict" "tuple" = some false := by decide +kernel
@[simp] theorem kb_dict_list : L2.kitB "dict" "list" = some false := by decide +kernel
@[simp] theorem kb_dict_dict : L2.kitB "dict" "dict" = some true := by decide +kernel
/-- what a built-in type says of a value -/
@[simp] theorem ty_non (S : Store) : tyB S (.v .non) = some "NoneType" := rfl
@[simp] theorem ty_bl (S : Store) (b : Bool) : tyB S (.v (.bl b)) = some "bool" := rfl
@[simp] theorem ty_int (S : Store) (i : Int) : tyB S (.v (.int i)) = some "int" := rfl
@[simp] theorem ty_str (S : Store) (x : PySem.Str) : tyB S (.v (.str x)) = some "str" := rfl
@[simp] theorem ty_tup (S : Store) (x : List D) : tyB S (.v (.tup x)) = some "tuple" := rfl
@[simp] theorem isiB_non (cx : Cxt) (S : Store) (s : String) : app cx S (.isi (.b s)) [.v .non] = ofO S ((L2.kitB "NoneType" s).map fun c => .v (.bl c)) := rfl
@[simp] theorem isiB_bl (cx : Cxt) (S : Store) (s : String) (b : Bool) : app cx S (.isi (.b s)) [.v (.bl b)] = ofO S ((L2.kitB "bool" s).map fun c => .v (.bl c)) := rfl
@[simp] theorem isiB_int (cx : Cxt) (S : Store) (s : String) (i : Int) : app cx S (.isi (.b s)) [.v (.int i)] = ofO S ((L2.kitB "int" s).map fun c => .v (.bl c)) := rfl
@[simp] theorem isiB_str (cx : Cxt) (S : Store) (s : String) (x : PySem.Str) : app cx S (.isi (.b s)) [.v (.str x)] = ofO S ((L2.kitB "str" s).map fun c => .v (.bl c)) := rfl
@[simp] theorem isiB_tup (cx : Cxt) (S : Store) (s : String) (x : List D) : app cx S (.isi (.b s)) [.v (.tup x)] = ofO S ((L2.kitB "tuple" s).map fun c => .v (.bl c)) := rfl
end Ev
set_option Elab.async false
set_option linter.all false
set_option maxRecDepth 100000
set_option autoImplicit false
set_option maxHeartbeats 1000000
/-! Ev, part U: plain words about the interpreter: loops, comprehensions, equality of data. -/
namespace Ev
/-- a for that runs through -/
theorem frL_run {bnd : D → Env → Option Env} {body : Env → Store → R Fl} {gd : Store → Bool} (Pv : List D → Env → Store → Prop)
    (step : ∀ d ds σ S, Pv (d :: ds) σ S → gd S = true ∧ ∃ σ1 σ2 S2, bnd d σ = some σ1 ∧ (body σ1 S = .ok (.nx σ2) S2 ∨ body σ1 S = .ok (.ct σ2) S2) ∧ Pv ds σ2 S2) (last : ∀ σ S, Pv [] σ S → gd S = true) :
    ∀ (items : List D) (σ : Env) (S : Store), Pv items σ S → ∃ σ' S', frL bnd body gd items σ S = .ok (.nx σ') S' ∧ Pv [] σ' S'
  | [], σ, S, h => ⟨σ, S, by unfold frL; rw [if_pos (last σ S h)], h⟩
  | d :: ds, σ, S, h => by
    obtain ⟨hg, σ1, σ2, S2, h1, h2, h3⟩ := step d ds σ S h
    obtain ⟨σ', S', h4, h5⟩ := frL_run Pv step last ds σ2 S2 h3
    refine ⟨σ', S', ?_, h5⟩
    unfold frL
    rw [if_pos hg, h1]
    rcases h2 with h2 | h2 <;> (dsimp only; rw [h2]; exact h4)
/-- a comprehension whose parts change nothing -/
theorem lcL_map {bnd : D → Env → Option Env} {tst : Env → Store → R Bool} {el : Env → Store → R D} {gd : Store → Bool} {σ : Env} {S : Store} (p : D → Bool) (f : D → D) (hg : gd S = true) : ∀ (items : List D),
    (∀ d ∈ items, ∃ σ', bnd d σ = some σ' ∧ tst σ' S = .ok (p d) S ∧ (p d = true → el σ' S = .ok (f d) S)) → lcL bnd tst el gd σ items S = .ok ((items.filter p).map f) S
  | [], _ => by unfold lcL; rw [if_pos hg]; rfl
  | d :: ds, h => by
    obtain ⟨σ', h1, h2, h3⟩ := h d List.mem_cons_self
    have ih := lcL_map p f hg ds fun x hx => h x (List.mem_cons_of_mem _ hx)
    unfold lcL
    rw [if_pos hg, h1]
    dsimp only
    rw [h2, bind_ok']
    cases hp : p d with
    | true =>
      rw [if_pos rfl, h3 hp, bind_ok', ih, List.filter_cons_of_pos hp]
      rfl
    | false =>
      rw [if_neg Bool.false_ne_true, ih, List.filter_cons_of_neg (by simp [hp])]
theorem lcL_all {bnd : D → Env → Option Env} {tst : Env → Store → R Bool} {el : Env → Store → R D} {gd : Store → Bool} {σ : Env} {S : Store} (f : D → D) (hg : gd S = true) (items : List D)
    (h : ∀ d ∈ items, ∃ σ', bnd d σ = some σ' ∧ tst σ' S = .ok true S ∧ el σ' S = .ok (f d) S) : lcL bnd tst el gd σ items S = .ok (items.map f) S := by
  rw [lcL_map (fun _ => true) f hg items fun d hd => by
    obtain ⟨σ', h1, h2, h3⟩ := h d hd
    exact ⟨σ', h1, h2, fun _ => h3⟩]
  rw [List.filter_eq_self.mpr fun _ _ => rfl]
/-! ### equality of data -/
open PySem in
theorem eqE_self {S : Store} {a b : T} {p : PyData} (ha : toPy S a = some p) (hb : toPy S b = some p) (hs : SeqAt.shaped p = true) : eqE S a b = some true := by
  unfold eqE
  rw [ha, hb]
  dsimp only
  rw [if_pos ⟨hs, hs⟩, SeqAt.eqv_refl p (SeqAt.canLay_of_shaped hs)]
open PySem in
theorem eqE_int (S : Store) (i j : Int) : eqE S (.v (.int i)) (.v (.int j)) = some (decide (i = j)) := by
  have h : ∀ i : Int, SeqAt.shaped (.int i) = true := fun i => rfl
  show (if SeqAt.shaped (.int i) = true ∧ SeqAt.shaped (.int j) = true then some (PyData.eqv (.int i) (.int j)) else none) = _
  rw [if_pos ⟨h i, h j⟩]
  show some (i == j) = _
  by_cases e : i = j <;> simp [e]
open PySem in
theorem eqE_bl (S : Store) (i j : Bool) : eqE S (.v (.bl i)) (.v (.bl j)) = some (decide (i = j)) := by
  cases i <;> cases j <;> rfl
open PySem in
theorem strOk_of (s : String) : PyData.strOk (Str.ofString s) = true := by
  rw [Str.ofString_eq_toList]
  unfold PyData.strOk
  rw [Array.all_eq_true_iff_forall_mem]
  intro c hc
  have hc' : c ∈ s.toList.map Char.toNat := by simpa using hc
  obtain ⟨ch, _, rfl⟩ := List.mem_map.mp hc'
  have hv := ch.valid
  have e : ch.toNat = ch.val.toNat := rfl
  rw [decide_eq_true_eq, e]
  rcases hv with h | h
  · omega
  · omega
open PySem in
theorem eqE_str (S : Store) (x y : Str) (hx : PyData.strOk x = true) (hy : PyData.strOk y = true) : eqE S (.v (.str x)) (.v (.str y)) = some (decide (x = y)) := by
  have h : ∀ i : Str, PyData.strOk i = true → SeqAt.shaped (.str i) = true := fun i hi => by
    simp [SeqAt.shaped, PyData.canLay0, PyData.depth, hi]
  show (if SeqAt.shaped (.str x) = true ∧ SeqAt.shaped (.str y) = true then some (PyData.eqv (.str x) (.str y)) else none) = _
  rw [if_pos ⟨h x hx, h y hy⟩]
  show some (x == y) = _
  by_cases e : x = y <;> simp [e]
open PySem in
theorem py_bools (f : Nat → Option PyData) : ∀ L : List Bool, toPysW f (L.map D.bl) = some (L.map PyData.bool)
  | [] => rfl
  | b :: L => by
    show (some (PyData.bool b)).bind (fun p => (toPysW f (L.map D.bl)).map (p :: ·)) = _
    rw [py_bools f L]
    rfl
open PySem in
theorem shaped_bools (L : List Bool) : SeqAt.shaped (.list (L.map PyData.bool)) = true := by
  have h1 : ∀ L : List Bool, PyData.canLayAll0 (L.map PyData.bool) = true := by
    intro L
    induction L with
    | nil => simp [PyData.canLayAll0]
    | cons b L ih => simp [PyData.canLayAll0, PyData.canLay0, ih]
  have h2 : ∀ L : List Bool, PyData.depthAll (L.map PyData.bool) ≤ 1 := by
    intro L
    induction L with
    | nil => simp [PyData.depthAll]
    | cons b L ih =>
      simp only [List.map_cons, PyData.depthAll, PyData.depth]
      omega
  have h3 := h2 L
  have h4 : PyData.depth (.list (L.map PyData.bool)) ≤ 64 := by
    have e : PyData.depth (.list (L.map PyData.bool)) = PyData.depthAll (L.map PyData.bool) + 1 := by simp only [PyData.depth]
    omega
  unfold SeqAt.shaped
  rw [Bool.and_eq_true, decide_eq_true_eq]
  refine ⟨?_, h4⟩
  simp only [PyData.canLay0]
  exact h1 L
theorem toPy_bools {S : Store} {a : T} {L : List Bool} (h : lstR S a = some (L.map D.bl)) : toPy S a = some (.list (L.map PySem.PyData.bool)) := by
  cases a with
  | v d =>
    cases d with
    | ref n =>
      show (lstR S (.v (.ref n))).bind (fun ds => (toPysW (refPy 2 S) ds).map PySem.PyData.list) = _
      rw [h]
      show (toPysW _ (L.map D.bl)).map PySem.PyData.list = _
      rw [py_bools]
      rfl
    | _ => simp [lstR, objR] at h
  | t o =>
    cases o with
    | lst ds =>
      have e : ds = L.map D.bl := Option.some.inj h
      subst e
      show (toPysW _ (L.map D.bl)).map PySem.PyData.list = _
      rw [py_bools]
      rfl
    | _ => simp [lstR, objR] at h
theorem eq_bools {S : Store} {a b : T} {L : List Bool} (ha : lstR S a = some (L.map D.bl)) (hb : lstR S b = some (L.map D.bl)) : eqE S a b = some true := eqE_self (toPy_bools ha) (toPy_bools hb) (shaped_bools L)
end Ev
set_option Elab.async false
set_option linter.all false
set_option maxRecDepth 100000
set_option autoImplicit false
set_option maxHeartbeats 4000000
/-! Sp, part A: plain data: what == says of them. -/
namespace Ev
open PySem
mutual
/-- data without objects -/
def plD : D → Bool
  | .non => true | .bl _ => true | .int _ => true | .str x => PyData.strOk x | .tup ds => plDs ds | .ref _ => false | .fn _ => false | .cls _ => false
def plDs : List D → Bool
  | [] => true
  | d :: ds => plD d && plDs ds
end
mutual
def pyOf : D → PyData
  | .non => .none | .bl b => .bool b | .int i => .int i | .str x => .str x | .tup ds => .tuple (pysOf ds) | .ref _ => .none | .fn _ => .none | .cls _ => .none
def pysOf : List D → List PyData
  | [] => []
  | d :: ds => pyOf d :: pysOf ds
end
mutual
def dpD : D → Nat
  | .tup ds => dpDs ds + 1 | .non => 0 | .bl _ => 0 | .int _ => 0 | .str _ => 0 | .ref _ => 0 | .fn _ => 0 | .cls _ => 0
def dpDs : List D → Nat
  | [] => 0
  | d :: ds => max (dpD d) (dpDs ds)
end
mutual
theorem toPyW_pl (f : Nat → Option PyData) : ∀ d : D, plD d = true → toPyW f d = some (pyOf d)
  | .non, _ => by simp only [toPyW, pyOf]
  | .bl _, _ => by simp only [toPyW, pyOf]
  | .int _, _ => by simp only [toPyW, pyOf]
  | .str _, _ => by simp only [toPyW, pyOf]
  | .tup ds, h => by
    rw [plD] at h
    rw [toPyW, toPysW_pl f ds h, pyOf]
    rfl
  | .ref _, h => by rw [plD] at h; cases h
  | .fn _, h => by rw [plD] at h; cases h
  | .cls _, h => by rw [plD] at h; cases h
theorem toPysW_pl (f : Nat → Option PyData) : ∀ ds : List D, plDs ds = true → toPysW f ds = some (pysOf ds)
  | [], _ => by simp only [toPysW, pysOf]
  | d :: ds, h => by
    rw [plDs, Bool.and_eq_true] at h
    rw [toPysW, toPyW_pl f d h.1, toPysW_pl f ds h.2, pysOf]
    rfl
end
theorem toPy_pl {S : Store} {d : D} (h : plD d = true) : toPy S (.v d) = some (pyOf d) := by
  unfold toPy
  exact toPyW_pl _ d h
mutual
theorem lay_pl : ∀ d : D, plD d = true → PyData.canLay0 (pyOf d) = true
  | .non, _ => by simp only [pyOf, PyData.canLay0]
  | .bl _, _ => by simp only [pyOf, PyData.canLay0]
  | .int _, _ => by simp only [pyOf, PyData.canLay0]
  | .str x, h => by rw [plD] at h; simp only [pyOf, PyData.canLay0]; exact h
  | .tup ds, h => by
    rw [plD] at h
    simp only [pyOf, PyData.canLay0]
    exact lays_pl ds h
  | .ref _, h => by rw [plD] at h; cases h
  | .fn _, h => by rw [plD] at h; cases h
  | .cls _, h => by rw [plD] at h; cases h
theorem lays_pl : ∀ ds : List D, plDs ds = true → PyData.canLayAll0 (pysOf ds) = true
  | [], _ => by simp only [pysOf, PyData.canLayAll0]
  | d :: ds, h => by
    rw [plDs, Bool.and_eq_true] at h
    simp only [pysOf, PyData.canLayAll0]
    rw [lay_pl d h.1, lays_pl ds h.2]
    rfl
end
mutual
theorem dep_pl : ∀ d : D, PyData.depth (pyOf d) = dpD d
  | .non => by simp only [pyOf, PyData.depth, dpD]
  | .bl _ => by simp only [pyOf, PyData.depth, dpD]
  | .int _ => by simp only [pyOf, PyData.depth, dpD]
  | .str x => by simp only [pyOf, PyData.depth, dpD]
  | .tup ds => by
    simp only [pyOf, PyData.depth, dpD]
    rw [deps_pl ds]
  | .ref _ => by simp only [pyOf, PyData.depth, dpD]
  | .fn _ => by simp only [pyOf, PyData.depth, dpD]
  | .cls _ => by simp only [pyOf, PyData.depth, dpD]
theorem deps_pl : ∀ ds : List D, PyData.depthAll (pysOf ds) = dpDs ds
  | [] => by simp only [pysOf, PyData.depthAll, dpDs]
  | d :: ds => by
    simp only [pysOf, PyData.depthAll, dpDs]
    rw [dep_pl d, deps_pl ds]
end
theorem shaped_pl {d : D} (h : plD d = true) (hd : dpD d ≤ 64) : SeqAt.shaped (pyOf d) = true := by
  unfold SeqAt.shaped
  rw [Bool.and_eq_true, decide_eq_true_eq, dep_pl]
  exact ⟨lay_pl d h, hd⟩
theorem shapedL_pl {ds : List D} (h : plDs ds = true) (hd : dpDs ds ≤ 63) : SeqAt.shaped (.list (pysOf ds)) = true := by
  unfold SeqAt.shaped
  rw [Bool.and_eq_true, decide_eq_true_eq]
  simp only [PyData.canLay0, PyData.depth, deps_pl]
  exact ⟨lays_pl ds h, by omega⟩
/-- == of plain data -/
def eqP (a b : D) : Bool := PyData.eqv (pyOf a) (pyOf b)
def eqPs : List D → List D → Bool
  | [], [] => true
  | x :: xs, y :: ys => eqP x y && eqPs xs ys
  | _, _ => false
theorem eqPs_py : ∀ xs ys : List D, PyData.eqvAll (pysOf xs) (pysOf ys) = eqPs xs ys
  | [], [] => by simp only [pysOf, PyData.eqvAll, eqPs]
  | [], _ :: _ => by simp only [pysOf, PyData.eqvAll, eqPs]
  | _ :: _, [] => by simp only [pysOf, PyData.eqvAll, eqPs]
  | x :: xs, y :: ys => by
    simp only [pysOf, PyData.eqvAll, eqPs]
    rw [eqPs_py xs ys]
    rfl
theorem eqP_tup (xs ys : List D) : eqP (.tup xs) (.tup ys) = eqPs xs ys := by
  unfold eqP
  simp only [pyOf, PyData.eqv]
  exact eqPs_py xs ys
theorem eqP_self {d : D} (h : plD d = true) : eqP d d = true := SeqAt.eqv_refl _ (lay_pl d h)
theorem eqPs_len : ∀ {xs ys : List D}, eqPs xs ys = true → xs.length = ys.length
  | [], [], _ => rfl
  | [], _ :: _, h => by cases h
  | _ :: _, [], h => by cases h
  | x :: xs, y :: ys, h => by
    rw [eqPs, Bool.and_eq_true] at h
    simp [eqPs_len h.2]
theorem eqE_pl {S : Store} {a b : D} (ha : plD a = true) (hb : plD b = true) (da : dpD a ≤ 64) (db : dpD b ≤ 64) : eqE S (.v a) (.v b) = some (eqP a b) := by
  unfold eqE
  rw [toPy_pl ha, toPy_pl hb]
  dsimp only
  rw [if_pos ⟨shaped_pl ha da, shaped_pl hb db⟩]
  rfl
mutual
/-- no True, False within (k), no ints within (not k) -/
def okK (k : Bool) : D → Bool
  | .bl _ => !k | .int _ => k | .tup ds => okKs k ds | _ => true
def okKs (k : Bool) : List D → Bool
  | [] => true
  | d :: ds => okK k d && okKs k ds
end
mutual
theorem eqP_eq (k : Bool) : ∀ a b : D, plD a = true → plD b = true → okK k a = true → okK k b = true → (eqP a b = true ↔ a = b)
  | .tup xs, b, ha, hb, ka, kb => by
    cases b with
    | tup ys =>
      rw [plD] at ha hb
      rw [okK] at ka kb
      rw [eqP_tup, eqPs_eq k xs ys ha hb ka kb]
      constructor
      · intro h; rw [h]
      · intro h; injection h
    | ref _ => rw [plD] at hb; cases hb
    | fn _ => rw [plD] at hb; cases hb
    | cls _ => rw [plD] at hb; cases hb
    | _ => simp [eqP, pyOf, PyData.eqv]
  | .non, b, ha, hb, ka, kb => by
    cases b <;> first | (rw [plD] at hb; cases hb; done) | simp [eqP, pyOf, PyData.eqv]
  | .str x, b, ha, hb, ka, kb => by
    cases b <;> first | (rw [plD] at hb; cases hb; done) | simp [eqP, pyOf, PyData.eqv]
  | .int x, b, ha, hb, ka, kb => by
    cases b <;> first | (rw [plD] at hb; cases hb; done) | (simp [okK] at ka kb; simp_all; done) | simp [eqP, pyOf, PyData.eqv]
  | .bl x, b, ha, hb, ka, kb => by
    cases b <;> first | (rw [plD] at hb; cases hb; done) | (simp [okK] at ka kb; simp_all; done) | simp [eqP, pyOf, PyData.eqv]
  | .ref _, b, ha, hb, ka, kb => by rw [plD] at ha; cases ha
  | .fn _, b, ha, hb, ka, kb => by rw [plD] at ha; cases ha
  | .cls _, b, ha, hb, ka, kb => by rw [plD] at ha; cases ha
theorem eqPs_eq (k : Bool) : ∀ a b : List D, plDs a = true → plDs b = true → okKs k a = true → okKs k b = true → (eqPs a b = true ↔ a = b)
  | [], [], _, _, _, _ => by simp [eqPs]
  | [], _ :: _, _, _, _, _ => by simp [eqPs]
  | _ :: _, [], _, _, _, _ => by simp [eqPs]
  | x :: xs, y :: ys, ha, hb, ka, kb => by
    rw [plDs, Bool.and_eq_true] at ha hb
    rw [okKs, Bool.and_eq_true] at ka kb
    rw [eqPs, Bool.and_eq_true, eqP_eq k x y ha.1 hb.1 ka.1 kb.1, eqPs_eq k xs ys ha.2 hb.2 ka.2 kb.2]
    simp
end
theorem eqP_dec (k : Bool) {a b : D} (ha : plD a = true) (hb : plD b = true) (ka : okK k a = true) (kb : okK k b = true) : eqP a b = decide (a = b) := by
  rw [Bool.eq_iff_iff, eqP_eq k a b ha hb ka kb, decide_eq_true_eq]
/-! rows of ints, of bools, of rows of ints -/
theorem pl_ints : ∀ xs : List Int, plDs (xs.map D.int) = true
  | [] => by simp [plDs]
  | x :: xs => by rw [List.map_cons, plDs, pl_ints xs]; simp [plD]
theorem dp_ints : ∀ xs : List Int, dpDs (xs.map D.int) = 0
  | [] => by simp [dpDs]
  | x :: xs => by rw [List.map_cons, dpDs, dp_ints xs]; simp [dpD]
theorem ok_ints : ∀ xs : List Int, okKs true (xs.map D.int) = true
  | [] => by simp [okKs]
  | x :: xs => by rw [List.map_cons, okKs, ok_ints xs]; simp [okK]
theorem pl_bls : ∀ xs : List Bool, plDs (xs.map D.bl) = true
  | [] => by simp [plDs]
  | x :: xs => by rw [List.map_cons, plDs, pl_bls xs]; simp [plD]
theorem dp_bls : ∀ xs : List Bool, dpDs (xs.map D.bl) = 0
  | [] => by simp [dpDs]
  | x :: xs => by rw [List.map_cons, dpDs, dp_bls xs]; simp [dpD]
theorem ok_bls : ∀ xs : List Bool, okKs false (xs.map D.bl) = true
  | [] => by simp [okKs]
  | x :: xs => by rw [List.map_cons, okKs, ok_bls xs]; simp [okK]
theorem pl_tupI (xs : List Int) : plD (tupI xs) = true := by rw [tupI, plD]; exact pl_ints xs
theorem dp_tupI (xs : List Int) : dpD (tupI xs) = 1 := by rw [tupI, dpD, dp_ints]
theorem ok_tupI (xs : List Int) : okK true (tupI xs) = true := by rw [tupI, okK]; exact ok_ints xs
theorem pl_tups : ∀ xs : List (List Int), plDs (xs.map tupI) = true
  | [] => by simp [plDs]
  | x :: xs => by rw [List.map_cons, plDs, pl_tups xs, pl_tupI]; rfl
theorem dp_tups : ∀ xs : List (List Int), dpDs (xs.map tupI) ≤ 1
  | [] => by simp [dpDs]
  | x :: xs => by
    have := dp_tups xs
    rw [List.map_cons, dpDs, dp_tupI]
    omega
theorem ok_tups : ∀ xs : List (List Int), okKs true (xs.map tupI) = true
  | [] => by simp [okKs]
  | x :: xs => by rw [List.map_cons, okKs, ok_tups xs, ok_tupI]; rfl
theorem map_int_inj : ∀ {xs ys : List Int}, xs.map D.int = ys.map D.int → xs = ys
  | [], [], _ => rfl
  | [], _ :: _, h => by cases h
  | _ :: _, [], h => by cases h
  | x :: xs, y :: ys, h => by
    rw [List.map_cons, List.map_cons] at h
    injection h with h1 h2
    injection h1 with h1
    rw [h1, map_int_inj h2]
theorem tupI_inj {xs ys : List Int} (h : tupI xs = tupI ys) : xs = ys := by
  unfold tupI at h
  injection h with h
  exact map_int_inj h
theorem eqE_tupI (S : Store) (xs ys : List Int) : eqE S (.v (tupI xs)) (.v (tupI ys)) = some (decide (xs = ys)) := by
  rw [eqE_pl (pl_tupI xs) (pl_tupI ys) (by rw [dp_tupI]; omega) (by rw [dp_tupI]; omega), eqP_dec true (pl_tupI xs) (pl_tupI ys) (ok_tupI xs) (ok_tupI ys)]
  congr 1
  rw [Bool.eq_iff_iff, decide_eq_true_eq, decide_eq_true_eq]
  exact ⟨tupI_inj, fun h => by rw [h]⟩
/-- x in a list of plain data -/
theorem memE_lst {S : Store} {x : D} {t : T} {ds : List D} (hx : plD x = true) (dx : dpD x ≤ 64) (ht : lstR S t = some ds) (hd : plDs ds = true) (dd : dpDs ds ≤ 63) : memE S (.v x) t = some (ds.any fun z => eqP z x) := by
  have e : toPy S t = some (.list (pysOf ds)) := by
    cases t with
    | v d =>
      cases d with
      | ref n =>
        show (lstR S (.v (.ref n))).bind (fun ds => (toPysW (refPy 2 S) ds).map PyData.list) = _
        rw [ht]
        show (toPysW _ ds).map PyData.list = _
        rw [toPysW_pl _ ds hd]
        rfl
      | _ => simp [lstR, objR] at ht
    | t o =>
      cases o with
      | lst ds' =>
        have e : ds' = ds := Option.some.inj ht
        subst e
        show (toPysW _ ds').map PyData.list = _
        rw [toPysW_pl _ ds' hd]
        rfl
      | _ => simp [lstR, objR] at ht
  have eo : objR S t = some (.lst ds) := by
    unfold lstR at ht
    split at ht
    · rename_i ds' h
      cases ht
      exact h
    · cases ht
  have ea : ∀ zs : List D, ((pysOf zs).any fun z => PyData.eqv z (pyOf x)) = zs.any fun z => eqP z x := by
    intro zs
    induction zs with
    | nil => rfl
    | cons z zs ih => rw [pysOf, List.any_cons, List.any_cons, ih]; rfl
  have main : (match toPy S (.v x), toPy S t with
      | some p, some (.list qs) => if SeqAt.shaped p ∧ SeqAt.shaped (.list qs) then some (qs.any fun z => PyData.eqv z p) else none
      | _, _ => if isDct S (.v x) && allTup S t then some false else none) = some (ds.any fun z => eqP z x) := by
    rw [toPy_pl hx, e]
    dsimp only
    rw [if_pos ⟨shaped_pl hx dx, shapedL_pl hd dd⟩, ea]
  cases t with
  | v d =>
    cases d with
    | ref n =>
      unfold memE
      simp only [eo]
      exact main
    | _ => simp [lstR, objR] at ht
  | t o =>
    unfold memE
    simp only [eo]
    exact main
theorem bi_sorted {S : Store} {t : T} {ds : List D} (h : lstR S t = some ds) : biE S .sorted t = (sortD ds).map fun rs => .t (.lst rs) := by
  unfold biE
  simp only [h]
end Ev
set_option Elab.async false
set_option linter.all false
set_option maxRecDepth 100000
set_option autoImplicit false
set_option maxHeartbeats 4000000

/-! Sp, part B: the small functions that many laws share, each once: what it gives. -/
namespace Ev
open PySem
/-- one call -/
theorem run_of {tb : Tb} {f : Nat} {fd : Fd} (h : tb.fs[f]? = some fd) (k : Nat) (ds : List D) (S : Store) (hl : ds.length = fd.ps) :
    runK tb (k + 1) f ds S = finE S (exSs (cxK tb k) fd.body (ds.map some ++ List.replicate (fd.ns - ds.length) none) S) := by
  rw [runK_succ]
  unfold stepK
  rw [h]
  dsimp only
  rw [if_pos hl]
  rfl
/-- its built-in type is known -/
def knw (S : Store) : D → Prop
  | .ref n => tyB S (.v (.ref n)) = some "list" ∨ tyB S (.v (.ref n)) = some "dict"
  | .fn _ => False | .cls _ => False | _ => True
/-- so of a tuple's items, too -/
def knT (S : Store) (d : D) : Prop := knw S d ∧ ∀ ds, d = .tup ds → ds.length ≤ 1000000 ∧ ∀ x ∈ ds, knw S x
def knTT (S : Store) (d : D) : Prop := knw S d ∧ ∀ ds, d = .tup ds → ds.length ≤ 1000001 ∧ ∀ x ∈ ds, knT S x
@[simp] theorem B64_2 : B64 2 = true := by decide
@[simp] theorem truth_bl (S : Store) (b : Bool) : truth S (.v (.bl b)) = some b := rfl
@[simp] theorem truth_int (S : Store) (i : Int) : truth S (.v (.int i)) = some (i != 0) := rfl
@[simp] theorem truth_tup (S : Store) (ds : List D) : truth S (.v (.tup ds)) = some (!ds.isEmpty) := rfl
@[simp] theorem truth_non (S : Store) : truth S (.v .non) = some false := rfl
/-! is_whole, is_below, are_below, are_flags -/
def isInt : D → Bool | .int _ => true | _ => false
def isBl : D → Bool | .bl _ => true | _ => false
def wholeF : Fd := ⟨1, 1, [.ret (.and (.nd (.isi (.b "int")) [(.var 0)]) (.not (.nd (.isi (.b "bool")) [(.var 0)])))]⟩
section
variable {tb : Tb} {i i1 i2 i3 : Nat}
theorem isiB_ref {cx : Cxt} {S : Store} {n : Nat} {u s : String} {c : Bool} (h : tyB S (.v (.ref n)) = some u) (hk : L2.kitB u s = some c) : app cx S (.isi (.b s)) [.v (.ref n)] = .ok (.v (.bl c)) S := isiB_of cx S h hk
theorem wholeS (h : tb.fs[i]? = some wholeF) (k : Nat) (d : D) (S : Store) (hk : knw S d) : runK tb (k + 1) i [d] S = .ok (.bl (isInt d)) S := by
  rw [run_of h k _ _ rfl]
  cases d with
  | ref n =>
    rcases hk with hk | hk
    · have e := fun c => isiB_ref (cx := cxK tb k) (s := "int") (c := c) hk
      simp [wholeF, isInt, e false (by simp)]
    · have e := fun c => isiB_ref (cx := cxK tb k) (s := "int") (c := c) hk
      simp [wholeF, isInt, e false (by simp)]
  | fn _ => exact hk.elim
  | cls _ => exact hk.elim
  | _ => simp [wholeF, isInt]
def belowF (i1 : Nat) : Fd := ⟨2, 2, [.ret (.and (.na (.call i1) [(.var 0)]) (.ch .le .lt (.cst (.int 0)) (.var 0) (.var 1)))]⟩
def belowB (b : Int) : D → Bool
  | .int i => decide (0 ≤ i) && decide (i < b)
  | _ => false
theorem belowS (h1 : tb.fs[i1]? = some wholeF) (h : tb.fs[i]? = some (belowF i1)) (k : Nat) (d : D) (b : Int) (S : Store) (hk : knw S d) : runK tb (k + 2) i [d, .int b] S = .ok (.bl (belowB b d)) S := by
  rw [run_of h (k + 1) _ _ rfl]
  have e := wholeS h1 k d S hk
  cases d with
  | int z =>
    simp [belowF, e, isInt, cmpE, cmpI, ltD, belowB]
    by_cases h0 : 0 ≤ z <;> simp [h0]
  | _ => simp [belowF, e, isInt, belowB]
def areBelowF (i2 : Nat) : Fd := ⟨2, 3, [.ret (.and (.nd (.isi (.b "tuple")) [(.var 0)]) (.nd (.bi .all) [(.lc (.var 2) .seq [(.var 0)] [] (.na (.call i2) [(.var 2), (.var 1)]) [2])]))]⟩
def areBelow (b : Int) : D → Bool
  | .tup ds => ds.all (belowB b)
  | _ => false
theorem blsOf_map (f : D → Bool) : ∀ ds : List D, blsOf (ds.map fun d => D.bl (f d)) = some (ds.map f)
  | [] => rfl
  | d :: ds => by
    show (blsOf (ds.map fun d => D.bl (f d))).map (f d :: ·) = _
    rw [blsOf_map f ds]
    rfl
theorem blsOf_bls : ∀ bs : List Bool, blsOf (bs.map D.bl) = some bs
  | [] => rfl
  | b :: bs => by
    show (blsOf (bs.map D.bl)).map (b :: ·) = _
    rw [blsOf_bls bs]
    rfl
theorem all_id (f : D → Bool) (ds : List D) : (ds.map f).all id = ds.all f := by
  rw [List.all_map]
  rfl
theorem bi_all {S : Store} {bs : List Bool} {ds : List D} (h : ds = bs.map D.bl) : biE S .all (.t (.lst ds)) = some (.v (.bl (bs.all id))) := by
  subst h
  show (some (bs.map D.bl)).bind (fun ds => (blsOf ds).map fun bs => T.v (.bl (bs.all id))) = _
  rw [Option.bind_some, blsOf_bls]
  rfl
theorem bi_any {S : Store} {bs : List Bool} {ds : List D} (h : ds = bs.map D.bl) : biE S .any (.t (.lst ds)) = some (.v (.bl (bs.any id))) := by
  subst h
  show (some (bs.map D.bl)).bind (fun ds => (blsOf ds).map fun bs => T.v (.bl (bs.any id))) = _
  rw [Option.bind_some, blsOf_bls]
  rfl
@[simp] theorem iter_tup (S : Store) (ds : List D) : iterOf S .seq [.v (.tup ds)] = some (ds, fun _ => true) := rfl
@[simp] theorem iter_t (S : Store) (ds : List D) : iterOf S .seq [.t (.lst ds)] = some (ds, fun _ => true) := rfl
theorem tyB_known {S : Store} {n : Nat} (h : knw S (.ref n)) : tyB S (.v (.ref n)) = some "list" ∨ tyB S (.v (.ref n)) = some "dict" := h
/-- isinstance(thing, tuple) -/
def isTp : D → Bool | .tup _ => true | _ => false
theorem isiTup {cx : Cxt} {S : Store} {d : D} (h : knw S d) : app cx S (.isi (.b "tuple")) [.v d] = .ok (.v (.bl (isTp d))) S := by
  cases d with
  | ref n =>
    rcases h with h | h
    · exact isiB_ref h (by simp [isTp, isBl])
    · exact isiB_ref h (by simp [isTp, isBl])
  | fn _ => exact h.elim
  | cls _ => exact h.elim
  | _ => simp [isTp]
theorem isiBl {cx : Cxt} {S : Store} {d : D} (h : knw S d) : app cx S (.isi (.b "bool")) [.v d] = .ok (.v (.bl (isBl d))) S := by
  cases d with
  | ref n =>
    rcases h with h | h
    · exact isiB_ref h (by simp [isTp, isBl])
    · exact isiB_ref h (by simp [isTp, isBl])
  | fn _ => exact h.elim
  | cls _ => exact h.elim
  | _ => simp [isBl]
theorem areBelowS (h1 : tb.fs[i1]? = some wholeF) (h2 : tb.fs[i2]? = some (belowF i1)) (h : tb.fs[i]? = some (areBelowF i2)) (k : Nat) (d : D) (b : Int) (S : Store) (hk : knT S d) : runK tb (k + 3) i [d, .int b] S = .ok (.bl (areBelow b d)) S := by
  rw [run_of h (k + 2) _ _ rfl]
  have e1 := isiTup (cx := cxK tb (k + 2)) hk.1
  cases d with
  | tup ds =>
    have hx := (hk.2 ds rfl).2
    have e2 : lcL (bindT (.var 2)) (dent (cxK tb (k + 2)) []) (elF (cxK tb (k + 2)) (.na (.call i2) [(.var 2), (.var 1)])) (fun _ => true) (wipeE [some (.tup ds), some (.int b), none] [2]) ds S = .ok (ds.map fun d => D.bl (belowB b d)) S :=
      lcL_all (fun d => D.bl (belowB b d)) rfl ds fun d hd => ⟨_, rfl, rfl, by simp [wipeE, belowS h1 h2 k d b S (hx d hd)]⟩
    have e3 := bi_all (S := S) (ds := ds.map fun d => D.bl (belowB b d)) (bs := ds.map (belowB b)) (by rw [List.map_map]; rfl)
    simp [areBelowF, isTp, e2, e3, areBelow, Function.comp_def]
  | _ => simp [areBelowF, e1, isTp, areBelow]
def areFlagsF : Fd := ⟨1, 2, [.ret (.and (.nd (.isi (.b "tuple")) [(.var 0)]) (.nd (.bi .all) [(.lc (.var 1) .seq [(.var 0)] [] (.nd (.isi (.b "bool")) [(.var 1)]) [1])]))]⟩
def areFlags : D → Bool
  | .tup ds => ds.all isBl
  | _ => false
theorem areFlagsS (h : tb.fs[i]? = some areFlagsF) (k : Nat) (d : D) (S : Store) (hk : knT S d) : runK tb (k + 1) i [d] S = .ok (.bl (areFlags d)) S := by
  rw [run_of h k _ _ rfl]
  have e1 := isiTup (cx := cxK tb k) hk.1
  cases d with
  | tup ds =>
    have hx := (hk.2 ds rfl).2
    have e2 : lcL (bindT (.var 1)) (dent (cxK tb k) []) (elF (cxK tb k) (.nd (.isi (.b "bool")) [(.var 1)])) (fun _ => true) (wipeE [some (.tup ds), none] [1]) ds S = .ok (ds.map fun d => D.bl (isBl d)) S :=
      lcL_all (fun d => D.bl (isBl d)) rfl ds fun d hd => ⟨_, rfl, rfl, by simp [wipeE, isiBl (hx d hd)]⟩
    have e3 := bi_all (S := S) (ds := ds.map fun d => D.bl (isBl d)) (bs := ds.map isBl) (by rw [List.map_map]; rfl)
    simp [areFlagsF, isTp, e2, e3, areFlags, Function.comp_def]
  | _ => simp [areFlagsF, e1, isTp, areFlags]
/-! is_ascending -/
def ascF : Fd := ⟨1, 2, [.ret (.nd (.bi .all) [(.lc (.var 1) .rng [(.cst (.int 1)), (.nd (.bi .len) [(.var 0)])] [] (.nd (.cmp .lt) [(.nd .idx [(.var 0), (.nd (.op .sub) [(.var 1), (.cst (.int 1))])]), (.nd .idx [(.var 0), (.var 1)])]) [1])])]⟩
/-- each smaller than the next -/
def asc {α : Type} (lt : α → α → Bool) : List α → Bool
  | a :: b :: r => lt a b && asc lt (b :: r)
  | _ => true
def ltAt {α : Type} (lt : α → α → Bool) (xs : List α) (j : Nat) : Bool := match xs[j]?, xs[j + 1]? with
  | some a, some b => lt a b
  | _, _ => true
theorem ltAt_of {α : Type} {lt : α → α → Bool} {xs : List α} {j : Nat} {a b : α} (h1 : xs[j]? = some a) (h2 : xs[j + 1]? = some b) : ltAt lt xs j = lt a b := by
  unfold ltAt
  rw [h1, h2]
theorem asc_at {α : Type} (lt : α → α → Bool) : ∀ xs : List α, asc lt xs = (List.range (xs.length - 1)).all (ltAt lt xs)
  | [] => rfl
  | [a] => rfl
  | a :: b :: r => by
    have ih := asc_at lt (b :: r)
    rw [asc, ih]
    have e : (a :: b :: r).length - 1 = ((b :: r).length - 1) + 1 := by simp
    rw [e, List.range_succ_eq_map, List.all_cons, List.all_map]
    rfl
theorem iter_rng1 (S : Store) (j : Int) : iterOf S .rng [.v (.int j)] = if -(2 ^ 62) ≤ j ∧ j ≤ 16777216 then some ((List.range j.toNat).map fun (i : Nat) => D.int (0 + (i : Int)), fun _ => true) else none := rfl
theorem iter_rng2 (S : Store) (i j : Int) : iterOf S .rng [.v (.int i), .v (.int j)] = if -(2 ^ 62) ≤ i ∧ i < 2 ^ 62 ∧ -(2 ^ 62) ≤ j ∧ j < 2 ^ 62 ∧ j - i ≤ 16777216 then some ((List.range (j - i).toNat).map fun (m : Nat) => D.int (i + (m : Int)), fun _ => true) else none := rfl
theorem iter_len1 (S : Store) (n : Nat) (h : n ≤ 16777216) : iterOf S .rng [.v (.int n)] = some ((List.range n).map fun (m : Nat) => D.int (m : Int), fun _ => true) := by
  rw [iter_rng1, if_pos (by omega)]
  have e : (n : Int).toNat = n := by omega
  rw [e]
  simp only [Int.zero_add]
theorem iter_from1 (S : Store) (n : Nat) (h : n ≤ 16777216) : iterOf S .rng [.v (.int 1), .v (.int n)] = some ((List.range (n - 1)).map fun (m : Nat) => D.int (1 + (m : Int)), fun _ => true) := by
  rw [iter_rng2, if_pos (by omega)]
  have e : ((n : Int) - 1).toNat = n - 1 := by omega
  rw [e]
theorem atI_nat {α : Type} (xs : List α) (j : Nat) (h : j < xs.length) : L2.atI xs (j : Int) = xs[j]? := by
  unfold L2.atI L2.ixN
  rw [if_pos (by omega), if_pos (by omega)]
  rfl
theorem atI_get {α : Type} (xs : List α) (j : Nat) (h : j < xs.length) : L2.atI xs (j : Int) = some xs[j] := by
  rw [atI_nat xs j h]
  exact List.getElem?_eq_getElem h
def ascEl : Ex := .nd (.cmp .lt) [(.nd .idx [(.var 0), (.nd (.op .sub) [(.var 1), (.cst (.int 1))])]), (.nd .idx [(.var 0), (.var 1)])]
def ascV (lt : D → D → Bool) (ds : List D) : D → Bool
  | .int z => ltAt lt ds (z - 1).toNat
  | _ => true
theorem asc_lc (cx : Cxt) (ds : List D) (S : Store) (lt : D → D → Bool) (hlt : ∀ a b, a ∈ ds → b ∈ ds → ltD a b = some (lt a b)) :
    lcL (bindT (.var 1)) (dent cx []) (elF cx ascEl) (fun _ => true) [some (.tup ds), none] ((List.range (ds.length - 1)).map fun (m : Nat) => D.int (1 + (m : Int))) S = .ok ((((List.range (ds.length - 1)).map fun (m : Nat) => D.int (1 + (m : Int))).map (ascV lt ds)).map D.bl) S := by
  rw [List.map_map]
  refine lcL_all (fun d => .bl (ascV lt ds d)) rfl _ fun d hd => ?_
  obtain ⟨m, hm, rfl⟩ := List.mem_map.mp hd
  have hm := List.mem_range.mp hm
  have h1 : m < ds.length := by omega
  have h2 : m + 1 < ds.length := by omega
  have a1 := atI_get ds m h1
  have a2 : L2.atI ds (1 + (m : Int)) = some ds[m + 1] := by
    have e : 1 + (m : Int) = ((m + 1 : Nat) : Int) := by omega
    rw [e, atI_get ds (m + 1) h2]
  have e1 : (1 + (m : Int) - 1) = (m : Int) := by omega
  have g1 : (1 + (m : Int) - 1).toNat = m := by omega
  have hb := hlt ds[m] ds[m + 1] (List.getElem_mem h1) (List.getElem_mem h2)
  have hq : ascV lt ds (.int (1 + (m : Int))) = lt ds[m] ds[m + 1] := by
    rw [ascV, g1]
    exact ltAt_of (List.getElem?_eq_getElem h1) (List.getElem?_eq_getElem h2)
  refine ⟨_, rfl, rfl, ?_⟩
  rw [hq]
  simp [ascEl, opE, opI, e1, idxE, seqR, a1, a2, cmpE, hb]
theorem asc_all (lt : D → D → Bool) (ds : List D) : (((List.range (ds.length - 1)).map fun (m : Nat) => D.int (1 + (m : Int))).map (ascV lt ds)).all id = asc lt ds := by
  rw [asc_at, List.map_map, List.all_map]
  congr 1
  funext m
  have g1 : (1 + (m : Int) - 1).toNat = m := by omega
  show ascV lt ds (.int (1 + (m : Int))) = _
  rw [ascV, g1]
theorem dens_1 {cx : Cxt} {e : Ex} {σ : Env} {S S' : Store} {t : T} (h : (den cx e).e σ S = .ok t S') : dens cx [e] σ S = .ok [t] S' := by
  simp [h]
theorem nd_1 {cx : Cxt} {k : Kd} {e : Ex} {σ : Env} {S S' : Store} {t : T} (h : (den cx e).e σ S = .ok t S') : (den cx (.nd k [e])).e σ S = app cx S' k [t] := by
  rw [den_nd, dens_1 h, bind_ok', kNd_ap]
theorem ret_1 {cx : Cxt} {e : Ex} {σ : Env} {S S' : Store} {d : D} (h : (den cx e).e σ S = .ok (.v d) S') : exSs cx [.ret e] σ S = .ok (.rt d) S' := by
  rw [exs_cons, ex_ret, h]
  rfl
theorem asc_den (cx : Cxt) (ds : List D) (S : Store) (hl : ds.length ≤ 16777216) (lt : D → D → Bool) (hlt : ∀ a b, a ∈ ds → b ∈ ds → ltD a b = some (lt a b)) :
    (den cx (.lc (.var 1) .rng [(.cst (.int 1)), (.nd (.bi .len) [(.var 0)])] [] ascEl [1])).e [some (.tup ds), none] S = .ok (.t (.lst ((((List.range (ds.length - 1)).map fun (m : Nat) => D.int (1 + (m : Int))).map (ascV lt ds)).map D.bl))) S := by
  have e2 := asc_lc cx ds S lt hlt
  have e5 := iter_from1 S ds.length hl
  have e6 : biE S .len (.v (.tup ds)) = some (.v (.int ds.length)) := rfl
  rw [den_lc]
  have e7 : dens cx [(.cst (.int 1)), (.nd (.bi .len) [(.var 0)])] [some (.tup ds), none] S = .ok [.v (.int 1), .v (.int ds.length)] S := by simp [e6]
  rw [e7, bind_ok', lcK_ap, e5, lcO_some, show wipeE [some (D.tup ds), none] [1] = [some (D.tup ds), none] from rfl, e2]
  rfl
theorem ascS (h : tb.fs[i]? = some ascF) (k : Nat) (ds : List D) (S : Store) (hl : ds.length ≤ 16777216) (lt : D → D → Bool) (hlt : ∀ a b, a ∈ ds → b ∈ ds → ltD a b = some (lt a b)) :
    runK tb (k + 1) i [.tup ds] S = .ok (.bl (asc lt ds)) S := by
  rw [run_of h k _ _ rfl]
  have e3 := bi_all (S := S) (bs := ((List.range (ds.length - 1)).map fun (m : Nat) => D.int (1 + (m : Int))).map (ascV lt ds)) rfl
  rw [asc_all] at e3
  have e8 : (den (cxK tb k) (.nd (.bi .all) [(.lc (.var 1) .rng [(.cst (.int 1)), (.nd (.bi .len) [(.var 0)])] [] ascEl [1])])).e [some (.tup ds), none] S = .ok (.v (.bl (asc lt ds))) S := by
    rw [nd_1 (asc_den (cxK tb k) ds S hl lt hlt), app_bi, e3]
    rfl
  have e9 := ret_1 e8
  show finE S (exSs (cxK tb k) [.ret (.nd (.bi .all) [(.lc (.var 1) .rng [(.cst (.int 1)), (.nd (.bi .len) [(.var 0)])] [] ascEl [1])])] [some (.tup ds), none] S) = _
  rw [e9, fin_rt, gc_same]
/-! comprehensions within all, any -/
theorem lc_gen {cx : Cxt} {σ σ' : Env} {S : Store} {v : Nat} {ik : Ik} {ia : List Ex} {el : Ex} {own : List Nat} {ts : List T} {ds : List D} {g : Store → Bool} (f : D → D) (hi : dens cx ia σ S = .ok ts S) (ht : iterOf S ik ts = some (ds, g)) (hg : g S = true)
    (hw : wipeE σ own = σ') (hv : v < σ'.length) (he : ∀ d ∈ ds, ((den cx el).e (σ'.set v (some d)) S).alloc = .ok (f d) S) : (den cx (.lc (.var v) ik ia [] el own)).e σ S = .ok (.t (.lst (ds.map f))) S := by
  have e2 : lcL (bindT (.var v)) (dent cx []) (elF cx el) g σ' ds S = .ok (ds.map f) S := by
    refine lcL_all f hg ds fun d hd => ⟨σ'.set v (some d), ?_, rfl, he d hd⟩
    show (if v < σ'.length then some (σ'.set v (some d)) else none) = _
    rw [if_pos hv]
  rw [den_lc, hi, bind_ok', lcK_ap, ht, lcO_some, hw, e2]
  rfl
theorem all_gen {cx : Cxt} {σ σ' : Env} {S : Store} {v : Nat} {ik : Ik} {ia : List Ex} {el : Ex} {own : List Nat} {ts : List T} {ds : List D} {g : Store → Bool} (f : D → Bool) (hi : dens cx ia σ S = .ok ts S) (ht : iterOf S ik ts = some (ds, g)) (hg : g S = true)
    (hw : wipeE σ own = σ') (hv : v < σ'.length) (he : ∀ d ∈ ds, (den cx el).e (σ'.set v (some d)) S = .ok (.v (.bl (f d))) S) : (den cx (.nd (.bi .all) [.lc (.var v) ik ia [] el own])).e σ S = .ok (.v (.bl (ds.all f))) S := by
  have e := lc_gen (cx := cx) (el := el) (fun d => D.bl (f d)) hi ht hg hw hv fun d hd => by rw [he d hd]; rfl
  have e3 := bi_all (S := S) (ds := ds.map fun d => D.bl (f d)) (bs := ds.map f) (by rw [List.map_map]; rfl)
  rw [nd_1 e, app_bi, e3, List.all_map]
  rfl
theorem any_gen {cx : Cxt} {σ σ' : Env} {S : Store} {v : Nat} {ik : Ik} {ia : List Ex} {el : Ex} {own : List Nat} {ts : List T} {ds : List D} {g : Store → Bool} (f : D → Bool) (hi : dens cx ia σ S = .ok ts S) (ht : iterOf S ik ts = some (ds, g)) (hg : g S = true)
    (hw : wipeE σ own = σ') (hv : v < σ'.length) (he : ∀ d ∈ ds, (den cx el).e (σ'.set v (some d)) S = .ok (.v (.bl (f d))) S) : (den cx (.nd (.bi .any) [.lc (.var v) ik ia [] el own])).e σ S = .ok (.v (.bl (ds.any f))) S := by
  have e := lc_gen (cx := cx) (el := el) (fun d => D.bl (f d)) hi ht hg hw hv fun d hd => by rw [he d hd]; rfl
  have e3 := bi_any (S := S) (ds := ds.map fun d => D.bl (f d)) (bs := ds.map f) (by rw [List.map_map]; rfl)
  rw [nd_1 e, app_bi, e3, List.any_map]
  rfl
/-- all([.. for at in range(1, n)]) -/
theorem all_from1 {cx : Cxt} {σ σ' : Env} {S : Store} {v : Nat} {ln el : Ex} {own : List Nat} {n : Nat} (f : Nat → Bool) (hn : (den cx ln).e σ S = .ok (.v (.int n)) S) (hl : n ≤ 16777216)
    (hw : wipeE σ own = σ') (hv : v < σ'.length) (he : ∀ m, m + 1 < n → (den cx el).e (σ'.set v (some (.int (1 + (m : Int))))) S = .ok (.v (.bl (f m))) S) :
    (den cx (.nd (.bi .all) [.lc (.var v) .rng [.cst (.int 1), ln] [] el own])).e σ S = .ok (.v (.bl ((List.range (n - 1)).all f))) S := by
  have hi : dens cx [.cst (.int 1), ln] σ S = .ok [.v (.int 1), .v (.int n)] S := by simp [hn]
  rw [all_gen (fun d => match d with | .int z => f (z - 1).toNat | _ => true) hi (iter_from1 S n hl) rfl hw hv fun d hd => ?_]
  · rw [List.all_map]
    have e : ((fun d => match d with | D.int z => f (z - 1).toNat | _ => true) ∘ fun (m : Nat) => D.int (1 + (m : Int))) = f := by
      funext m
      have g1 : (1 + (m : Int) - 1).toNat = m := by omega
      show f (1 + (m : Int) - 1).toNat = _
      rw [g1]
    rw [e]
  · obtain ⟨m, hm, rfl⟩ := List.mem_map.mp hd
    have hm := List.mem_range.mp hm
    have g1 : (1 + (m : Int) - 1).toNat = m := by omega
    rw [he m (by omega)]
    show _ = R.ok (T.v (D.bl (f (1 + (m : Int) - 1).toNat))) S
    rw [g1]
/-! is_clause -/
def halfEl : Ex := .nd (.cmp .lt) [(.nd (.op .fdiv) [(.nd .idx [(.var 0), (.nd (.op .sub) [(.var 2), (.cst (.int 1))])]), (.cst (.int 2))]), (.nd (.op .fdiv) [(.nd .idx [(.var 0), (.var 2)]), (.cst (.int 2))])]
def halfE : Ex := .nd (.bi .all) [(.lc (.var 2) .rng [(.cst (.int 1)), (.nd (.bi .len) [(.var 0)])] [] halfEl [2])]
def clauseF (i2 i3 : Nat) : Fd := ⟨2, 3, [.ite (.or (.not (.na (.call i2) [(.var 0), (.nd (.op .mul) [(.cst (.int 2)), (.var 1)])])) (.not (.na (.call i3) [(.var 0)]))) [.ret (.cst (.bl false))] [], .ret halfE]⟩
def ltI (a b : Int) : Bool := decide (a < b)
theorem asc_map {α β : Type} (f : α → β) (lt : β → β → Bool) (lt' : α → α → Bool) (h : ∀ a b, lt (f a) (f b) = lt' a b) : ∀ xs : List α, asc lt (xs.map f) = asc lt' xs
  | [] => rfl
  | [a] => rfl
  | a :: b :: r => by
    have ih := asc_map f lt lt' h (b :: r)
    rw [List.map_cons] at ih
    rw [List.map_cons, List.map_cons, asc, asc, h, ih]
/-- a clause over so many flags: ascending literals, of different flags -/
def clauseI (m : Int) (xs : List Int) : Bool := xs.all (fun i => decide (0 ≤ i) && decide (i < 2 * m)) && (asc ltI xs && asc ltI (xs.map (· / 2)))
def clauseB (m : Int) : D → Bool
  | .tup ds => match intsOf ds with
    | some xs => clauseI m xs
    | none => false
  | _ => false
theorem intsOf_cons (d : D) (ds : List D) : intsOf (d :: ds) = match d with | .int i => (intsOf ds).map (i :: ·) | _ => none := by
  cases d <;> rfl
theorem below_ints (b : Int) : ∀ ds : List D, ds.all (belowB b) = match intsOf ds with
    | some xs => xs.all fun i => decide (0 ≤ i) && decide (i < b)
    | none => false
  | [] => rfl
  | d :: ds => by
    rw [List.all_cons, below_ints b ds, intsOf_cons]
    cases d with
    | int z =>
      dsimp only
      cases hq : intsOf ds with
      | none => simp
      | some xs => rfl
    | _ => simp [belowB]
def dIn : D → Int | .int i => i | _ => 0
def ltV (a b : D) : Bool := decide (dIn a < dIn b)
theorem ltD_ints {xs : List Int} : ∀ a b, a ∈ xs.map D.int → b ∈ xs.map D.int → ltD a b = some (ltV a b) := by
  intro a b ha hb
  obtain ⟨x, _, rfl⟩ := List.mem_map.mp ha
  obtain ⟨y, _, rfl⟩ := List.mem_map.mp hb
  rfl
theorem halfS {cx : Cxt} {S : Store} {xs : List Int} {b : D} (hl : xs.length ≤ 16777216) : (den cx halfE).e [some (.tup (xs.map D.int)), some b, none] S = .ok (.v (.bl (asc ltI (xs.map (· / 2))))) S := by
  have hn : (den cx (.nd (.bi .len) [(.var 0)])).e [some (.tup (xs.map D.int)), some b, none] S = .ok (.v (.int xs.length)) S := by
    have e6 : biE S .len (.v (.tup (xs.map D.int))) = some (.v (.int (xs.map D.int).length)) := rfl
    rw [List.length_map] at e6
    simp [e6]
  unfold halfE
  rw [all_from1 (σ' := [some (.tup (xs.map D.int)), some b, none]) (ltAt ltI (xs.map (· / 2))) hn hl rfl (by simp) fun m hm => ?_]
  · have e := asc_at ltI (xs.map (· / 2))
    rw [List.length_map] at e
    rw [e]
  · have a1 : L2.atI (xs.map D.int) (m : Int) = some (.int xs[m]) := by
      rw [atI_get _ m (by rw [List.length_map]; omega), List.getElem_map]
    have a2 : L2.atI (xs.map D.int) (1 + (m : Int)) = some (.int xs[m + 1]) := by
      have e : 1 + (m : Int) = ((m + 1 : Nat) : Int) := by omega
      rw [e, atI_get _ (m + 1) (by rw [List.length_map]; omega), List.getElem_map]
    have e1 : (1 + (m : Int) - 1) = (m : Int) := by omega
    have hq : ltAt ltI (xs.map (· / 2)) m = decide (xs[m] / 2 < xs[m + 1] / 2) := by
      rw [ltAt_of (a := xs[m] / 2) (b := xs[m + 1] / 2) (by rw [List.getElem?_map, List.getElem?_eq_getElem (by omega)]; rfl) (by rw [List.getElem?_map, List.getElem?_eq_getElem (by omega)]; rfl)]
      rfl
    rw [hq]
    simp [halfEl, opE, opI, e1, idxE, seqR, a1, a2, cmpE, ltD]
theorem clauseS (h1 : tb.fs[i1]? = some wholeF) (h2 : tb.fs[i2]? = some (belowF i1)) {i4 : Nat} (h4 : tb.fs[i4]? = some (areBelowF i2)) (h3 : tb.fs[i3]? = some ascF) (h : tb.fs[i]? = some (clauseF i4 i3)) (k : Nat) (d : D) (m : Int) (S : Store) (hk : knT S d) :
    runK tb (k + 4) i [d, .int m] S = .ok (.bl (clauseB m d)) S := by
  rw [run_of h (k + 3) _ _ rfl]
  have e1 := areBelowS h1 h2 h4 k d (2 * m) S hk
  show finE S (exSs (cxK tb (k + 3)) (clauseF i4 i3).body [some d, some (.int m), none] S) = _
  cases hb : areBelow (2 * m) d with
  | false =>
    rw [hb] at e1
    have e0 : clauseB m d = false := by
      cases d with
      | tup ds =>
        have e := below_ints (2 * m) ds
        have hb : ds.all (belowB (2 * m)) = false := hb
        rw [hb] at e
        show (match intsOf ds with | some xs => clauseI m xs | none => false) = false
        cases hq : intsOf ds with
        | none => rfl
        | some xs =>
          rw [hq] at e
          dsimp only at e ⊢
          rw [clauseI, ← e, Bool.false_and]
      | _ => rfl
    rw [e0]
    simp [clauseF, opE, opI, e1]
  | true =>
    rw [hb] at e1
    cases d with
    | tup ds =>
      have e := below_ints (2 * m) ds
      have hb : ds.all (belowB (2 * m)) = true := hb
      rw [hb] at e
      cases hq : intsOf ds with
      | none => rw [hq] at e; cases e
      | some xs =>
        rw [hq] at e
        dsimp only at e
        have hd := intsOf_map hq
        subst hd
        have hlen : xs.length ≤ 16777216 := by
          have := (hk.2 _ rfl).1
          rw [List.length_map] at this
          omega
        have e2 : runK tb (k + 3) i3 [.tup (xs.map D.int)] S = .ok (.bl (asc ltV (xs.map D.int))) S := ascS h3 (k + 2) (xs.map D.int) S (by rw [List.length_map]; exact hlen) ltV ltD_ints
        rw [asc_map D.int ltV ltI (fun _ _ => rfl)] at e2
        have e0 : clauseB m (.tup (xs.map D.int)) = (asc ltI xs && asc ltI (xs.map (· / 2))) := by
          show (match intsOf (xs.map D.int) with | some xs => clauseI m xs | none => false) = _
          rw [hq]
          dsimp only
          rw [clauseI, ← e, Bool.true_and]
        rw [e0]
        cases ha : asc ltI xs with
        | false =>
          rw [ha] at e2
          simp [clauseF, opE, opI, e1, e2]
        | true =>
          rw [ha] at e2
          have e3 := halfS (cx := cxK tb (k + 3)) (S := S) (xs := xs) (b := .int m) hlen
          have e4 := ret_1 e3
          rw [Bool.true_and]
          simp only [clauseF]
          rw [exs_cons]
          have e5 : exS (cxK tb (k + 3)) (.ite (.or (.not (.na (.call i4) [(.var 0), (.nd (.op .mul) [(.cst (.int 2)), (.var 1)])])) (.not (.na (.call i3) [(.var 0)]))) [.ret (.cst (.bl false))] []) [some (.tup (xs.map D.int)), some (.int m), none] S = .ok (.nx [some (.tup (xs.map D.int)), some (.int m), none]) S := by
            simp [opE, opI, e1, e2]
          rw [e5, bind_ok', seqK_nx, e4, fin_rt, gc_same]
    | _ => cases hb
end
end Ev
set_option Elab.async false
set_option linter.all false
set_option maxRecDepth 100000
set_option autoImplicit false
set_option maxHeartbeats 4000000
/-! Sp, part C: clause books; the rows of digits that the laws draw. -/
namespace Ev
open PySem
section
variable {tb : Tb} {i i1 i2 i3 i4 i5 : Nat}
/-! are_clauses -/
def clausesF (i5 i3 : Nat) : Fd := ⟨2, 3, [.ite (.or (.not (.nd (.isi (.b "tuple")) [(.var 0)])) (.nd (.cmp .gt) [(.nd (.bi .len) [(.var 0)]), (.cst (.int 1000000))])) [.ret (.cst (.bl false))] [], .ret (.and (.nd (.bi .all) [(.lc (.var 2) .seq [(.var 0)] [] (.na (.call i5) [(.var 2), (.var 1)]) [2])]) (.na (.call i3) [(.var 0)]))]⟩
def clausesL (m : Int) (xs : List (List Int)) : Bool := xs.all (clauseI m) && asc HT.lexLt xs
def clausesB (m : Int) : D → Bool
  | .tup ds => decide (ds.length ≤ 1000000) && match tupsOf ds with
    | some xs => clausesL m xs
    | none => false
  | _ => false
theorem tupsOf_tups : ∀ xs : List (List Int), tupsOf (xs.map tupI) = some xs
  | [] => rfl
  | x :: xs => by
    rw [List.map_cons, tupI, tupsOf, intsOf_ints, tupsOf_tups xs]
    rfl
theorem clauseB_tupI (m : Int) (x : List Int) : clauseB m (tupI x) = clauseI m x := by
  show (match intsOf (x.map D.int) with | some xs => clauseI m xs | none => false) = _
  rw [intsOf_ints]
theorem clauses_tups (m : Int) : ∀ ds : List D, ds.all (clauseB m) = match tupsOf ds with
    | some xs => xs.all (clauseI m)
    | none => false
  | [] => rfl
  | d :: ds => by
    rw [List.all_cons, clauses_tups m ds]
    cases d with
    | tup es =>
      rw [tupsOf]
      cases hq : intsOf es with
      | none => simp [clauseB, hq]
      | some ys =>
        have e : clauseB m (.tup es) = clauseI m ys := by simp [clauseB, hq]
        rw [e, Option.bind_some]
        cases hr : tupsOf ds with
        | none => simp
        | some xs => rfl
    | _ => simp [clauseB, tupsOf]
def tIn : D → List Int
  | .tup ds => (intsOf ds).getD []
  | _ => []
def ltT (a b : D) : Bool := HT.lexLt (tIn a) (tIn b)
theorem tIn_tupI (x : List Int) : tIn (tupI x) = x := by
  rw [tupI, tIn, intsOf_ints]
  rfl
theorem ltD_tups {xs : List (List Int)} : ∀ a b, a ∈ xs.map tupI → b ∈ xs.map tupI → ltD a b = some (ltT a b) := by
  intro a b ha hb
  obtain ⟨x, _, rfl⟩ := List.mem_map.mp ha
  obtain ⟨y, _, rfl⟩ := List.mem_map.mp hb
  rw [ltT, tIn_tupI, tIn_tupI]
  rw [tupI, tupI, ltD, intsOf_ints, intsOf_ints]
theorem clausesS (h1 : tb.fs[i1]? = some wholeF) (h2 : tb.fs[i2]? = some (belowF i1)) (h4 : tb.fs[i4]? = some (areBelowF i2)) (h3 : tb.fs[i3]? = some ascF) (h5 : tb.fs[i5]? = some (clauseF i4 i3)) (h : tb.fs[i]? = some (clausesF i5 i3))
    (k : Nat) (d : D) (m : Int) (S : Store) (hk : knTT S d) : runK tb (k + 5) i [d, .int m] S = .ok (.bl (clausesB m d)) S := by
  rw [run_of h (k + 4) _ _ rfl]
  show finE S (exSs (cxK tb (k + 4)) (clausesF i5 i3).body [some d, some (.int m), none] S) = _
  have e1 := isiTup (cx := cxK tb (k + 4)) hk.1
  cases d with
  | tup ds =>
    obtain ⟨hl, hx⟩ := hk.2 ds rfl
    have e0 : clausesB m (.tup ds) = (decide (ds.length ≤ 1000000) && match tupsOf ds with
      | some xs => clausesL m xs
      | none => false) := rfl
    have e6 : biE S .len (.v (.tup ds)) = some (.v (.int ds.length)) := rfl
    by_cases hs : ds.length ≤ 1000000
    · have hd : decide ((1000000 : Int) < (ds.length : Int)) = false := decide_eq_false (by omega)
      have e2 : exS (cxK tb (k + 4)) (.ite (.or (.not (.nd (.isi (.b "tuple")) [(.var 0)])) (.nd (.cmp .gt) [(.nd (.bi .len) [(.var 0)]), (.cst (.int 1000000))])) [.ret (.cst (.bl false))] []) [some (.tup ds), some (.int m), none] S = .ok (.nx [some (.tup ds), some (.int m), none]) S := by
        simp [e6, cmpE, cmpI, hd]
      have e3 : (den (cxK tb (k + 4)) (.nd (.bi .all) [(.lc (.var 2) .seq [(.var 0)] [] (.na (.call i5) [(.var 2), (.var 1)]) [2])])).e [some (.tup ds), some (.int m), none] S = .ok (.v (.bl (ds.all (clauseB m)))) S :=
        all_gen (σ' := [some (.tup ds), some (.int m), none]) (ts := [.v (.tup ds)]) (ds := ds) (g := fun _ => true) (clauseB m) (by simp) rfl rfl rfl (by simp) fun d hd => by
          simp [clauseS h1 h2 h4 h3 h5 k d m S (hx d hd)]
      rw [clauses_tups m ds] at e3
      cases hq : tupsOf ds with
      | none =>
        rw [hq] at e3 e0
        rw [e0, Bool.and_false]
        simp only [clausesF]
        rw [exs_cons, e2, bind_ok', seqK_nx, ret_1 (d := .bl false) (by rw [den_and, e3]; rfl), fin_rt, gc_same]
      | some xs =>
        have hm := tupsOf_map hq
        subst hm
        rw [hq] at e3 e0
        dsimp only at e3 e0
        rw [e0, decide_eq_true hs, Bool.true_and, clausesL]
        simp only [clausesF]
        rw [exs_cons, e2, bind_ok', seqK_nx]
        cases ha : xs.all (clauseI m) with
        | false =>
          rw [ha] at e3
          rw [ret_1 (d := .bl false) (by rw [den_and, e3]; rfl), fin_rt, gc_same, Bool.false_and]
        | true =>
          rw [ha] at e3
          have e7 : runK tb (k + 4) i3 [.tup (xs.map tupI)] S = .ok (.bl (asc ltT (xs.map tupI))) S := ascS h3 (k + 3) (xs.map tupI) S (by omega) ltT ltD_tups
          rw [asc_map tupI ltT HT.lexLt (fun a b => by rw [ltT, tIn_tupI, tIn_tupI])] at e7
          have e8 : (den (cxK tb (k + 4)) (.and (.nd (.bi .all) [(.lc (.var 2) .seq [(.var 0)] [] (.na (.call i5) [(.var 2), (.var 1)]) [2])]) (.na (.call i3) [(.var 0)]))).e [some (.tup (xs.map tupI)), some (.int m), none] S = .ok (.v (.bl (asc HT.lexLt xs))) S := by
            rw [den_and, e3, bind_ok', andK_t]
            simp [e7]
          rw [ret_1 e8, fin_rt, gc_same, Bool.true_and]
    · have hd : decide ((1000000 : Int) < (ds.length : Int)) = true := decide_eq_true (by omega)
      rw [e0, decide_eq_false hs, Bool.false_and]
      simp [clausesF, e6, cmpE, cmpI, hd]
  | _ => simp [clausesF, e1, isTp, clausesB]
/-! ClauseBook -/
def cbIniF (iF iC ce f0 f1 : Nat) : Fd := ⟨3, 3, [.ite (.or (.not (.na (.call iF) [(.var 1)])) (.or (.nd (.cmp .gt) [(.nd (.bi .len) [(.var 1)]), (.cst (.int 500))]) (.not (.na (.call iC) [(.var 2), (.nd (.bi .len) [(.var 1)])])))) [.rse ce []] [], .fldS (.var 0) f0 (.var 1), .fldS (.var 0) f1 (.var 2)]⟩
def lenD : D → Nat | .tup ds => ds.length | _ => 0
/-- what ClauseBook takes -/
def cbB (a b : D) : Bool := areFlags a && (decide (lenD a ≤ 500) && clausesB (lenD a) b)
theorem gc_len {S S1 : Store} {d : D} (h : S1.length = S.length) : gc S d S1 = S1 := by
  unfold gc
  split
  · rename_i hc
    rw [← hc.1, ← h, List.take_length]
  · rfl
structure CbT (tb : Tb) (i1 i2 i3 i4 i5 iF iC iI ce f0 f1 c : Nat) : Prop where
  h1 : tb.fs[i1]? = some wholeF
  h2 : tb.fs[i2]? = some (belowF i1)
  h4 : tb.fs[i4]? = some (areBelowF i2)
  h3 : tb.fs[i3]? = some ascF
  h5 : tb.fs[i5]? = some (clauseF i4 i3)
  hF : tb.fs[iF]? = some areFlagsF
  hC : tb.fs[iC]? = some (clausesF i5 i3)
  hI : tb.fs[iI]? = some (cbIniF iF iC ce f0 f1)
  ini : tb.ini c = some iI
  at0 : tb.at_ c f0 = true
  at1 : tb.at_ c f1 = true
  rs : tb.rs ce = true
  ff : f0 ≠ f1
section
variable {iF iC iI ce f0 f1 c : Nat}
theorem cbIniS (B : CbT tb i1 i2 i3 i4 i5 iF iC iI ce f0 f1 c) (k n : Nat) (a b : D) (S : Store) (hn : S[n]? = some (.ins c [])) (ha : knT S a) (hb : knTT S b) :
    runK tb (k + 6) iI [.ref n, a, b] S = if cbB a b = true then .ok .non (S.set n (.ins c [(f0, a), (f1, b)])) else .ex ce [] S := by
  rw [run_of B.hI (k + 5) _ _ rfl]
  have e1 : runK tb (k + 5) iF [a] S = .ok (.bl (areFlags a)) S := areFlagsS B.hF (k + 4) a S ha
  have e2 : ∀ m, runK tb (k + 5) iC [b, .int m] S = .ok (.bl (clausesB m b)) S := fun m => clausesS B.h1 B.h2 B.h4 B.h3 B.h5 B.hC k b m S hb
  have ers : (cxK tb (k + 5)).rs ce = true := B.rs
  have eat0 : tb.at_ c f0 = true := B.at0
  have eat1 : tb.at_ c f1 = true := B.at1
  show finE S (exSs (cxK tb (k + 5)) (cbIniF iF iC ce f0 f1).body [some (.ref n), some a, some b] S) = _
  have er : exS (cxK tb (k + 5)) (.rse ce []) [some (.ref n), some a, some b] S = .ok (.xc [some (.ref n), some a, some b] ce []) S := by
    simp only [exS]
    rw [if_pos ers]
    rfl
  have egx : gcX S [] S = S := by unfold gcX; split <;> rfl
  have bad : cbB a b = false → (den (cxK tb (k + 5)) (.or (.not (.na (.call iF) [(.var 1)])) (.or (.nd (.cmp .gt) [(.nd (.bi .len) [(.var 1)]), (.cst (.int 500))]) (.not (.na (.call iC) [(.var 2), (.nd (.bi .len) [(.var 1)])]))))).b [some (.ref n), some a, some b] S = .ok true S := by
    intro h
    cases hf : areFlags a with
    | false =>
      rw [hf] at e1
      simp [e1]
    | true =>
      rw [hf] at e1
      cases a with
      | tup ds =>
        have e6 : biE S .len (.v (.tup ds)) = some (.v (.int ds.length)) := rfl
        by_cases hl : ds.length ≤ 500
        · have hd : decide ((500 : Int) < (ds.length : Int)) = false := decide_eq_false (by omega)
          have hc : clausesB (ds.length : Nat) b = false := by
            unfold cbB at h
            rw [hf, Bool.true_and] at h
            have hl2 : decide (lenD (.tup ds) ≤ 500) = true := decide_eq_true hl
            rw [hl2, Bool.true_and] at h
            exact h
          have e3 := e2 (ds.length : Nat)
          rw [hc] at e3
          simp [e1, e6, cmpE, cmpI, hd, e3]
        · have hd : decide ((500 : Int) < (ds.length : Int)) = true := decide_eq_true (by omega)
          simp [e1, e6, cmpE, cmpI, hd]
      | _ => cases hf
  have good : cbB a b = true → (den (cxK tb (k + 5)) (.or (.not (.na (.call iF) [(.var 1)])) (.or (.nd (.cmp .gt) [(.nd (.bi .len) [(.var 1)]), (.cst (.int 500))]) (.not (.na (.call iC) [(.var 2), (.nd (.bi .len) [(.var 1)])]))))).b [some (.ref n), some a, some b] S = .ok false S := by
    intro h
    unfold cbB at h
    rw [Bool.and_eq_true, Bool.and_eq_true] at h
    obtain ⟨hf, hl, hc⟩ := h
    rw [hf] at e1
    cases a with
    | tup ds =>
      have e6 : biE S .len (.v (.tup ds)) = some (.v (.int ds.length)) := rfl
      have hl' : ds.length ≤ 500 := of_decide_eq_true hl
      have hd : decide ((500 : Int) < (ds.length : Int)) = false := decide_eq_false (by omega)
      have hc' : clausesB (ds.length : Nat) b = true := hc
      have e3 := e2 (ds.length : Nat)
      rw [hc'] at e3
      simp [e1, e6, cmpE, cmpI, hd, e3]
    | _ => cases hf
  cases hc : cbB a b with
  | false =>
    rw [if_neg (by simp)]
    have e := bad hc
    simp only [cbIniF]
    rw [exs_cons, ex_ite, e, cat_ok', ifK_ap, if_pos rfl, exs_cons, er]
    simp only [bind_ok', seqK_xc, fin_xc, egx]
  | true =>
    rw [if_pos rfl]
    have e := good hc
    have h0 : n < S.length := (List.getElem?_eq_some_iff.mp hn).1
    simp only [cbIniF]
    rw [exs_cons, ex_ite, e, cat_ok', ifK_ap, if_neg (by simp), exs_nil, bind_ok', seqK_nx]
    have e4 : exS (cxK tb (k + 5)) (.fldS (.var 0) f0 (.var 1)) [some (.ref n), some a, some b] S = .ok (.nx [some (.ref n), some a, some b]) (S.set n (.ins c [(f0, a)])) := by
      simp only [exS]
      simp [hn, eat0, putN]
    have hn2 : (S.set n (.ins c [(f0, a)]))[n]? = some (.ins c [(f0, a)]) := by simp [h0]
    have e5 : exS (cxK tb (k + 5)) (.fldS (.var 0) f1 (.var 2)) [some (.ref n), some a, some b] (S.set n (.ins c [(f0, a)])) = .ok (.nx [some (.ref n), some a, some b]) (S.set n (.ins c [(f0, a), (f1, b)])) := by
      simp only [exS]
      simp [hn2, eat1, putN, B.ff]
    rw [exs_cons, e4, bind_ok', seqK_nx, exs_cons, e5, bind_ok', seqK_nx, exs_nil, fin_nx, gc_len (by simp)]
/-- ClauseBook(a, b) -/
theorem cbMakS (B : CbT tb i1 i2 i3 i4 i5 iF iC iI ce f0 f1 c) (k : Nat) (a b : D) (S : Store) (ha : knT (S ++ [.ins c []]) a) (hb : knTT (S ++ [.ins c []]) b) :
    mkE (runJ tb (k + 7)) tb.ini c [a, b] S = if cbB a b = true then .ok (.ref S.length) (S ++ [.ins c [(f0, a), (f1, b)]]) else .ex ce [] (S ++ [.ins c []]) := by
  unfold mkE
  rw [B.ini]
  dsimp only
  have hn : (S ++ [O.ins c []])[S.length]? = some (.ins c []) := by simp
  have e := cbIniS B k S.length a b (S ++ [.ins c []]) hn ha hb
  rw [show runJ tb (k + 7) iI = runK tb (k + 6) iI from rfl, e]
  split
  · simp
  · rfl
end
end
end Ev
set_option Elab.async false
set_option linter.all false
set_option maxRecDepth 100000
set_option autoImplicit false
set_option maxHeartbeats 4000000
/-! Sp, part D: what the laws draw: cells, rows of digits, flags; sameness. -/
namespace Ev
open PySem
section
variable {tb : Tb} {i i1 i2 i3 i4 i5 : Nat}
/-! _law_cell -/
def cellF : Fd := ⟨2, 2, [.ite (.nd (.cmp .lt) [(.var 1), (.nd (.bi .len) [(.var 0)])]) [.ret (.nd .idx [(.var 0), (.var 1)])] [], .ret (.cst (.int 0))]⟩
theorem cellS (h : tb.fs[i]? = some cellF) (k : Nat) (ns : List Int) (n c : Nat) (S : Store) (hn : S[n]? = some (.lk (.lst (ns.map D.int)))) : runK tb (k + 1) i [.ref n, .int c] S = .ok (.int (ns.getD c 0)) S := by
  rw [run_of h k _ _ rfl]
  have e1 : seqR S (.v (.ref n)) = some (ns.map D.int) := by simp [seqR, lstR, objR, unlk, hn]
  have e2 : biE S .len (.v (.ref n)) = some (.v (.int ns.length)) := by simp [biE, e1]
  by_cases hc : c < ns.length
  · have hd : decide ((c : Int) < (ns.length : Int)) = true := decide_eq_true (by omega)
    have e3 : L2.atI (ns.map D.int) (c : Int) = some (.int (ns.getD c 0)) := by
      rw [atI_get _ c (by rw [List.length_map]; exact hc), List.getElem_map, List.getD_eq_getElem?_getD, List.getElem?_eq_getElem hc]
      rfl
    rw [List.getD_eq_getElem?_getD] at e3 ⊢
    simp [cellF, e2, cmpE, ltD, hc, idxE, e1, e3]
  · have hd : decide ((c : Int) < (ns.length : Int)) = false := decide_eq_false (by omega)
    have e3 : ns.getD c 0 = 0 := by
      rw [List.getD_eq_getElem?_getD, List.getElem?_eq_none (by omega)]
      rfl
    rw [e3]
    simp [cellF, e2, cmpE, ltD, hc]
/-! _law_row -/
def rowB : List Sx := [.set (.var 4) (.nd (.op .mod) [(.nd (.bi .int) [(.nd (.op .add) [(.nd (.op .add) [(.nd (.op .mul) [(.var 4), (.cst (.int 48271))]), (.nd (.op .mul) [(.cst (.int 29)), (.var 6)])]), (.cst (.int 17))])]), (.cst (.int 2147483647))]), .set (.var 4) (.nd (.op .mod) [(.nd (.bi .int) [(.nd (.op .add) [(.nd (.op .add) [(.nd (.op .mul) [(.var 4), (.cst (.int 69621))]), (.nd (.op .mul) [(.cst (.int 13)), (.var 6)])]), (.cst (.int 5))])]), (.cst (.int 2147483629))]), .ite (.and (.var 3) (.nd (.cmp .gt) [(.var 2), (.cst (.int 0))])) [.ex (.meth .append (.var 5) [(.nd (.op .mod) [(.nd (.bi .int) [(.var 2)]), (.nd .idx [(.var 1), (.var 6)])])]), .set (.var 2) (.nd (.op .fdiv) [(.var 2), (.nd .idx [(.var 1), (.var 6)])])] [.ex (.meth .append (.var 5) [(.nd (.op .mod) [(.nd (.bi .int) [(.nd (.op .fdiv) [(.var 4), (.cst (.int 7))])]), (.nd .idx [(.var 1), (.var 6)])])])]]
def rowF : Fd := ⟨2, 7, [.set (.var 2) (.nd (.bi .abs) [(.var 0)]), .set (.var 3) (.nd (.cmp .ge) [(.var 2), (.nd (.op .pow) [(.cst (.int 10)), (.cst (.int 18))])]), .set (.var 4) (.nd (.op .mod) [(.nd (.bi .int) [(.var 2)]), (.cst (.int 2147483647))]), .set (.var 5) (.na .lst []), .fr (.var 6) .rng [(.nd (.bi .len) [(.var 1)])] rowB, .ret (.var 5)]⟩
/-- digits below their bounds -/
def Bnd : List Int → List Int → Prop
  | [], [] => True
  | r :: rs, b :: bs => (0 ≤ r ∧ r < b) ∧ Bnd rs bs
  | _, _ => False
theorem Bnd.len : ∀ {rs bs : List Int}, Bnd rs bs → rs.length = bs.length
  | [], [], _ => rfl
  | [], _ :: _, h => h.elim
  | _ :: _, [], h => h.elim
  | r :: rs, b :: bs, h => by simp [h.2.len]
theorem Bnd.snoc : ∀ {rs bs : List Int} {r b : Int}, Bnd rs bs → 0 ≤ r → r < b → Bnd (rs ++ [r]) (bs ++ [b])
  | [], [], r, b, _, h1, h2 => ⟨⟨h1, h2⟩, trivial⟩
  | [], _ :: _, _, _, h, _, _ => h.elim
  | _ :: _, [], _, _, h, _, _ => h.elim
  | _ :: rs, _ :: bs, r, b, h, h1, h2 => ⟨h.1, h.2.snoc h1 h2⟩
theorem B64_s (i : Int) (h1 : -(2 ^ 64) < i) (h2 : i < 2 ^ 64) : B64 i = true := by
  unfold B64
  rw [decide_eq_true h1, decide_eq_true h2]
  rfl
@[simp] theorem B64_a : B64 48271 = true := by decide
@[simp] theorem B64_b : B64 69621 = true := by decide
@[simp] theorem B64_c : B64 29 = true := by decide
@[simp] theorem B64_d : B64 13 = true := by decide
@[simp] theorem opE_int (S : Store) (o : Op2) (i j : Int) : opE S o (.v (.int i)) (.v (.int j)) = (opI o i j).map fun z => .v (.int z) := by cases o <;> rfl
@[simp] theorem bi_int (S : Store) (i : Int) : biE S .int (.v (.int i)) = some (.v (.int i)) := rfl
@[simp] theorem cmp_gt (S : Store) (i j : Int) : cmpE S .gt (.v (.int i)) (.v (.int j)) = some (decide (j < i)) := rfl
@[simp] theorem cmp_ge (S : Store) (i j : Int) : cmpE S .ge (.v (.int i)) (.v (.int j)) = some (decide (j ≤ i)) := rfl
@[simp] theorem cmp_lt (S : Store) (i j : Int) : cmpE S .lt (.v (.int i)) (.v (.int j)) = some (decide (i < j)) := rfl
@[simp] theorem cmp_le (S : Store) (i j : Int) : cmpE S .le (.v (.int i)) (.v (.int j)) = some (decide (i ≤ j)) := rfl
theorem opI_mod {i j : Int} (h : 0 < j) : opI .mod i j = some (i % j) := by
  show (if 0 < j then some (i % j) else none) = _
  rw [if_pos h]
theorem opI_fdiv {i j : Int} (h : 0 < j) (h2 : j < 1073741824) : opI .fdiv i j = some (i / j) := by
  show (if 0 < j ∧ j < 1073741824 then some (i / j) else none) = _
  rw [if_pos ⟨h, h2⟩]
@[simp] theorem opI_add (i j : Int) : opI .add i j = some (i + j) := rfl
@[simp] theorem opI_sub (i j : Int) : opI .sub i j = some (i - j) := rfl
@[simp] theorem opI_mulR (i j : Int) (h : B64 j = true) : opI .mul i j = some (i * j) := by
  show (if (B64 i || B64 j) = true then some (i * j) else none) = _
  rw [h, Bool.or_true, if_pos rfl]
@[simp] theorem opI_mulL (i j : Int) (h : B64 i = true) : opI .mul i j = some (i * j) := by
  show (if (B64 i || B64 j) = true then some (i * j) else none) = _
  rw [h, Bool.true_or, if_pos rfl]
theorem row_step (cx : Cxt) (S : Store) (b : Nat) (bs row : List Int) (j : Nat) (x0 x6 : Option D) (left mixed : Int) (great : Bool) (hb : S[b]? = some (.lst (bs.map D.int))) (hj : j < bs.length) (hp : ∀ x ∈ bs, 0 < x ∧ x < 1073741824) (hl : bs.length ≤ 1000) (hr : row.length = j) (h0 : 0 ≤ left) :
    ∃ left' mixed' r, 0 ≤ left' ∧ 0 ≤ r ∧ r < bs[j] ∧ exSs cx rowB [x0, some (.ref b), some (.int left), some (.bl great), some (.int mixed), some (.ref S.length), some (.int (j : Int))] (S ++ [.lst (row.map D.int)]) =
      .ok (.nx [x0, some (.ref b), some (.int left'), some (.bl great), some (.int mixed'), some (.ref S.length), some (.int (j : Int))]) (S ++ [.lst ((row ++ [r]).map D.int)]) := by
  obtain ⟨p1, p2⟩ := hp bs[j] (List.getElem_mem hj)
  have hb' := app_at hb [O.lst (row.map D.int)]
  have e1 : idxE (S ++ [.lst (row.map D.int)]) (.v (.ref b)) (.v (.int (j : Int))) = some (.int bs[j]) := by
    have e : L2.atI (bs.map D.int) (j : Int) = some (.int bs[j]) := by
      rw [atI_get _ j (by rw [List.length_map]; exact hj), List.getElem_map]
    simp [idxE, seqR, lstR, objR, unlk, hb', e]
  have hw : (S ++ [O.lst (row.map D.int)])[S.length]? = some (.lst (row.map D.int)) := by simp
  have e2 : meOk (S ++ [.lst (row.map D.int)]) .append (.v (.ref S.length)) = true := by simp [meOk, lstW, objW]
  have e3 : ∀ d, meE (S ++ [.lst (row.map D.int)]) .append (.v (.ref S.length)) [d] = .ok (.v .non) (S ++ [.lst (row.map D.int ++ [d])]) := fun d => by
    have hs : row.length < PySem.sizeLine := by rw [size_line]; omega
    simp [meE, hs]
  have m1 : ∀ z : Int, opI .mod z 2147483647 = some (z % 2147483647) := fun z => opI_mod (by omega)
  have m2 : ∀ z : Int, opI .mod z 2147483629 = some (z % 2147483629) := fun z => opI_mod (by omega)
  have m3 : ∀ z : Int, opI .mod z bs[j] = some (z % bs[j]) := fun z => opI_mod p1
  have m4 : ∀ z : Int, opI .fdiv z bs[j] = some (z / bs[j]) := fun z => opI_fdiv p1 p2
  have m5 : ∀ z : Int, opI .fdiv z 7 = some (z / 7) := fun z => opI_fdiv (by omega) (by omega)
  have hb2 := app_at hb
  have e4 : ∀ T, idxE (S ++ T) (.v (.ref b)) (.v (.int (j : Int))) = some (.int bs[j]) := fun T => by
    have e : L2.atI (bs.map D.int) (j : Int) = some (.int bs[j]) := by
      rw [atI_get _ j (by rw [List.length_map]; exact hj), List.getElem_map]
    simp [idxE, seqR, lstR, objR, unlk, hb2 T, e]
  by_cases hc : great = true ∧ 0 < left
  · refine ⟨left / bs[j], ((((mixed * 48271 + 29 * (j : Int) + 17) % 2147483647) * 69621 + 13 * (j : Int) + 5) % 2147483629), left % bs[j], Int.ediv_nonneg h0 (by omega), Int.emod_nonneg _ (by omega), Int.emod_lt_of_pos _ p1, ?_⟩
    have hd : decide (0 < left) = true := decide_eq_true hc.2
    rw [hc.1]
    simp [rowB, m1, m2, m3, m4, e4, e2, e3, hc.2]
  · refine ⟨left, ((((mixed * 48271 + 29 * (j : Int) + 17) % 2147483647) * 69621 + 13 * (j : Int) + 5) % 2147483629), ((((mixed * 48271 + 29 * (j : Int) + 17) % 2147483647) * 69621 + 13 * (j : Int) + 5) % 2147483629) / 7 % bs[j], h0, Int.emod_nonneg _ (by omega), Int.emod_lt_of_pos _ p1, ?_⟩
    have hd : (great = true → decide (0 < left) = false) := fun g => decide_eq_false fun h => hc ⟨g, h⟩
    cases great with
    | false =>
      simp [rowB, m1, m2, m3, m4, m5, e4, e2, e3]
    | true =>
      have hn : ¬ 0 < left := fun h => hc ⟨rfl, h⟩
      simp [rowB, m1, m2, m3, m4, m5, e4, e2, e3, hn]
theorem frL_ix {v : Nat} {body : Env → Store → R Fl} {g : Store → Bool} (ds : List D) (Pv : Nat → Env → Store → Prop)
    (step : ∀ (j : Nat) (hj : j < ds.length) (σ : Env) (S : Store), Pv j σ S → g S = true ∧ v < σ.length ∧ ∃ σ2 S2, (body (σ.set v (some ds[j])) S = .ok (.nx σ2) S2 ∨ body (σ.set v (some ds[j])) S = .ok (.ct σ2) S2) ∧ Pv (j + 1) σ2 S2)
    (last : ∀ σ S, Pv ds.length σ S → g S = true) (σ : Env) (S : Store) (h : Pv 0 σ S) : ∃ σ' S', frL (bindT (.var v)) body g ds σ S = .ok (.nx σ') S' ∧ Pv ds.length σ' S' := by
  obtain ⟨σ', S', h1, j, h2, h3, h4⟩ := frL_run (bnd := bindT (.var v)) (body := body) (gd := g) (fun rest σ S => ∃ j, rest = ds.drop j ∧ j ≤ ds.length ∧ Pv j σ S) (by
    rintro d rest σ S ⟨j, e, hj, hp⟩
    have hlt : j < ds.length := by
      rcases Nat.lt_or_ge j ds.length with q | q
      · exact q
      · rw [List.drop_eq_nil_of_le q] at e
        cases e
    rw [List.drop_eq_getElem_cons hlt] at e
    injection e with e1 e2
    obtain ⟨hg, hv, σ2, S2, h1, h2⟩ := step j hlt σ S hp
    subst e1
    refine ⟨hg, σ.set v (some ds[j]), σ2, S2, ?_, h1, j + 1, e2, hlt, h2⟩
    show (if v < σ.length then some (σ.set v (some ds[j])) else none) = _
    rw [if_pos hv]) (by
    rintro σ S ⟨j, e, hj, hp⟩
    have : j = ds.length := by
      have := congrArg List.length e
      simp at this
      omega
    subst this
    exact last σ S hp) ds σ S ⟨0, rfl, Nat.zero_le _, h⟩
  have : j = ds.length := by
    have := congrArg List.length h2
    simp at this
    omega
  subst this
  exact ⟨σ', S', h1, h4⟩
/-- for v in range(n) -/
theorem frL_rng {v : Nat} {body : Env → Store → R Fl} (n : Nat) (Pv : Nat → Env → Store → Prop)
    (step : ∀ (j : Nat) (_ : j < n) (σ : Env) (S : Store), Pv j σ S → v < σ.length ∧ ∃ σ2 S2, (body (σ.set v (some (.int (j : Int)))) S = .ok (.nx σ2) S2 ∨ body (σ.set v (some (.int (j : Int)))) S = .ok (.ct σ2) S2) ∧ Pv (j + 1) σ2 S2)
    (σ : Env) (S : Store) (h : Pv 0 σ S) : ∃ σ' S', frL (bindT (.var v)) body (fun _ => true) ((List.range n).map fun (m : Nat) => D.int (m : Int)) σ S = .ok (.nx σ') S' ∧ Pv n σ' S' := by
  obtain ⟨σ', S', h1, h2⟩ := frL_ix (v := v) (body := body) (g := fun _ => true) ((List.range n).map fun (m : Nat) => D.int (m : Int)) Pv (fun j hj σ S hp => by
    have hj' : j < n := by simpa using hj
    obtain ⟨a, σ2, S2, b, c⟩ := step j hj' σ S hp
    refine ⟨rfl, a, σ2, S2, ?_, c⟩
    rw [List.getElem_map, List.getElem_range]
    exact b) (fun _ _ _ => rfl) σ S h
  have e : ((List.range n).map fun (m : Nat) => D.int (m : Int)).length = n := by simp
  rw [e] at h2
  exact ⟨σ', S', h1, h2⟩
@[simp] theorem bi_abs (S : Store) (i : Int) : biE S .abs (.v (.int i)) = some (.v (.int (if i < 0 then -i else i))) := rfl
theorem opI_pow {i j : Int} (h0 : 0 ≤ j) (h1 : j ≤ 1000000) (h2 : i.natAbs < 2 ^ 64) : opI .pow i j = some (i ^ j.toNat) := by
  show (if 0 ≤ j ∧ j ≤ 1000000 ∧ i.natAbs < 2 ^ 64 then some (i ^ j.toNat) else none) = _
  rw [if_pos ⟨h0, h1, h2⟩]
theorem take_succ_eq (bs : List Int) (j : Nat) (h : j < bs.length) : bs.take (j + 1) = bs.take j ++ [bs[j]] := by
  rw [List.take_succ, List.getElem?_eq_getElem h]
  rfl
theorem rowS (h : tb.fs[i]? = some rowF) (k : Nat) (cell : Int) (b : Nat) (bs : List Int) (S : Store) (hb : S[b]? = some (.lst (bs.map D.int))) (hp : ∀ x ∈ bs, 0 < x ∧ x < 1073741824) (hl : bs.length ≤ 1000) :
    ∃ row, Bnd row bs ∧ runK tb (k + 1) i [.int cell, .ref b] S = .ok (.ref S.length) (S ++ [.lst (row.map D.int)]) := by
  rw [run_of h k _ _ rfl]
  have e1 : seqR S (.v (.ref b)) = some (bs.map D.int) := by simp [seqR, lstR, objR, unlk, hb]
  obtain ⟨left, hleft, h0⟩ : ∃ left, left = (if cell < 0 then -cell else cell) ∧ 0 ≤ left := ⟨_, rfl, by split <;> omega⟩
  have e2 : opI .pow 10 18 = some 1000000000000000000 := opI_pow (by omega) (by omega) (by decide)
  have e3 : opI .mod left 2147483647 = some (left % 2147483647) := opI_mod (by omega)
  have e4 := app_at hb [O.lst []]
  have e5 : biE (S ++ [O.lst []]) .len (.v (.ref b)) = some (.v (.int bs.length)) := by
    simp [biE, seqR, lstR, objR, unlk, e4]
  have e6 := iter_len1 (S ++ [O.lst []]) bs.length (by omega)
  obtain ⟨σ', S', e7, row, lf, mx, x6, q1, q2, q3, q4, q5⟩ := frL_rng (v := 6) (body := exSs (cxK tb k) rowB) bs.length (fun j σ S' => ∃ row lf mx x6, row.length = j ∧ Bnd row (bs.take j) ∧ 0 ≤ lf ∧ σ = [some (.int cell), some (.ref b), some (.int lf), some (.bl (decide (1000000000000000000 ≤ left))), some (.int mx), some (.ref S.length), x6] ∧ S' = S ++ [.lst (row.map D.int)]) (by
    rintro j hj σ S' ⟨row, lf, mx, x6, q1, q2, q3, rfl, rfl⟩
    obtain ⟨lf', mx', r, r1, r2, r3, r4⟩ := row_step (cxK tb k) S b bs row j (some (.int cell)) x6 lf mx (decide (1000000000000000000 ≤ left)) hb hj hp hl q1 q3
    refine ⟨by simp, _, _, .inl r4, row ++ [r], lf', mx', _, by simp [q1], ?_, r1, rfl, rfl⟩
    rw [take_succ_eq bs j hj]
    exact q2.snoc r2 r3) [some (.int cell), some (.ref b), some (.int left), some (.bl (decide (1000000000000000000 ≤ left))), some (.int (left % 2147483647)), some (.ref S.length), none] (S ++ [.lst []])
    ⟨[], left, left % 2147483647, none, rfl, trivial, h0, rfl, rfl⟩
  subst q4 q5
  rw [List.take_length] at q2
  refine ⟨row, q2, ?_⟩
  show finE S (exSs (cxK tb k) rowF.body [some (.int cell), some (.ref b), none, none, none, none, none] S) = _
  have hn : noRef S.length (.ref S.length) = false := by simp [noRef]
  simp only [rowF]
  have f1 : exS (cxK tb k) (.set (.var 2) (.nd (.bi .abs) [(.var 0)])) [some (.int cell), some (.ref b), none, none, none, none, none] S = .ok (.nx [some (.int cell), some (.ref b), some (.int left), none, none, none, none]) S := by
    simp [hleft]
  have f2 : exS (cxK tb k) (.set (.var 3) (.nd (.cmp .ge) [(.var 2), (.nd (.op .pow) [(.cst (.int 10)), (.cst (.int 18))])])) [some (.int cell), some (.ref b), some (.int left), none, none, none, none] S = .ok (.nx [some (.int cell), some (.ref b), some (.int left), some (.bl (decide (1000000000000000000 ≤ left))), none, none, none]) S := by
    simp [e2]
  have f3 : exS (cxK tb k) (.set (.var 4) (.nd (.op .mod) [(.nd (.bi .int) [(.var 2)]), (.cst (.int 2147483647))])) [some (.int cell), some (.ref b), some (.int left), some (.bl (decide (1000000000000000000 ≤ left))), none, none, none] S = .ok (.nx [some (.int cell), some (.ref b), some (.int left), some (.bl (decide (1000000000000000000 ≤ left))), some (.int (left % 2147483647)), none, none]) S := by
    simp [e3]
  have f4 : exS (cxK tb k) (.set (.var 5) (.na .lst [])) [some (.int cell), some (.ref b), some (.int left), some (.bl (decide (1000000000000000000 ≤ left))), some (.int (left % 2147483647)), none, none] S = .ok (.nx [some (.int cell), some (.ref b), some (.int left), some (.bl (decide (1000000000000000000 ≤ left))), some (.int (left % 2147483647)), some (.ref S.length), none]) (S ++ [.lst []]) := by
    simp
  have f5 : exS (cxK tb k) (.fr (.var 6) .rng [(.nd (.bi .len) [(.var 1)])] rowB) [some (.int cell), some (.ref b), some (.int left), some (.bl (decide (1000000000000000000 ≤ left))), some (.int (left % 2147483647)), some (.ref S.length), none] (S ++ [.lst []]) = .ok (.nx [some (.int cell), some (.ref b), some (.int lf), some (.bl (decide (1000000000000000000 ≤ left))), some (.int mx), some (.ref S.length), x6]) (S ++ [.lst (row.map D.int)]) := by
    rw [ex_fr, dens_1 (t := .v (.int bs.length)) (S' := S ++ [.lst []]) (by simp [e5]), cat_ok', frK_ap, e6, frO_some]
    exact e7
  rw [exs_cons, f1, bind_ok', seqK_nx, exs_cons, f2, bind_ok', seqK_nx, exs_cons, f3, bind_ok', seqK_nx, exs_cons, f4, bind_ok', seqK_nx, exs_cons, f5, bind_ok', seqK_nx, ret_1 (d := .ref S.length) (S' := S ++ [.lst (row.map D.int)]) (by simp), fin_rt, gc_app, hn]
  rfl
end
end Ev
set_option Elab.async false
set_option linter.all false
set_option maxRecDepth 100000
set_option autoImplicit false
set_option maxHeartbeats 4000000
/-! Sp, part E: flags drawn, clauses drawn, clause books drawn; sameness of data. -/
namespace Ev
open PySem
section
variable {tb : Tb} {i i1 i2 i3 i4 i5 : Nat}
/-! _law_bits -/
def bitsB : List Sx := [.ex (.meth .append (.var 2) [(.nd (.cmp .eq) [(.nd (.op .mod) [(.var 0), (.cst (.int 2))]), (.cst (.int 1))])]), .set (.var 0) (.nd (.op .fdiv) [(.var 0), (.cst (.int 2))])]
def bitsF : Fd := ⟨2, 4, [.set (.var 2) (.na .lst []), .fr (.var 3) .rng [(.var 1)] bitsB, .ret (.nd (.bi .tuple) [(.var 2)])]⟩
theorem noRefs_of : ∀ (n : Nat) (ds : List D), plDs ds = true → noRefs n ds = true
  | _, [], _ => by simp [noRefs]
  | n, d :: ds, h => by
    rw [plDs, Bool.and_eq_true] at h
    rw [noRefs, noRefs_of n ds h.2, Bool.and_true]
    cases d with
    | tup es =>
      have h1 := h.1
      rw [plD] at h1
      rw [noRef]
      exact noRefs_of n es h1
    | ref _ => have h1 := h.1; rw [plD] at h1; cases h1
    | _ => simp [noRef]
theorem noRef_of (n : Nat) (d : D) (h : plD d = true) : noRef n d = true := by
  have := noRefs_of n [d] (by rw [plDs, h]; rfl)
  rw [noRefs, Bool.and_eq_true] at this
  exact this.1
theorem bitsS (h : tb.fs[i]? = some bitsF) (k : Nat) (number : Int) (m : Nat) (S : Store) (hm : m ≤ 1000) :
    ∃ bs : List Bool, bs.length = m ∧ runK tb (k + 1) i [.int number, .int m] S = .ok (.tup (bs.map D.bl)) S := by
  rw [run_of h k _ _ rfl]
  have e6 := iter_len1 (S ++ [O.lst []]) m (by omega)
  obtain ⟨σ', S', e7, bs, nb, x3, q1, q2, q3⟩ := frL_rng (v := 3) (body := exSs (cxK tb k) bitsB) m (fun j σ S' => ∃ (bs : List Bool) (nb : Int) (x3 : Option D), bs.length = j ∧ σ = [some (.int nb), some (.int m), some (.ref S.length), x3] ∧ S' = S ++ [.lst (bs.map D.bl)]) (by
    rintro j hj σ S' ⟨bs, nb, x3, q1, rfl, rfl⟩
    have hw : (S ++ [O.lst (bs.map D.bl)])[S.length]? = some (.lst (bs.map D.bl)) := by simp
    have e2 : meOk (S ++ [.lst (bs.map D.bl)]) .append (.v (.ref S.length)) = true := by simp [meOk, lstW, objW]
    have e3 : ∀ d, meE (S ++ [.lst (bs.map D.bl)]) .append (.v (.ref S.length)) [d] = .ok (.v .non) (S ++ [.lst (bs.map D.bl ++ [d])]) := fun d => by
      have hs : bs.length < PySem.sizeLine := by rw [size_line]; omega
      simp [meE, hs]
    have m1 : opI .mod nb 2 = some (nb % 2) := opI_mod (by omega)
    have m2 : opI .fdiv nb 2 = some (nb / 2) := opI_fdiv (by omega) (by omega)
    refine ⟨by simp, [some (.int (nb / 2)), some (.int m), some (.ref S.length), some (.int (j : Int))], _, .inl ?_, bs ++ [decide (nb % 2 = 1)], nb / 2, _, by simp [q1], rfl, rfl⟩
    simp [bitsB, m1, m2, e2, e3, cmpE, eqE_int]) [some (.int number), some (.int m), some (.ref S.length), none] (S ++ [.lst []]) ⟨[], number, none, rfl, rfl, rfl⟩
  subst q2 q3
  refine ⟨bs, q1, ?_⟩
  show finE S (exSs (cxK tb k) bitsF.body [some (.int number), some (.int m), none, none] S) = _
  have hn : noRef S.length (.tup (bs.map D.bl)) = true := noRef_of _ _ (by rw [plD]; exact pl_bls bs)
  simp only [bitsF]
  have f1 : exS (cxK tb k) (.set (.var 2) (.na .lst [])) [some (.int number), some (.int m), none, none] S = .ok (.nx [some (.int number), some (.int m), some (.ref S.length), none]) (S ++ [.lst []]) := by simp
  have f2 : exS (cxK tb k) (.fr (.var 3) .rng [(.var 1)] bitsB) [some (.int number), some (.int m), some (.ref S.length), none] (S ++ [.lst []]) = .ok (.nx [some (.int nb), some (.int m), some (.ref S.length), x3]) (S ++ [.lst (bs.map D.bl)]) := by
    rw [ex_fr, dens_1 (t := .v (.int m)) (S' := S ++ [.lst []]) (by simp), cat_ok', frK_ap, e6, frO_some]
    exact e7
  have e8 : biE (S ++ [.lst (bs.map D.bl)]) .tuple (.v (.ref S.length)) = some (.v (.tup (bs.map D.bl))) := by
    simp [biE, seqR, lstR, objR, unlk]
  rw [exs_cons, f1, bind_ok', seqK_nx, exs_cons, f2, bind_ok', seqK_nx, ret_1 (d := .tup (bs.map D.bl)) (S' := S ++ [.lst (bs.map D.bl)]) (by simp [e8]), fin_rt, gc_app, hn]
  rfl
/-! _law_same -/
def sameEl (i : Nat) : Ex := .na (.call i) [(.nd .idx [(.var 0), (.var 2)]), (.nd .idx [(.var 1), (.var 2)])]
def sameT (s : String) (i : Nat) : List Sx := [.ite (.or (.not (.nd (.isi (.b s)) [(.var 0)])) (.nd (.cmp .ne) [(.nd (.bi .len) [(.var 0)]), (.nd (.bi .len) [(.var 1)])])) [.ret (.cst (.bl false))] [], .ret (.nd (.bi .all) [(.lc (.var 2) .rng [(.nd (.bi .len) [(.var 1)])] [] (sameEl i) [2])])]
def sameR : List Sx := [.ite (.nd (.cmp .is) [(.var 1), (.cst (.non))]) [.ret (.nd (.cmp .is) [(.var 0), (.cst (.non))])] [], .ite (.nd (.isi (.b "bool")) [(.var 1)]) [.ret (.and (.nd (.isi (.b "bool")) [(.var 0)]) (.nd (.cmp .eq) [(.var 0), (.var 1)]))] [], .ite (.nd (.isi (.b "int")) [(.var 1)]) [.ret (.and (.nd (.isi (.b "int")) [(.var 0)]) (.and (.not (.nd (.isi (.b "bool")) [(.var 0)])) (.nd (.cmp .eq) [(.var 0), (.var 1)])))] [], .ret (.and (.nd (.isi (.b "str")) [(.var 0)]) (.and (.nd (.isi (.b "str")) [(.var 1)]) (.nd (.cmp .eq) [(.var 0), (.var 1)])))]
def sameF (i : Nat) : Fd := ⟨2, 3, .ite (.nd (.isi (.b "tuple")) [(.var 1)]) (sameT "tuple" i) [] :: .ite (.nd (.isi (.b "list")) [(.var 1)]) (sameT "list" i) [] :: sameR⟩
mutual
/-- plain data, no tuple too long -/
def smD : D → Bool
  | .tup ds => decide (ds.length ≤ 1000000) && smDs ds
  | .non => true | .bl _ => true | .int _ => true | .str x => PyData.strOk x | .ref _ => false | .fn _ => false | .cls _ => false
def smDs : List D → Bool
  | [] => true
  | d :: ds => smD d && smDs ds
end
theorem smDs_mem : ∀ {ds : List D}, smDs ds = true → ∀ d ∈ ds, smD d = true
  | [], _, d, h => absurd h (by simp)
  | x :: xs, h, d, hd => by
    rw [smDs, Bool.and_eq_true] at h
    rcases List.mem_cons.mp hd with e | hd
    · rw [e]; exact h.1
    · exact smDs_mem h.2 d hd
theorem dpDs_mem : ∀ {ds : List D}, ∀ d ∈ ds, dpD d ≤ dpDs ds
  | [], d, h => absurd h (by simp)
  | x :: xs, d, hd => by
    rw [dpDs]
    rcases List.mem_cons.mp hd with e | hd
    · rw [e]; omega
    · have := dpDs_mem (ds := xs) d hd
      omega
theorem sameS (h : tb.fs[i]? = some (sameF i)) : ∀ (n k : Nat) (d : D) (S : Store), smD d = true → dpD d ≤ n → runK tb (k + n + 1) i [d, d] S = .ok (.bl true) S := by
  intro n
  induction n with
  | zero =>
    intro k d S hs hd
    rw [run_of h (k + 0) _ _ rfl]
    cases d with
    | tup ds => rw [dpD] at hd; omega
    | ref _ => rw [smD] at hs; cases hs
    | fn _ => rw [smD] at hs; cases hs
    | cls _ => rw [smD] at hs; cases hs
    | str x =>
      have hx : PyData.strOk x = true := by rw [smD] at hs; exact hs
      simp [sameF, sameR, cmpE, isE, eqE_str, hx]
    | non => simp [sameF, sameR, cmpE, isE]
    | bl b => simp [sameF, sameR, cmpE, isE, eqE_bl]
    | int z => simp [sameF, sameR, cmpE, isE, eqE_int]
  | succ n ih =>
    intro k d S hs hd
    cases d with
    | tup ds =>
      rw [run_of h (k + (n + 1)) _ _ rfl]
      rw [smD, Bool.and_eq_true, decide_eq_true_eq] at hs
      rw [dpD] at hd
      have e6 : biE S .len (.v (.tup ds)) = some (.v (.int ds.length)) := rfl
      have hi : dens (cxK tb (k + (n + 1))) [(.nd (.bi .len) [(.var 1)])] [some (.tup ds), some (.tup ds), none] S = .ok [.v (.int ds.length)] S := by simp [e6]
      have e3 : (den (cxK tb (k + (n + 1))) (.nd (.bi .all) [(.lc (.var 2) .rng [(.nd (.bi .len) [(.var 1)])] [] (sameEl i) [2])])).e [some (.tup ds), some (.tup ds), none] S = .ok (.v (.bl (((List.range ds.length).map fun (m : Nat) => D.int (m : Int)).all fun _ => true))) S :=
        all_gen (σ' := [some (.tup ds), some (.tup ds), none]) (fun _ => true) hi (iter_len1 S ds.length (by omega)) rfl rfl (by simp) fun d hd => by
          obtain ⟨m, hm, rfl⟩ := List.mem_map.mp hd
          have hm := List.mem_range.mp hm
          have a1 := atI_get ds m hm
          have a2 := ih k ds[m] S (smDs_mem hs.2 _ (List.getElem_mem hm)) (by
            have := dpDs_mem (ds := ds) ds[m] (List.getElem_mem hm)
            omega)
          have a3 : runK tb (k + (n + 1)) i [ds[m], ds[m]] S = .ok (.bl true) S := a2
          simp [sameEl, idxE, seqR, a1, a3]
      have e4 : (((List.range ds.length).map fun (m : Nat) => D.int (m : Int)).all fun _ => true) = true := by simp
      rw [e4] at e3
      have e5 : (den (cxK tb (k + (n + 1))) (.nd (.isi (.b "tuple")) [(.var 1)])).b [some (.tup ds), some (.tup ds), none] S = .ok true S := by simp
      have e7 : exS (cxK tb (k + (n + 1))) (.ite (.or (.not (.nd (.isi (.b "tuple")) [(.var 0)])) (.nd (.cmp .ne) [(.nd (.bi .len) [(.var 0)]), (.nd (.bi .len) [(.var 1)])])) [.ret (.cst (.bl false))] []) [some (.tup ds), some (.tup ds), none] S = .ok (.nx [some (.tup ds), some (.tup ds), none]) S := by
        simp [e6, cmpE, eqE_int]
      show finE S (exSs (cxK tb (k + (n + 1))) (sameF i).body [some (.tup ds), some (.tup ds), none] S) = _
      simp only [sameF]
      rw [exs_cons, ex_ite, e5, cat_ok', ifK_ap, if_pos rfl]
      simp only [sameT]
      rw [exs_cons, e7, bind_ok', seqK_nx, ret_1 e3]
      simp only [bind_ok', seqK_rt, fin_rt, gc_same]
    | ref _ => rw [smD] at hs; cases hs
    | fn _ => rw [smD] at hs; cases hs
    | cls _ => rw [smD] at hs; cases hs
    | non => exact (ih (k + 1) .non S hs (by rw [dpD]; omega)) ▸ (by rw [show k + (n + 1) + 1 = k + 1 + n + 1 by omega])
    | bl b => exact (ih (k + 1) (.bl b) S hs (by rw [dpD]; omega)) ▸ (by rw [show k + (n + 1) + 1 = k + 1 + n + 1 by omega])
    | int z => exact (ih (k + 1) (.int z) S hs (by rw [dpD]; omega)) ▸ (by rw [show k + (n + 1) + 1 = k + 1 + n + 1 by omega])
    | str x => exact (ih (k + 1) (.str x) S hs (by rw [dpD]; omega)) ▸ (by rw [show k + (n + 1) + 1 = k + 1 + n + 1 by omega])
theorem sm_ints : ∀ xs : List Int, smDs (xs.map D.int) = true
  | [] => by simp [smDs]
  | x :: xs => by rw [List.map_cons, smDs, sm_ints xs]; simp [smD]
theorem sm_bls : ∀ xs : List Bool, smDs (xs.map D.bl) = true
  | [] => by simp [smDs]
  | x :: xs => by rw [List.map_cons, smDs, sm_bls xs]; simp [smD]
theorem sm_tups : ∀ xs : List (List Int), (∀ x ∈ xs, x.length ≤ 1000000) → smDs (xs.map tupI) = true
  | [], _ => by simp [smDs]
  | x :: xs, h => by
    rw [List.map_cons, smDs, sm_tups xs fun y hy => h y (List.mem_cons_of_mem _ hy), tupI, smD, sm_ints, List.length_map, decide_eq_true (h x List.mem_cons_self)]
    rfl
end
end Ev
set_option Elab.async false
set_option linter.all false
set_option maxRecDepth 100000
set_option autoImplicit false
set_option maxHeartbeats 4000000
/-! Sp, part F: clauses drawn, clause books drawn. -/
namespace Ev
open PySem
theorem asc_pw {α : Type} {lt : α → α → Bool} : ∀ {xs : List α}, xs.Pairwise (fun a b => lt a b = true) → asc lt xs = true
  | [], _ => rfl
  | [_], _ => rfl
  | a :: b :: r, h => by
    obtain ⟨h1, h2⟩ := List.pairwise_cons.mp h
    rw [asc, h1 b List.mem_cons_self, asc_pw h2]
    rfl
theorem clause_sorted {m : Int} {xs : List Int} (hb : ∀ x ∈ xs, 0 ≤ x ∧ x < 2 * m) (hn : (xs.map (· / 2)).Nodup) : clauseI m (sortI xs) = true := by
  have hp := sortI_perm xs
  have hs := sortI_sorted xs
  have hn2 : ((sortI xs).map (· / 2)).Nodup := (hp.map (· / 2)).nodup_iff.mpr hn
  have hn3 : (sortI xs).Pairwise (fun a b => a / 2 ≠ b / 2) := List.pairwise_map.mp hn2
  have hq : (sortI xs).Pairwise (fun a b => a ≤ b ∧ a / 2 ≠ b / 2) := hs.and hn3
  have h1 : asc ltI (sortI xs) = true := asc_pw (hq.imp fun {a b} h => decide_eq_true (by omega))
  have h2 : asc ltI ((sortI xs).map (· / 2)) = true := asc_pw (List.pairwise_map.mpr (hq.imp fun {a b} h => decide_eq_true (by omega)))
  have h3 : (sortI xs).all (fun i => decide (0 ≤ i) && decide (i < 2 * m)) = true := List.all_eq_true.mpr fun x hx => by
    obtain ⟨a, b⟩ := hb x (hp.mem_iff.mp hx)
    rw [decide_eq_true a, decide_eq_true b]
    rfl
  rw [clauseI, h1, h2, h3]
  rfl
theorem clauses_sorted {m : Int} {xs : List (List Int)} (hb : ∀ x ∈ xs, clauseI m x = true) (hn : xs.Nodup) : clausesL m (sortL xs) = true := by
  have hp := sortL_perm xs
  have hs := sortL_sorted xs
  have hn2 : (sortL xs).Nodup := hp.nodup_iff.mpr hn
  have hq := hs.and hn2
  have h1 : asc HT.lexLt (sortL xs) = true := asc_pw (hq.imp fun {a b} h => by
    cases e : HT.lexLt a b with
    | true => rfl
    | false => exact absurd (lex_tot a b e h.1) h.2)
  have h2 : (sortL xs).all (clauseI m) = true := List.all_eq_true.mpr fun x hx => hb x (hp.mem_iff.mp hx)
  rw [clausesL, h1, h2]
  rfl
theorem sortD_ints (xs : List Int) : sortD (xs.map D.int) = some ((sortI xs).map D.int) := by
  unfold sortD
  rw [intsOf_ints]
theorem sortD_tups (xs : List (List Int)) : sortD (xs.map tupI) = some ((sortL xs).map tupI) := by
  cases xs with
  | nil => rfl
  | cons x xs =>
    have e : intsOf ((x :: xs).map tupI) = none := rfl
    unfold sortD
    rw [e]
    dsimp only
    rw [tupsOf_tups]
    rfl
theorem cut1 (d : D) (ds : List D) (h : Option Int) : ∃ q, cut (d :: ds) (some 1) h = ds.take q := by
  unfold cut
  have e : HT.sIx (d :: ds).length 0 (some 1) = 1 := by
    have := HT.sIx_nat (d :: ds).length 0 1
    rw [List.length_cons] at this ⊢
    have e2 : min 1 (ds.length + 1) = 1 := by omega
    rw [e2] at this
    exact this
  rw [e]
  exact ⟨_, rfl⟩
section
variable {tb : Tb} {i i1 i2 i3 i4 i5 : Nat}
/-! _law_clause -/
def clB : List Sx := [.ite (.nd (.bi .all) [(.lc (.var 6) .seq [(.var 4)] [] (.nd (.cmp .ne) [(.nd (.op .fdiv) [(.var 5), (.cst (.int 2))]), (.nd (.op .fdiv) [(.var 6), (.cst (.int 2))])]) [6])]) [.ex (.meth .append (.var 4) [(.var 5)])] []]
def clX (iR : Nat) : Sx := .set (.var 3) (.na (.call iR) [(.var 0), (.nd (.op .add) [(.na .lst [(.nd (.op .add) [(.var 2), (.cst (.int 1))])]), (.nd (.op .mul) [(.na .lst [(.nd (.op .mul) [(.cst (.int 2)), (.var 1)])]), (.var 2)])])])
def clF (iR : Nat) : Fd := ⟨3, 7, [clX iR, .set (.var 4) (.na .lst []), .fr (.var 5) .seq [(.sl (.var 3) (.cst (.int 1)) (.nd (.op .add) [(.cst (.int 1)), (.nd .idx [(.var 3), (.cst (.int 0))])]))] clB, .ret (.nd (.bi .tuple) [(.nd (.bi .sorted) [(.var 4)])])]⟩
theorem Bnd.rep : ∀ {rs : List Int} {n : Nat} {b : Int}, Bnd rs (List.replicate n b) → rs.length = n ∧ ∀ x ∈ rs, 0 ≤ x ∧ x < b
  | [], 0, _, _ => ⟨rfl, fun x h => absurd h (by simp)⟩
  | [], n + 1, _, h => h.elim
  | _ :: _, 0, _, h => h.elim
  | r :: rs, n + 1, b, h => by
    obtain ⟨h1, h2⟩ := h.2.rep
    refine ⟨by simp [h1], fun x hx => ?_⟩
    rcases List.mem_cons.mp hx with e | hx
    · rw [e]; exact h.1
    · exact h2 x hx
theorem cl_step (cx : Cxt) (S : Store) (kept : List Int) (x0 x1 x2 x3 x6 : Option D) (z : Int) (hl : kept.length ≤ 1000) :
    exSs cx clB [x0, x1, x2, x3, some (.ref S.length), some (.int z), x6] (S ++ [.lst (kept.map D.int)]) =
      .ok (.nx [x0, x1, x2, x3, some (.ref S.length), some (.int z), x6]) (S ++ [.lst ((if kept.all (fun y => decide (z / 2 ≠ y / 2)) then kept ++ [z] else kept).map D.int)]) := by
  have hw : (S ++ [O.lst (kept.map D.int)])[S.length]? = some (.lst (kept.map D.int)) := by simp
  have e1 : dens cx [(.var 4)] [x0, x1, x2, x3, some (.ref S.length), some (.int z), x6] (S ++ [.lst (kept.map D.int)]) = .ok [.v (.ref S.length)] (S ++ [.lst (kept.map D.int)]) := by simp
  have e2 : iterOf (S ++ [.lst (kept.map D.int)]) .seq [.v (.ref S.length)] = some (kept.map D.int, fun S' => decide (S'[S.length]? = (S ++ [O.lst (kept.map D.int)])[S.length]?)) := by
    show (lstR (S ++ [.lst (kept.map D.int)]) (.v (.ref S.length))).map _ = _
    have e : lstR (S ++ [.lst (kept.map D.int)]) (.v (.ref S.length)) = some (kept.map D.int) := by simp [lstR, objR, unlk]
    rw [e]
    rfl
  have m5 : ∀ z : Int, opI .fdiv z 2 = some (z / 2) := fun z => opI_fdiv (by omega) (by omega)
  have e3 := all_gen (cx := cx) (σ' := [x0, x1, x2, x3, some (.ref S.length), some (.int z), none]) (v := 6) (own := [6]) (el := .nd (.cmp .ne) [(.nd (.op .fdiv) [(.var 5), (.cst (.int 2))]), (.nd (.op .fdiv) [(.var 6), (.cst (.int 2))])]) (fun d => decide (z / 2 ≠ dIn d / 2)) e1 e2 (by simp) (by rfl) (by simp) (fun d hd => by
    obtain ⟨y, _, rfl⟩ := List.mem_map.mp hd
    simp [m5, cmpE, eqE_int, dIn]
    by_cases hh : z / 2 = y / 2 <;> simp [hh])
  have e4 : (kept.map D.int).all (fun d => decide (z / 2 ≠ dIn d / 2)) = kept.all fun y => decide (z / 2 ≠ y / 2) := by
    rw [List.all_map]
    rfl
  rw [e4] at e3
  have e5 : meOk (S ++ [.lst (kept.map D.int)]) .append (.v (.ref S.length)) = true := by simp [meOk, lstW, objW]
  have e6 : ∀ d, meE (S ++ [.lst (kept.map D.int)]) .append (.v (.ref S.length)) [d] = .ok (.v .non) (S ++ [.lst (kept.map D.int ++ [d])]) := fun d => by
    have hs : kept.length < PySem.sizeLine := by rw [size_line]; omega
    simp [meE, hs]
  simp only [clB]
  rw [exs_cons, ex_ite, denb_nd, e3]
  cases hc : kept.all fun y => decide (z / 2 ≠ y / 2) with
  | true => simp [e5, e6]
  | false => simp
theorem rep_one (S : Store) (d : D) (n : Nat) (h : n ≤ 900) : opE S .mul (.t (.lst [d])) (.v (.int n)) = some (.t (.lst (List.replicate n d))) := by
  show (match lstW S (.t (.lst [d])) with
    | some xs => if -(2 ^ 63) ≤ (n : Int) ∧ (n : Int) < 2 ^ 63 ∧ xs.length * (n : Int).toNat ≤ sizeLine then some (T.t (.lst (List.replicate (n : Int).toNat xs).flatten)) else none
    | _ => none) = _
  have e : lstW S (.t (.lst [d])) = some [d] := rfl
  rw [e]
  dsimp only
  rw [if_pos ⟨by omega, by omega, by rw [size_line]; simp; omega⟩]
  simp
theorem cat_lst (S : Store) (xs ys : List D) (h : xs.length + ys.length ≤ 1000) : opE S .add (.t (.lst xs)) (.t (.lst ys)) = some (.t (.lst (xs ++ ys))) := by
  show (match lstW S (.t (.lst xs)), lstW S (.t (.lst ys)) with
    | some xs, some ys => if xs.length + ys.length ≤ sizeLine then some (T.t (.lst (xs ++ ys))) else none
    | _, _ => none) = _
  have e : ∀ zs, lstW S (.t (.lst zs)) = some zs := fun zs => rfl
  rw [e, e]
  dsimp only
  rw [if_pos (by rw [size_line]; omega)]
theorem nd_2 {cx : Cxt} {k : Kd} {e e' : Ex} {σ : Env} {S S1 S2 : Store} {t t' : T} (h : (den cx e).e σ S = .ok t S1) (h' : (den cx e').e σ S1 = .ok t' S2) : (den cx (.nd k [e, e'])).e σ S = app cx S2 k [t, t'] := by
  rw [den_nd, dens_cons, h, bind_ok', cons1_ap, dens_1 h', bind_ok', cons2_ap, bind_ok', kNd_ap]
theorem op_2 {cx : Cxt} {o : Op2} {e e' : Ex} {σ : Env} {S S1 S2 : Store} {t t' r : T} (h : (den cx e).e σ S = .ok t S1) (h' : (den cx e').e σ S1 = .ok t' S2) (hr : opE S2 o t t' = some r) : (den cx (.nd (.op o) [e, e'])).e σ S = .ok r S2 := by
  rw [nd_2 h h', app_op, hr, ofO_some]
theorem ded_1 {cx : Cxt} {e : Ex} {σ : Env} {S S1 : Store} {t : T} (h : (den cx e).e σ S = .ok t S1) : ded cx [e] σ S = .ok [(alloc t S1).1] (alloc t S1).2 := by
  rw [ded_cons, h, ralloc, bind_ok', con1_ap, ded_nil', bind_ok', cons2_ap]
theorem ded_c {cx : Cxt} {e : Ex} {es : List Ex} {σ : Env} {S S1 S2 : Store} {t : T} {ds : List D} (h : (den cx e).e σ S = .ok t S1) (h' : ded cx es σ (alloc t S1).2 = .ok ds S2) : ded cx (e :: es) σ S = .ok ((alloc t S1).1 :: ds) S2 := by
  rw [ded_cons, h, ralloc, bind_ok', con1_ap, h', bind_ok', cons2_ap]
theorem call_d {cx : Cxt} {f : Nat} {es : List Ex} {σ : Env} {S S1 S2 : Store} {ds : List D} {d : D} (h : ded cx es σ S = .ok ds S1) (h' : cx.call f ds S1 = .ok d S2) : (den cx (.na (.call f) es)).e σ S = .ok (.v d) S2 := by
  rw [den_na, h, bind_ok', kNa_ap, appA_call, h', bind_ok', valK1_ap]
theorem set_v {cx : Cxt} {j : Nat} {e : Ex} {σ : Env} {S S1 : Store} {t : T} (h : (den cx e).e σ S = .ok t S1) (hj : j < σ.length) : exS cx (.set (.var j) e) σ S = .ok (.nx (σ.set j (some (alloc t S1).1))) (alloc t S1).2 := by
  rw [ex_set, h, cat_ok', setK_ap, if_pos hj]
theorem cl_f1 (cx : Cxt) (S : Store) (cell m : Int) (most : Nat) (hq : most ≤ 900) (d : D) (S2 : Store)
    (eR : cx.call i1 [.int cell, .ref S.length] (S ++ [.lst (D.int ((most : Int) + 1) :: List.replicate most (D.int (2 * m)))]) = .ok d S2) :
    exS cx (clX i1) [some (.int cell), some (.int m), some (.int most), none, none, none, none] S = .ok (.nx [some (.int cell), some (.int m), some (.int most), some d, none, none, none]) S2 := by
  have e1 := rep_one S (D.int (2 * m)) most hq
  have e2 := cat_lst S [D.int ((most : Int) + 1)] (List.replicate most (D.int (2 * m))) (by simp; omega)
  rw [List.singleton_append] at e2
  have t1 : (den cx (.na .lst [(.nd (.op .add) [(.var 2), (.cst (.int 1))])])).e [some (.int cell), some (.int m), some (.int most), none, none, none, none] S = .ok (.t (.lst [D.int ((most : Int) + 1)])) S := by simp [size_line]
  have t2 : (den cx (.na .lst [(.nd (.op .mul) [(.cst (.int 2)), (.var 1)])])).e [some (.int cell), some (.int m), some (.int most), none, none, none, none] S = .ok (.t (.lst [D.int (2 * m)])) S := by simp [size_line]
  have t3 := op_2 t1 (op_2 t2 (show (den cx (.var 2)).e [some (.int cell), some (.int m), some (.int most), none, none, none, none] S = .ok (.v (.int most)) S from rfl) e1) e2
  have t4 := ded_c (cx := cx) (show (den cx (.var 0)).e [some (.int cell), some (.int m), some (.int most), none, none, none, none] S = .ok (.v (.int cell)) S from rfl) (ded_1 t3)
  exact set_v (call_d t4 eR) (by simp)
theorem cl_sl (cx : Cxt) (S : Store) (n : Nat) (r0 : Int) (rest : List Int) (x0 x1 x2 x4 x5 x6 : Option D) (hr : S[n]? = some (.lst ((r0 :: rest).map D.int))) :
    ∃ q, dens cx [(.sl (.var 3) (.cst (.int 1)) (.nd (.op .add) [(.cst (.int 1)), (.nd .idx [(.var 3), (.cst (.int 0))])]))] [x0, x1, x2, some (.ref n), x4, x5, x6] S = .ok [.t (.lst ((rest.take q).map D.int))] S := by
  obtain ⟨q, hcut⟩ := cut1 (.int r0) (rest.map D.int) (some (1 + r0))
  refine ⟨q, ?_⟩
  have e4 : idxE S (.v (.ref n)) (.v (.int 0)) = some (.int r0) := by
    have e0 : seqR S (.v (.ref n)) = some ((r0 :: rest).map D.int) := by simp [seqR, lstR, objR, unlk, hr]
    have e1 := atI_get ((r0 :: rest).map D.int) 0 (by simp)
    show (match seqR S (.v (.ref n)) with
      | some ds => L2.atI ds 0
      | none => match objR S (.v (.ref n)) with
        | some (.dK kvs) => valK (Sum.inl 0 : L2.Key) kvs
        | _ => none) = _
    rw [e0]
    exact e1
  have e5 : slcE S (.v (.ref n)) (some 1) (some (1 + r0)) = some (.t (.lst ((rest.take q).map D.int))) := by
    have e0 : lstR S (.v (.ref n)) = some ((r0 :: rest).map D.int) := by simp [lstR, objR, unlk, hr]
    show (lstR S (.v (.ref n))).map _ = _
    rw [e0, Option.map_some, List.map_cons, hcut, List.map_take]
  refine dens_1 ?_
  simp [e4, e5, intO]
theorem clS (hR : tb.fs[i1]? = some rowF) (h : tb.fs[i]? = some (clF i1)) (k : Nat) (cell : Int) (m : Int) (most : Nat) (S : Store) (hm : 1 ≤ m ∧ m ≤ 1000) (hq : most ≤ 900) :
    ∃ xs : List Int, clauseI m xs = true ∧ xs.length ≤ most ∧ runK tb (k + 2) i [.int cell, .int m, .int most] S = .ok (.tup (xs.map D.int)) S := by
  rw [run_of h (k + 1) _ _ rfl]
  have hbs : ∀ x ∈ ((most : Int) + 1) :: List.replicate most (2 * m), 0 < x ∧ x < 1073741824 := fun x hx => by
    rcases List.mem_cons.mp hx with e | hx
    · rw [e]; omega
    · rw [(List.mem_replicate.mp hx).2]; omega
  obtain ⟨row, hB, eR⟩ := rowS hR k cell S.length (((most : Int) + 1) :: List.replicate most (2 * m)) (S ++ [.lst ((((most : Int) + 1) :: List.replicate most (2 * m)).map D.int)]) (by simp) hbs (by simp; omega)
  cases row with
  | nil => exact hB.elim
  | cons r0 rest =>
    obtain ⟨hr0, hB2⟩ := hB
    obtain ⟨hl, hrest⟩ := hB2.rep
    obtain ⟨S1, hS1⟩ : ∃ S1, S1 = S ++ [O.lst ((((most : Int) + 1) :: List.replicate most (2 * m)).map D.int)] := ⟨_, rfl⟩
    obtain ⟨S2, hS2⟩ : ∃ S2, S2 = S1 ++ [O.lst ((r0 :: rest).map D.int)] := ⟨_, rfl⟩
    rw [← hS1] at eR
    have hrow : S2[S1.length]? = some (.lst ((r0 :: rest).map D.int)) := by rw [hS2]; simp
    have f1 : exS (cxK tb (k + 1)) (clX i1) [some (.int cell), some (.int m), some (.int most), none, none, none, none] S = .ok (.nx [some (.int cell), some (.int m), some (.int most), some (.ref S1.length), none, none, none]) S2 := by
      refine cl_f1 (cxK tb (k + 1)) S cell m most hq (.ref S1.length) S2 ?_
      rw [hS2]
      rw [hS1] at eR ⊢
      simp only [List.map_cons, List.map_replicate] at eR ⊢
      exact eR
    have f2 : exS (cxK tb (k + 1)) (.set (.var 4) (.na .lst [])) [some (.int cell), some (.int m), some (.int most), some (.ref S1.length), none, none, none] S2 = .ok (.nx [some (.int cell), some (.int m), some (.int most), some (.ref S1.length), some (.ref S2.length), none, none]) (S2 ++ [.lst []]) := by simp
    obtain ⟨q, e3⟩ := cl_sl (cxK tb (k + 1)) (S2 ++ [.lst []]) S1.length r0 rest (some (.int cell)) (some (.int m)) (some (.int most)) (some (.ref S2.length)) none none (app_at hrow [O.lst []])
    obtain ⟨σ', S', e7, kept, x5, q1, q2, q3, q4, q5⟩ := frL_ix (v := 5) (body := exSs (cxK tb (k + 1)) clB) (g := fun _ => true) ((rest.take q).map D.int) (fun j σ S' => ∃ (kept : List Int) (x5 : Option D), kept.length ≤ j ∧ (∀ x ∈ kept, 0 ≤ x ∧ x < 2 * m) ∧ (kept.map (· / 2)).Nodup ∧ σ = [some (.int cell), some (.int m), some (.int most), some (.ref S1.length), some (.ref S2.length), x5, none] ∧ S' = S2 ++ [.lst (kept.map D.int)]) (by
      rintro j hj σ S' ⟨kept, x5, q1, q2, q3, rfl, rfl⟩
      rw [List.length_map, List.length_take] at hj
      have hz : ((rest.take q).map D.int)[j]'(by rw [List.length_map, List.length_take]; exact hj) = D.int ((rest.take q)[j]'(by rw [List.length_take]; exact hj)) := List.getElem_map ..
      have hmem : (rest.take q)[j]'(by rw [List.length_take]; exact hj) ∈ rest := List.mem_of_mem_take (List.getElem_mem _)
      generalize (rest.take q)[j]'(by rw [List.length_take]; exact hj) = z at hz hmem
      have hk := cl_step (cxK tb (k + 1)) S2 kept (some (.int cell)) (some (.int m)) (some (.int most)) (some (.ref S1.length)) none z (by omega)
      refine ⟨rfl, by simp, _, _, .inl (by rw [hz]; exact hk), _, _, ?_, ?_, ?_, rfl, rfl⟩
      · split
        · simp; omega
        · omega
      · intro x hx
        split at hx
        · rcases List.mem_append.mp hx with hx | hx
          · exact q2 x hx
          · rw [List.mem_singleton.mp hx]; exact hrest z hmem
        · exact q2 x hx
      · split
        · rename_i hc
          rw [List.map_append, List.map_singleton]
          refine List.nodup_append.mpr ⟨q3, (by simp), fun a ha b hb => ?_⟩
          obtain ⟨y, hy, rfl⟩ := List.mem_map.mp ha
          rw [List.mem_singleton.mp hb]
          have := of_decide_eq_true (List.all_eq_true.mp hc y hy)
          exact fun e => this e.symm
        · exact q3) (fun _ _ _ => rfl) [some (.int cell), some (.int m), some (.int most), some (.ref S1.length), some (.ref S2.length), none, none] (S2 ++ [.lst []]) ⟨[], none, Nat.zero_le _, fun x h => absurd h (by simp), List.nodup_nil, rfl, rfl⟩
    subst q4 q5
    rw [List.length_map, List.length_take] at q1
    refine ⟨sortI kept, clause_sorted q2 q3, ?_, ?_⟩
    · have := (sortI_perm kept).length_eq
      omega
    · show finE S (exSs (cxK tb (k + 1)) (clF i1).body [some (.int cell), some (.int m), some (.int most), none, none, none, none] S) = _
      have f3 : exS (cxK tb (k + 1)) (.fr (.var 5) .seq [(.sl (.var 3) (.cst (.int 1)) (.nd (.op .add) [(.cst (.int 1)), (.nd .idx [(.var 3), (.cst (.int 0))])]))] clB) [some (.int cell), some (.int m), some (.int most), some (.ref S1.length), some (.ref S2.length), none, none] (S2 ++ [.lst []]) = .ok (.nx [some (.int cell), some (.int m), some (.int most), some (.ref S1.length), some (.ref S2.length), x5, none]) (S2 ++ [.lst (kept.map D.int)]) := by
        rw [ex_fr, e3, cat_ok', frK_ap, iter_t, frO_some]
        exact e7
      have e8 : biE (S2 ++ [.lst (kept.map D.int)]) .sorted (.v (.ref S2.length)) = some (.t (.lst ((sortI kept).map D.int))) := by
        have e : lstR (S2 ++ [.lst (kept.map D.int)]) (.v (.ref S2.length)) = some (kept.map D.int) := by simp [lstR, objR, unlk]
        rw [bi_sorted e, sortD_ints]
        rfl
      have e9 : biE (S2 ++ [.lst (kept.map D.int)]) .tuple (.t (.lst ((sortI kept).map D.int))) = some (.v (.tup ((sortI kept).map D.int))) := rfl
      simp only [clF]
      rw [exs_cons, f1, bind_ok', seqK_nx, exs_cons, f2, bind_ok', seqK_nx, exs_cons, f3, bind_ok', seqK_nx, ret_1 (d := .tup ((sortI kept).map D.int)) (S' := S2 ++ [.lst (kept.map D.int)]) (by simp [e8, e9]), fin_rt, hS2, hS1]
      simp only [List.append_assoc]
      rw [gc_app, if_pos (noRef_of _ _ (by rw [plD]; exact pl_ints _))]
end
end Ev
set_option Elab.async false
set_option linter.all false
set_option maxRecDepth 100000
set_option autoImplicit false
set_option maxHeartbeats 4000000
/-! Sp, part G: rows of clauses drawn, clause books drawn. -/
namespace Ev
open PySem
section
variable {tb : Tb} {i i1 i2 i3 i4 i5 : Nat}
theorem var_v {cx : Cxt} {j : Nat} {σ : Env} {S : Store} {d : D} (h : σ[j]? = some (some d)) : (den cx (.var j)).e σ S = .ok (.v d) S := by
  rw [den_var, h]
  rfl
theorem cst_v {cx : Cxt} {σ : Env} {S : Store} {d : D} : (den cx (.cst d)).e σ S = .ok (.v d) S := rfl
theorem idx_2 {cx : Cxt} {e e' : Ex} {σ : Env} {S S1 S2 : Store} {t t' : T} {d : D} (h : (den cx e).e σ S = .ok t S1) (h' : (den cx e').e σ S1 = .ok t' S2) (hr : idxE S2 t t' = some d) : (den cx (.nd .idx [e, e'])).e σ S = .ok (.v d) S2 := by
  rw [nd_2 h h', app_idx, hr]
  rfl
theorem lst_1 {cx : Cxt} {es : List Ex} {σ : Env} {S S1 : Store} {ds : List D} (h : ded cx es σ S = .ok ds S1) (hl : ds.length ≤ 1000) : (den cx (.na .lst es)).e σ S = .ok (.t (.lst ds)) S1 := by
  rw [den_na, h, bind_ok', kNa_ap, appA_lst, if_pos (by rw [size_line]; omega)]
theorem tup_1 {cx : Cxt} {es : List Ex} {σ : Env} {S S1 : Store} {ds : List D} (h : ded cx es σ S = .ok ds S1) (hl : ds.length ≤ 1000) : (den cx (.na .tup es)).e σ S = .ok (.v (.tup ds)) S1 := by
  rw [den_na, h, bind_ok', kNa_ap, appA_tup, if_pos (by rw [size_line]; omega)]
theorem idx_lst {S : Store} {n : Nat} {ds : List D} {j : Int} {d : D} (hn : S[n]? = some (.lst ds)) (h : L2.atI ds j = some d) : idxE S (.v (.ref n)) (.v (.int j)) = some d := by
  have e0 : seqR S (.v (.ref n)) = some ds := by simp [seqR, lstR, objR, unlk, hn]
  show (match seqR S (.v (.ref n)) with
    | some ds => L2.atI ds j
    | none => match objR S (.v (.ref n)) with
      | some (.dK kvs) => valK (Sum.inl j : L2.Key) kvs
      | _ => none) = _
  rw [e0]
  exact h
/-! _law_clauses -/
def csB (iC : Nat) : List Sx := [.set (.var 7) (.na (.call iC) [(.nd .idx [(.var 4), (.nd (.op .add) [(.cst (.int 1)), (.var 6)])]), (.var 1), (.var 3)]), .ite (.and (.nd (.cmp .nmem) [(.var 7), (.var 5)]) (.or (.nd (.cmp .ne) [(.var 7), (.na .tup [])]) (.nd (.cmp .eq) [(.nd (.op .mod) [(.nd .idx [(.var 4), (.nd (.op .add) [(.cst (.int 1)), (.var 6)])]), (.cst (.int 11))]), (.cst (.int 0))]))) [.ex (.meth .append (.var 5) [(.var 7)])] []]
def csF (iR iC : Nat) : Fd := ⟨4, 8, [.set (.var 4) (.na (.call iR) [(.var 0), (.nd (.op .add) [(.na .lst [(.nd (.op .add) [(.var 2), (.cst (.int 1))])]), (.nd (.op .mul) [(.na .lst [(.nd (.op .pow) [(.cst (.int 10)), (.cst (.int 9))])]), (.var 2)])])]), .set (.var 5) (.na .lst []), .fr (.var 6) .rng [(.nd .idx [(.var 4), (.cst (.int 0))])] (csB iC), .ret (.nd (.bi .tuple) [(.nd (.bi .sorted) [(.var 5)])])]⟩
theorem app_ref (S : Store) (ds : List D) (d : D) (h : ds.length ≤ 1000) : meE (S ++ [.lst ds]) .append (.v (.ref S.length)) [d] = .ok (.v .non) (S ++ [.lst (ds ++ [d])]) := by
  have hs : ds.length < PySem.sizeLine := by rw [size_line]; omega
  simp [meE, hs]
theorem app_stm {cx : Cxt} {j q : Nat} {σ : Env} {S : Store} {ds : List D} {d : D} (h : ds.length ≤ 1000) (h1 : σ[j]? = some (some (.ref S.length))) (h2 : σ[q]? = some (some d)) :
    exS cx (.ex (.meth .append (.var j) [(.var q)])) σ (S ++ [.lst ds]) = .ok (.nx σ) (S ++ [.lst (ds ++ [d])]) := by
  have e2 : meOk (S ++ [.lst ds]) .append (.v (.ref S.length)) = true := by simp [meOk, lstW, objW]
  rw [ex_ex, den_meth, var_v h1, bind_ok', met1_ap, if_pos e2, ded_1 (var_v h2), bind_ok', met2_ap, alloc_v, app_ref S ds d h, cat_ok', exK_ap]
theorem cs_step (hR : tb.fs[i1]? = some rowF) (hC : tb.fs[i2]? = some (clF i1)) (k : Nat) (S : Store) (found : List (List Int)) (x0 x2 x7 : Option D) (m : Int) (size dg : Nat) (row : List Int) (j : Nat) (hm : 1 ≤ m ∧ m ≤ 1000) (hq : size ≤ 900) (hl : found.length ≤ 1000)
    (hdg : S[dg]? = some (.lst (row.map D.int))) (hj : 1 + j < row.length) :
    ∃ c : List Int, clauseI m c = true ∧ c.length ≤ size ∧ ∃ b : Bool, (b = true → c ∉ found) ∧ exSs (cxK tb (k + 2)) (csB i2) [x0, some (.int m), x2, some (.int size), some (.ref dg), some (.ref S.length), some (.int (j : Int)), x7] (S ++ [.lst (found.map tupI)]) =
      .ok (.nx [x0, some (.int m), x2, some (.int size), some (.ref dg), some (.ref S.length), some (.int (j : Int)), some (tupI c)]) (S ++ [.lst ((if b = true then found ++ [c] else found).map tupI)]) := by
  have hdg' := app_at hdg [O.lst (found.map tupI)]
  have e1 : idxE (S ++ [.lst (found.map tupI)]) (.v (.ref dg)) (.v (.int (1 + (j : Int)))) = some (.int row[1 + j]) := idx_lst hdg' (by
    have e : (1 + (j : Int)) = ((1 + j : Nat) : Int) := by omega
    rw [e, atI_get _ (1 + j) (by rw [List.length_map]; exact hj), List.getElem_map])
  obtain ⟨c, hc1, hc2, hc3⟩ := clS hR hC k row[1 + j] m size (S ++ [.lst (found.map tupI)]) hm hq
  refine ⟨c, hc1, hc2, ?_⟩
  have e2 : ∀ (σ : Env), σ[4]? = some (some (.ref dg)) → σ[6]? = some (some (.int (j : Int))) → (den (cxK tb (k + 2)) (.nd .idx [(.var 4), (.nd (.op .add) [(.cst (.int 1)), (.var 6)])])).e σ (S ++ [.lst (found.map tupI)]) = .ok (.v (.int row[1 + j])) (S ++ [.lst (found.map tupI)]) := fun σ h4 h6 =>
    idx_2 (var_v h4) (op_2 cst_v (var_v h6) (r := .v (.int (1 + (j : Int)))) (by rw [opE_int, opI_add]; rfl)) e1
  have f1 : exS (cxK tb (k + 2)) (.set (.var 7) (.na (.call i2) [(.nd .idx [(.var 4), (.nd (.op .add) [(.cst (.int 1)), (.var 6)])]), (.var 1), (.var 3)])) [x0, some (.int m), x2, some (.int size), some (.ref dg), some (.ref S.length), some (.int (j : Int)), x7] (S ++ [.lst (found.map tupI)]) =
      .ok (.nx [x0, some (.int m), x2, some (.int size), some (.ref dg), some (.ref S.length), some (.int (j : Int)), some (tupI c)]) (S ++ [.lst (found.map tupI)]) :=
    set_v (call_d (ds := [.int row[1 + j], .int m, .int size]) (ded_c (e2 _ rfl rfl) (ded_c (var_v rfl) (ded_1 (var_v rfl)))) hc3) (by simp)
  have hmem : lstR (S ++ [.lst (found.map tupI)]) (.v (.ref S.length)) = some (found.map tupI) := by simp [lstR, objR, unlk]
  have e3 : memE (S ++ [.lst (found.map tupI)]) (.v (tupI c)) (.v (.ref S.length)) = some ((found.map tupI).any fun z => eqP z (tupI c)) := memE_lst (pl_tupI c) (by rw [dp_tupI]; omega) hmem (pl_tups found) (by have := dp_tups found; omega)
  have e4 : ((found.map tupI).any fun z => eqP z (tupI c)) = decide (c ∈ found) := by
    rw [Bool.eq_iff_iff, List.any_eq_true, decide_eq_true_eq]
    constructor
    · rintro ⟨z, hz, he⟩
      obtain ⟨y, hy, rfl⟩ := List.mem_map.mp hz
      have := (eqP_eq true _ _ (pl_tupI y) (pl_tupI c) (ok_tupI y) (ok_tupI c)).mp he
      rw [← tupI_inj this]
      exact hy
    · intro h
      exact ⟨tupI c, List.mem_map.mpr ⟨c, h, rfl⟩, eqP_self (pl_tupI c)⟩
  rw [e4] at e3
  have e5 : (den (cxK tb (k + 2)) (.nd (.cmp .nmem) [(.var 7), (.var 5)])).b [x0, some (.int m), x2, some (.int size), some (.ref dg), some (.ref S.length), some (.int (j : Int)), some (tupI c)] (S ++ [.lst (found.map tupI)]) = .ok (!decide (c ∈ found)) (S ++ [.lst (found.map tupI)]) := by
    rw [denb_nd, nd_2 (var_v rfl) (var_v rfl), app_cmp, own_nmem, cmpF_none]
    show (ofO (S ++ [.lst (found.map tupI)]) (((memE (S ++ [.lst (found.map tupI)]) (.v (tupI c)) (.v (.ref S.length))).map (!·)).map fun c => T.v (.bl c))).bind truK = _
    rw [e3]
    rfl
  have e6 : ∃ b, (den (cxK tb (k + 2)) (.or (.nd (.cmp .ne) [(.var 7), (.na .tup [])]) (.nd (.cmp .eq) [(.nd (.op .mod) [(.nd .idx [(.var 4), (.nd (.op .add) [(.cst (.int 1)), (.var 6)])]), (.cst (.int 11))]), (.cst (.int 0))]))).b [x0, some (.int m), x2, some (.int size), some (.ref dg), some (.ref S.length), some (.int (j : Int)), some (tupI c)] (S ++ [.lst (found.map tupI)]) = .ok b (S ++ [.lst (found.map tupI)]) := by
    have g1 : (den (cxK tb (k + 2)) (.nd (.cmp .ne) [(.var 7), (.na .tup [])])).b [x0, some (.int m), x2, some (.int size), some (.ref dg), some (.ref S.length), some (.int (j : Int)), some (tupI c)] (S ++ [.lst (found.map tupI)]) = .ok (!decide (c = [])) (S ++ [.lst (found.map tupI)]) := by
      rw [denb_nd, nd_2 (var_v rfl) (tup_1 (ds := []) rfl (by simp)), app_cmp, show (T.v (tupI c)) = .v (.tup (c.map D.int)) from rfl, own_tup, cmpF_none]
      show (ofO (S ++ [.lst (found.map tupI)]) (((eqE (S ++ [.lst (found.map tupI)]) (.v (tupI c)) (.v (tupI []))).map (!·)).map fun c => T.v (.bl c))).bind truK = _
      rw [eqE_tupI]
      rfl
    have g2 : (den (cxK tb (k + 2)) (.nd (.cmp .eq) [(.nd (.op .mod) [(.nd .idx [(.var 4), (.nd (.op .add) [(.cst (.int 1)), (.var 6)])]), (.cst (.int 11))]), (.cst (.int 0))])).b [x0, some (.int m), x2, some (.int size), some (.ref dg), some (.ref S.length), some (.int (j : Int)), some (tupI c)] (S ++ [.lst (found.map tupI)]) = .ok (decide (row[1 + j] % 11 = 0)) (S ++ [.lst (found.map tupI)]) := by
      rw [denb_nd, nd_2 (op_2 (e2 _ rfl rfl) cst_v (r := .v (.int (row[1 + j] % 11))) (by rw [opE_int, opI_mod (by omega)]; rfl)) cst_v, app_cmp, own_int, cmpF_none]
      show (ofO (S ++ [.lst (found.map tupI)]) ((eqE (S ++ [.lst (found.map tupI)]) (.v (.int (row[1 + j] % 11))) (.v (.int 0))).map fun c => T.v (.bl c))).bind truK = _
      rw [eqE_int]
      rfl
    rw [denb_or, g1, bind_ok', bOr_ap, g2]
    split
    · exact ⟨_, rfl⟩
    · exact ⟨_, rfl⟩
  obtain ⟨b, e6⟩ := e6
  refine ⟨!decide (c ∈ found) && b, fun hb => ?_, ?_⟩
  · rw [Bool.and_eq_true] at hb
    have := hb.1
    simp at this
    exact this
  · simp only [csB]
    rw [exs_cons, f1, bind_ok', seqK_nx, exs_cons, ex_ite, denb_and, e5, bind_ok', bAnd_ap]
    cases hd : decide (c ∈ found) with
    | true => simp
    | false =>
      rw [Bool.not_false, if_pos rfl, e6, cat_ok', ifK_ap]
      cases b with
      | true =>
        rw [if_pos rfl, exs_cons, app_stm (by rw [List.length_map]; exact hl) rfl rfl, bind_ok', seqK_nx, exs_nil, bind_ok', seqK_nx, exs_nil]
        simp
      | false => simp
end
end Ev
set_option Elab.async false
set_option linter.all false
set_option maxRecDepth 100000
set_option autoImplicit false
set_option maxHeartbeats 4000000
/-! Sp, part H: rows of clauses drawn (2), clause books drawn. -/
namespace Ev
open PySem
section
variable {tb : Tb} {i i1 i2 i3 i4 i5 : Nat}
theorem set_stm {cx : Cxt} {r : List Sx} {st : Sx} {σ σ' : Env} {S S' : Store} (h : exS cx st σ S = .ok (.nx σ') S') : exSs cx (st :: r) σ S = exSs cx r σ' S' := by
  rw [exs_cons, h, bind_ok', seqK_nx]
theorem fr_stm {cx : Cxt} {v : Nat} {ik : Ik} {ia : List Ex} {b : List Sx} {σ σ' : Env} {S S1 S' : Store} {ts : List T} {ds : List D} {g : Store → Bool} (h : dens cx ia σ S = .ok ts S1) (hi : iterOf S1 ik ts = some (ds, g)) (hf : frL (bindT (.var v)) (exSs cx b) g ds σ S1 = .ok (.nx σ') S') :
    exS cx (.fr (.var v) ik ia b) σ S = .ok (.nx σ') S' := by
  rw [ex_fr, h, cat_ok', frK_ap, hi, frO_some]
  exact hf
theorem bi_1 {cx : Cxt} {b : Bi} {e : Ex} {σ : Env} {S S1 : Store} {t r : T} (h : (den cx e).e σ S = .ok t S1) (hr : biE S1 b t = some r) : (den cx (.nd (.bi b) [e])).e σ S = .ok r S1 := by
  rw [nd_1' h, app_bi, hr, ofO_some]
where
  nd_1' {cx : Cxt} {k : Kd} {e : Ex} {σ : Env} {S S' : Store} {t : T} (h : (den cx e).e σ S = .ok t S') : (den cx (.nd k [e])).e σ S = app cx S' k [t] := nd_1 h
theorem csS (hR : tb.fs[i1]? = some rowF) (hC : tb.fs[i2]? = some (clF i1)) (h : tb.fs[i]? = some (csF i1 i2)) (k : Nat) (cell m : Int) (most size : Nat) (S : Store) (hm : 1 ≤ m ∧ m ≤ 1000) (hs : size ≤ 900) (hq : most ≤ 900) :
    ∃ xs : List (List Int), clausesL m xs = true ∧ xs.length ≤ most ∧ (∀ x ∈ xs, x.length ≤ size) ∧ runK tb (k + 3) i [.int cell, .int m, .int most, .int size] S = .ok (.tup (xs.map tupI)) S := by
  rw [run_of h (k + 2) _ _ rfl]
  have hbs : ∀ x ∈ ((most : Int) + 1) :: List.replicate most (1000000000 : Int), 0 < x ∧ x < 1073741824 := fun x hx => by
    rcases List.mem_cons.mp hx with e | hx
    · rw [e]; omega
    · rw [(List.mem_replicate.mp hx).2]; omega
  obtain ⟨S1, hS1⟩ : ∃ S1, S1 = S ++ [O.lst ((((most : Int) + 1) :: List.replicate most (1000000000 : Int)).map D.int)] := ⟨_, rfl⟩
  obtain ⟨row, hB, eR⟩ := rowS hR (k + 1) cell S.length (((most : Int) + 1) :: List.replicate most (1000000000 : Int)) S1 (by rw [hS1]; simp) hbs (by simp; omega)
  cases row with
  | nil => exact hB.elim
  | cons r0 rest =>
    obtain ⟨hr0, hB2⟩ := hB
    obtain ⟨hl, hrest⟩ := hB2.rep
    obtain ⟨S2, hS2⟩ : ∃ S2, S2 = S1 ++ [O.lst ((r0 :: rest).map D.int)] := ⟨_, rfl⟩
    have hrow : S2[S1.length]? = some (.lst ((r0 :: rest).map D.int)) := by rw [hS2]; simp
    have f1 : exS (cxK tb (k + 2)) (.set (.var 4) (.na (.call i1) [(.var 0), (.nd (.op .add) [(.na .lst [(.nd (.op .add) [(.var 2), (.cst (.int 1))])]), (.nd (.op .mul) [(.na .lst [(.nd (.op .pow) [(.cst (.int 10)), (.cst (.int 9))])]), (.var 2)])])])) [some (.int cell), some (.int m), some (.int most), some (.int size), none, none, none, none] S = .ok (.nx [some (.int cell), some (.int m), some (.int most), some (.int size), some (.ref S1.length), none, none, none]) S2 := by
      have e1 := rep_one S (D.int 1000000000) most hq
      have e2 := cat_lst S [D.int ((most : Int) + 1)] (List.replicate most (D.int 1000000000)) (by simp; omega)
      rw [List.singleton_append] at e2
      have t1 := lst_1 (cx := cxK tb (k + 2)) (ded_1 (op_2 (σ := [some (.int cell), some (.int m), some (.int most), some (.int size), none, none, none, none]) (S := S) (e := .var 2) (e' := .cst (.int 1)) (o := .add) (var_v rfl) cst_v (r := .v (.int ((most : Int) + 1))) (by rw [opE_int, opI_add]; rfl))) (by simp)
      have t2 := lst_1 (cx := cxK tb (k + 2)) (ded_1 (op_2 (σ := [some (.int cell), some (.int m), some (.int most), some (.int size), none, none, none, none]) (S := S) (e := .cst (.int 10)) (e' := .cst (.int 9)) (o := .pow) cst_v cst_v (r := .v (.int 1000000000)) (by rw [opE_int, opI_pow (by omega) (by omega) (by decide)]; rfl))) (by simp)
      have t3 := op_2 t1 (op_2 t2 (var_v (j := 2) rfl) e1) e2
      have t4 := ded_c (cx := cxK tb (k + 2)) (var_v (j := 0) (σ := [some (.int cell), some (.int m), some (.int most), some (.int size), none, none, none, none]) rfl) (ded_1 t3)
      refine set_v (call_d (d := .ref S1.length) (S2 := S2) t4 ?_) (by simp)
      rw [hS2]
      rw [hS1] at eR ⊢
      simp only [List.map_cons, List.map_replicate] at eR ⊢
      exact eR
    have f2 : exS (cxK tb (k + 2)) (.set (.var 5) (.na .lst [])) [some (.int cell), some (.int m), some (.int most), some (.int size), some (.ref S1.length), none, none, none] S2 = .ok (.nx [some (.int cell), some (.int m), some (.int most), some (.int size), some (.ref S1.length), some (.ref S2.length), none, none]) (S2 ++ [.lst []]) :=
      set_v (lst_1 (ds := []) rfl (by simp)) (by simp)
    obtain ⟨n0, hn0⟩ : ∃ n0 : Nat, r0 = (n0 : Int) := ⟨r0.toNat, by omega⟩
    subst hn0
    have e3 : dens (cxK tb (k + 2)) [(.nd .idx [(.var 4), (.cst (.int 0))])] [some (.int cell), some (.int m), some (.int most), some (.int size), some (.ref S1.length), some (.ref S2.length), none, none] (S2 ++ [.lst []]) = .ok [.v (.int n0)] (S2 ++ [.lst []]) :=
      dens_1 (idx_2 (var_v rfl) cst_v (idx_lst (app_at hrow _) (atI_get (((n0 : Int) :: rest).map D.int) 0 (by simp))))
    obtain ⟨σ', S', e7, found, x7, x6, q1, q2, q3, q4, q5, q6⟩ := frL_rng (v := 6) (body := exSs (cxK tb (k + 2)) (csB i2)) n0 (fun j σ S' => ∃ (found : List (List Int)) (x7 x6 : Option D), found.length ≤ j ∧ (∀ x ∈ found, clauseI m x = true ∧ x.length ≤ size) ∧ found.Nodup ∧ True ∧ σ = [some (.int cell), some (.int m), some (.int most), some (.int size), some (.ref S1.length), some (.ref S2.length), x6, x7] ∧ S' = S2 ++ [.lst (found.map tupI)]) (by
      rintro j hj σ S' ⟨found, x7, x6, q1, q2, q3, q4, rfl, rfl⟩
      obtain ⟨c, c1, c2, b, c3, c4⟩ := cs_step hR hC k S2 found (some (.int cell)) (some (.int most)) x7 m size S1.length ((n0 : Int) :: rest) j hm hs (by omega) hrow (by simp; omega)
      refine ⟨by simp, _, _, .inl c4, _, _, _, ?_, ?_, ?_, trivial, rfl, rfl⟩
      · split
        · simp; omega
        · omega
      · intro x hx
        split at hx
        · rcases List.mem_append.mp hx with hx | hx
          · exact q2 x hx
          · rw [List.mem_singleton.mp hx]; exact ⟨c1, c2⟩
        · exact q2 x hx
      · split
        · rename_i hb
          refine List.nodup_append.mpr ⟨q3, by simp, fun a ha b' hb' => ?_⟩
          rw [List.mem_singleton.mp hb']
          exact fun e => c3 hb (e ▸ ha)
        · exact q3) [some (.int cell), some (.int m), some (.int most), some (.int size), some (.ref S1.length), some (.ref S2.length), none, none] (S2 ++ [.lst []]) ⟨[], none, none, Nat.zero_le _, fun x h => absurd h (by simp), List.nodup_nil, trivial, rfl, rfl⟩
    subst q5 q6
    have hp := sortL_perm found
    refine ⟨sortL found, clauses_sorted (fun x hx => (q2 x hx).1) q3, ?_, fun x hx => (q2 x (hp.mem_iff.mp hx)).2, ?_⟩
    · have := hp.length_eq
      omega
    · show finE S (exSs (cxK tb (k + 2)) (csF i1 i2).body [some (.int cell), some (.int m), some (.int most), some (.int size), none, none, none, none] S) = _
      have e8 : biE (S2 ++ [.lst (found.map tupI)]) .sorted (.v (.ref S2.length)) = some (.t (.lst ((sortL found).map tupI))) := by
        have e : lstR (S2 ++ [.lst (found.map tupI)]) (.v (.ref S2.length)) = some (found.map tupI) := by simp [lstR, objR, unlk]
        rw [bi_sorted e, sortD_tups]
        rfl
      have e9 : biE (S2 ++ [.lst (found.map tupI)]) .tuple (.t (.lst ((sortL found).map tupI))) = some (.v (.tup ((sortL found).map tupI))) := rfl
      have e10 : (den (cxK tb (k + 2)) (.nd (.bi .tuple) [(.nd (.bi .sorted) [(.var 5)])])).e [some (.int cell), some (.int m), some (.int most), some (.int size), some (.ref S1.length), some (.ref S2.length), x6, x7] (S2 ++ [.lst (found.map tupI)]) = .ok (.v (.tup ((sortL found).map tupI))) (S2 ++ [.lst (found.map tupI)]) := bi_1 (bi_1 (var_v rfl) e8) e9
      simp only [csF]
      rw [set_stm f1, set_stm f2, set_stm (fr_stm e3 (iter_len1 _ n0 (by omega)) e7), ret_1 e10, fin_rt, hS2, hS1]
      simp only [List.append_assoc]
      rw [gc_app, if_pos (noRef_of _ _ (by rw [plD]; exact pl_tups _))]
/-! _law_clause_book -/
def cbkF (iR iB iC : Nat) : Fd := ⟨4, 5, [.set (.var 4) (.na (.call iR) [(.var 0), (.na .lst [(.cst (.int 256)), (.nd (.op .pow) [(.cst (.int 10)), (.cst (.int 9))])])]), .ret (.na .tup [(.na (.call iB) [(.nd .idx [(.var 4), (.cst (.int 0))]), (.var 1)]), (.na (.call iC) [(.nd .idx [(.var 4), (.cst (.int 1))]), (.var 1), (.var 2), (.var 3)])])]⟩
theorem cbkS (hR : tb.fs[i1]? = some rowF) (hC : tb.fs[i2]? = some (clF i1)) (hB : tb.fs[i3]? = some bitsF) (hK : tb.fs[i4]? = some (csF i1 i2)) (h : tb.fs[i]? = some (cbkF i1 i3 i4)) (k : Nat) (cell : Int) (m most size : Nat) (S : Store) (hm : 1 ≤ m ∧ m ≤ 1000) (hs : size ≤ 900) (hq : most ≤ 900) :
    ∃ (bs : List Bool) (xs : List (List Int)), bs.length = m ∧ clausesL m xs = true ∧ xs.length ≤ most ∧ (∀ x ∈ xs, x.length ≤ size) ∧ runK tb (k + 4) i [.int cell, .int m, .int most, .int size] S = .ok (.tup [.tup (bs.map D.bl), .tup (xs.map tupI)]) S := by
  rw [run_of h (k + 3) _ _ rfl]
  obtain ⟨S1, hS1⟩ : ∃ S1, S1 = S ++ [O.lst (([256, 1000000000] : List Int).map D.int)] := ⟨_, rfl⟩
  obtain ⟨row, hBd, eR⟩ := rowS hR (k + 2) cell S.length [256, 1000000000] S1 (by rw [hS1]; simp) (fun x hx => by
    simp at hx
    rcases hx with rfl | rfl <;> omega) (by simp)
  match row, hBd with
  | [r0, r1], ⟨h0, h1, _⟩ =>
    obtain ⟨S2, hS2⟩ : ∃ S2, S2 = S1 ++ [O.lst (([r0, r1] : List Int).map D.int)] := ⟨_, rfl⟩
    have hrow : S2[S1.length]? = some (.lst [.int r0, .int r1]) := by rw [hS2]; simp
    obtain ⟨bs, hb1, hb2⟩ := bitsS hB (k + 2) r0 m S2 hm.2
    obtain ⟨xs, hx1, hx2, hx3, hx4⟩ := csS hR hC hK k r1 (m : Int) most size S2 (by omega) hs hq
    refine ⟨bs, xs, hb1, hx1, hx2, hx3, ?_⟩
    show finE S (exSs (cxK tb (k + 3)) (cbkF i1 i3 i4).body [some (.int cell), some (.int m), some (.int most), some (.int size), none] S) = _
    have f1 : exS (cxK tb (k + 3)) (.set (.var 4) (.na (.call i1) [(.var 0), (.na .lst [(.cst (.int 256)), (.nd (.op .pow) [(.cst (.int 10)), (.cst (.int 9))])])])) [some (.int cell), some (.int m), some (.int most), some (.int size), none] S = .ok (.nx [some (.int cell), some (.int m), some (.int most), some (.int size), some (.ref S1.length)]) S2 := by
      have t2 := lst_1 (cx := cxK tb (k + 3)) (ded_c (e := .cst (.int 256)) (σ := [some (.int cell), some (.int m), some (.int most), some (.int size), none]) (S := S) cst_v (ded_1 (op_2 (e := .cst (.int 10)) (e' := .cst (.int 9)) (o := .pow) cst_v cst_v (r := .v (.int 1000000000)) (by rw [opE_int, opI_pow (by omega) (by omega) (by decide)]; rfl)))) (by simp)
      have t4 := ded_c (cx := cxK tb (k + 3)) (var_v (j := 0) (σ := [some (.int cell), some (.int m), some (.int most), some (.int size), none]) rfl) (ded_1 t2)
      refine set_v (call_d (d := .ref S1.length) (S2 := S2) t4 ?_) (by simp)
      rw [hS2]
      rw [hS1] at eR ⊢
      exact eR
    have g0 : idxE S2 (.v (.ref S1.length)) (.v (.int 0)) = some (.int r0) := idx_lst hrow (atI_get [D.int r0, .int r1] 0 (by simp))
    have g1 : idxE S2 (.v (.ref S1.length)) (.v (.int 1)) = some (.int r1) := idx_lst hrow (atI_get [D.int r0, .int r1] 1 (by simp))
    have f2 : (den (cxK tb (k + 3)) (.na .tup [(.na (.call i3) [(.nd .idx [(.var 4), (.cst (.int 0))]), (.var 1)]), (.na (.call i4) [(.nd .idx [(.var 4), (.cst (.int 1))]), (.var 1), (.var 2), (.var 3)])])).e [some (.int cell), some (.int m), some (.int most), some (.int size), some (.ref S1.length)] S2 = .ok (.v (.tup [.tup (bs.map D.bl), .tup (xs.map tupI)])) S2 :=
      tup_1 (ded_c (call_d (ded_c (idx_2 (var_v rfl) cst_v g0) (ded_1 (var_v rfl))) hb2) (ded_1 (call_d (ded_c (idx_2 (var_v rfl) cst_v g1) (ded_c (var_v rfl) (ded_c (var_v rfl) (ded_1 (var_v rfl))))) hx4))) (by simp)
    simp only [cbkF]
    rw [set_stm f1, ret_1 f2, fin_rt, hS2, hS1]
    simp only [List.append_assoc]
    rw [gc_app, if_pos (noRef_of _ _ (by
      rw [plD, plDs, plDs, plDs, plD, plD, pl_bls, pl_tups]
      rfl))]
end
end Ev
set_option Elab.async false
set_option linter.all false
set_option maxRecDepth 100000
set_option autoImplicit false
set_option maxHeartbeats 4000000
/-! Sp, part I: things that are refused; clause books compared. -/
namespace Ev
open PySem
section
variable {tb : Tb} {i i1 i2 i3 i4 i5 : Nat}
theorem b_nd {cx : Cxt} {k : Kd} {es : List Ex} {σ : Env} {S S' : Store} {c : Bool} (h : (den cx (.nd k es)).e σ S = .ok (.v (.bl c)) S') : (den cx (.nd k es)).b σ S = .ok c S' := by
  rw [denb_nd, h, bind_ok', truK_ap, truth_bl, ofO_some]
theorem b_na {cx : Cxt} {k : Ka} {es : List Ex} {σ : Env} {S S' : Store} {c : Bool} (h : (den cx (.na k es)).e σ S = .ok (.v (.bl c)) S') : (den cx (.na k es)).b σ S = .ok c S' := by
  rw [denb_na, h, bind_ok', truK_ap, truth_bl, ofO_some]
theorem b_not {cx : Cxt} {e : Ex} {σ : Env} {S S' : Store} {c : Bool} (h : (den cx e).b σ S = .ok c S') : (den cx (.not e)).b σ S = .ok (!c) S' := by
  rw [denb_not, h, bind_ok', bNot_ap]
theorem b_or {cx : Cxt} {e e' : Ex} {σ : Env} {S S' S2 : Store} {c : Bool} (h : (den cx e).b σ S = .ok false S') (h' : (den cx e').b σ S' = .ok c S2) : (den cx (.or e e')).b σ S = .ok c S2 := by
  rw [denb_or, h, bind_ok', bOr_ap, if_neg (by simp), h']
theorem b_and {cx : Cxt} {e e' : Ex} {σ : Env} {S S' S2 : Store} {c : Bool} (h : (den cx e).b σ S = .ok true S') (h' : (den cx e').b σ S' = .ok c S2) : (den cx (.and e e')).b σ S = .ok c S2 := by
  rw [denb_and, h, bind_ok', bAnd_ap, if_pos rfl, h']
theorem b_and0 {cx : Cxt} {e e' : Ex} {σ : Env} {S S' : Store} (h : (den cx e).b σ S = .ok false S') : (den cx (.and e e')).b σ S = .ok false S' := by
  rw [denb_and, h, bind_ok', bAnd_ap, if_neg (by simp)]
theorem ite_no {cx : Cxt} {c : Ex} {a : List Sx} {σ : Env} {S S' : Store} (h : (den cx c).b σ S = .ok false S') : exS cx (.ite c a []) σ S = .ok (.nx σ) S' := by
  rw [ex_ite, h, cat_ok', ifK_ap, if_neg (by simp), exs_nil]
theorem e_and {cx : Cxt} {e e' : Ex} {σ : Env} {S S' S2 : Store} {t : T} (h : (den cx e).e σ S = .ok (.v (.bl true)) S') (h' : (den cx e').e σ S' = .ok t S2) : (den cx (.and e e')).e σ S = .ok t S2 := by
  rw [den_and, h, bind_ok', andK_t, h']
theorem e_not {cx : Cxt} {e : Ex} {σ : Env} {S S' : Store} {c : Bool} (h : (den cx e).e σ S = .ok (.v (.bl c)) S') : (den cx (.not e)).e σ S = .ok (.v (.bl (!c))) S' := by
  rw [den_not, h, bind_ok', notK_b]
theorem mk_d {cx : Cxt} {c : Nat} {es : List Ex} {σ : Env} {S S1 S2 : Store} {ds : List D} {d : D} (h : ded cx es σ S = .ok ds S1) (h' : cx.mak c ds S1 = .ok d S2) : (den cx (.na (.mk c) es)).e σ S = .ok (.v d) S2 := by
  rw [den_na, h, bind_ok', kNa_ap, appA_mk, h', bind_ok', valK1_ap]
/-- == and != of what is no instance -/
theorem cmp_2 {cx : Cxt} {o : Cm} {e e' : Ex} {σ : Env} {S S1 S2 : Store} {t t' : T} {c : Bool} (h : (den cx e).e σ S = .ok t S1) (h' : (den cx e').e σ S1 = .ok t' S2) (hq : ownQ cx S2 o t t' = none) (hr : cmpE S2 o t t' = some c) : (den cx (.nd (.cmp o) [e, e'])).e σ S = .ok (.v (.bl c)) S2 := by
  rw [nd_2 h h', app_cmp, hq, cmpF_none, hr]
  rfl
theorem own_2 {cx : Cxt} {o : Cm} {e e' : Ex} {σ : Env} {S S1 S2 : Store} {t t' : T} {q : Nat × D × D} {c : Bool} (h : (den cx e).e σ S = .ok t S1) (h' : (den cx e').e σ S1 = .ok t' S2) (hq : ownQ cx S2 o t t' = some q) (hr : cx.cj q.1 [q.2.1, q.2.2] S2 = .ok (.bl c) S2) : (den cx (.nd (.cmp o) [e, e'])).e σ S = .ok (.v (.bl (negB o c))) S2 := by
  rw [nd_2 h h', app_cmp, hq, cmpF_some, hr]
  rfl
/-! _law_refused -/
def refF (c ce cr : Nat) : Fd := ⟨2, 3, [.tr [.ex (.na (.mk c) [(.var 0), (.var 1)])] cr 2 [ce, 1000], .ret (.cst (.bl false))]⟩
section
variable {iF iC iI ce f0 f1 c cr : Nat}
theorem refS (B : CbT tb i1 i2 i3 i4 i5 iF iC iI ce f0 f1 c) (h : tb.fs[i]? = some (refF c ce cr)) (hx : tb.xi cr = true) (h1 : tb.sb ce cr = true) (h2 : tb.sb ce ce = true) (h3 : tb.sb ce 1000 = true) (k : Nat) (a b : D) (S : Store) (ha : knT (S ++ [.ins c []]) a) (hb : knTT (S ++ [.ins c []]) b) :
    runK tb (k + 8) i [a, b] S = .ok (.bl (!cbB a b)) S := by
  rw [run_of h (k + 7) _ _ rfl]
  have e := cbMakS B k a b S ha hb
  have e0 : ∀ d, ((cxK tb (k + 7)).mak c [a, b] S = d) ↔ (mkE (runJ tb (k + 7)) tb.ini c [a, b] S = d) := fun d => Iff.rfl
  show finE S (exSs (cxK tb (k + 7)) (refF c ce cr).body [some a, some b, none] S) = _
  simp only [refF]
  cases hc : cbB a b with
  | true =>
    rw [hc, if_pos rfl] at e
    have q1 : exSs (cxK tb (k + 7)) [.ex (.na (.mk c) [(.var 0), (.var 1)])] [some a, some b, none] S = .ok (.nx [some a, some b, none]) (S ++ [.ins c [(f0, a), (f1, b)]]) := by
      have g : (den (cxK tb (k + 7)) (.na (.mk c) [(.var 0), (.var 1)])).e [some a, some b, none] S = .ok (.v (.ref S.length)) (S ++ [.ins c [(f0, a), (f1, b)]]) := mk_d (ded_c (var_v rfl) (ded_1 (var_v rfl))) ((e0 _).mpr e)
      rw [exs_cons, ex_ex, g, cat_ok', exK_ap, bind_ok', seqK_nx, exs_nil]
    have q2 : exS (cxK tb (k + 7)) (.tr [.ex (.na (.mk c) [(.var 0), (.var 1)])] cr 2 [ce, 1000]) [some a, some b, none] S = .ok (.nx [some a, some b, none]) (S ++ [.ins c [(f0, a), (f1, b)]]) := by
      simp only [exS]
      rw [q1]
    rw [set_stm q2, ret_1 (cst_v (d := .bl false)), fin_rt, gc_app, if_pos (by simp [noRef])]
    rfl
  | false =>
    rw [hc, if_neg (by simp)] at e
    have q1 : exSs (cxK tb (k + 7)) [.ex (.na (.mk c) [(.var 0), (.var 1)])] [some a, some b, none] S = .ok (.xc [some a, some b, none] ce []) (S ++ [.ins c []]) := by
      have g : (den (cxK tb (k + 7)) (.na (.mk c) [(.var 0), (.var 1)])).e [some a, some b, none] S = .ex ce [] (S ++ [.ins c []]) := by
        have z : ded (cxK tb (k + 7)) [(.var 0), (.var 1)] [some a, some b, none] S = .ok [a, b] S := ded_c (var_v rfl) (ded_1 (var_v rfl))
        rw [den_na, z, bind_ok', kNa_ap, appA_mk, (e0 _).mpr e]
        rfl
      rw [exs_cons, ex_ex, g, cat_ex', bind_ok', seqK_xc]
    have q2 : exS (cxK tb (k + 7)) (.tr [.ex (.na (.mk c) [(.var 0), (.var 1)])] cr 2 [ce, 1000]) [some a, some b, none] S = .ok (.rt (.bl true)) (S ++ [.ins c []]) := by
      have z : ¬ ((cxK tb (k + 7)).rs ce = false ∨ (cxK tb (k + 7)).xi cr = false ∨ ([some a, some b, none] : Env).length ≤ 2) := by
        rw [cxK_rs, cxK_xi, B.rs, hx]
        simp
      simp only [exS]
      rw [q1]
      dsimp only
      rw [if_neg z, if_pos (by rw [cxK_sb]; exact h1)]
      simp [h2, h3]
    rw [exs_cons, q2, bind_ok', seqK_rt, fin_rt, gc_app, if_pos (by simp [noRef])]
    rfl
/-! __eq__ of clause books -/
def cbEqF (c f0 f1 : Nat) : Fd := ⟨2, 2, [.ret (.and (.nd (.isi (.c c)) [(.var 1)]) (.and (.nd (.cmp .eq) [(.nd (.fld f0) [(.var 0)]), (.nd (.fld f0) [(.var 1)])]) (.nd (.cmp .eq) [(.nd (.fld f1) [(.var 0)]), (.nd (.fld f1) [(.var 1)])])))]⟩
theorem fld_v {cx : Cxt} {e : Ex} {σ : Env} {S S1 : Store} {f n c : Nat} {fs : List (Nat × D)} {d : D} (h : (den cx e).e σ S = .ok (.v (.ref n)) S1) (hn : S1[n]? = some (.ins c fs)) (ha : cx.at_ c f = true) (hl : fs.lookup f = some d) : (den cx (.nd (.fld f) [e])).e σ S = .ok (.v d) S1 := by
  have e1 : objW S1 (.v (.ref n)) = some (.ins c fs) := hn
  rw [nd_1 h, app_fld, e1]
  show (if cx.at_ c f = true then _ else _) = _
  rw [if_pos ha, hl]
  rfl
theorem isiC_ins {cx : Cxt} {S : Store} {n c : Nat} {fs : List (Nat × D)} (m : Nat) (hn : S[n]? = some (.ins c fs)) (hi : cx.ic c = true) : app cx S (.isi (.c m)) [.v (.ref n)] = .ok (.v (.bl (cx.sb c m))) S := by
  have e : tyC S (.v (.ref n)) = some c := by
    unfold tyC objW
    dsimp only
    rw [hn]
  rw [app_isiC, e]
  dsimp only
  rw [if_pos hi]
theorem plD_data {S : Store} {o : Cm} {cx : Cxt} {a b : D} (ha : plD a = true) : ownQ cx S o (.v a) (.v b) = none := by
  cases a with
  | ref _ => rw [plD] at ha; cases ha
  | fn _ => rw [plD] at ha; cases ha
  | cls _ => rw [plD] at ha; cases ha
  | non => exact own_non cx S o _
  | bl x => exact own_bl cx S o x _
  | int x => exact own_int cx S o x _
  | str x => exact own_str cx S o x _
  | tup x => exact own_tup cx S o x _
theorem cbEqS (h : tb.fs[i]? = some (cbEqF c f0 f1)) (a0 : tb.at_ c f0 = true) (a1 : tb.at_ c f1 = true) (hi : tb.ic c = true) (hs : tb.sb c c = true) (hf : f0 ≠ f1) (k n m : Nat) (a b a' b' : D) (S : Store)
    (hn : S[n]? = some (.ins c [(f0, a), (f1, b)])) (hm : S[m]? = some (.ins c [(f0, a'), (f1, b')])) (pa : plD a = true) (pb : plD b = true) (pa' : plD a' = true) (pb' : plD b' = true) (da : dpD a ≤ 64) (db : dpD b ≤ 64) (da' : dpD a' ≤ 64) (db' : dpD b' ≤ 64) :
    runK tb (k + 1) i [.ref n, .ref m] S = .ok (.bl (eqP a a' && eqP b b')) S := by
  rw [run_of h k _ _ rfl]
  show finE S (exSs (cxK tb k) (cbEqF c f0 f1).body [some (.ref n), some (.ref m)] S) = _
  have l0 : ∀ x y : D, ([(f0, x), (f1, y)] : List (Nat × D)).lookup f0 = some x := fun x y => by simp [List.lookup]
  have l1 : ∀ x y : D, ([(f0, x), (f1, y)] : List (Nat × D)).lookup f1 = some y := fun x y => by
    have : (f1 == f0) = false := by simp [Ne.symm hf]
    simp [List.lookup, this]
  have g0 : (den (cxK tb k) (.nd (.isi (.c c)) [(.var 1)])).e [some (.ref n), some (.ref m)] S = .ok (.v (.bl true)) S := by
    rw [nd_1 (var_v rfl), isiC_ins c hm hi, cxK_sb, hs]
  have g1 : (den (cxK tb k) (.nd (.cmp .eq) [(.nd (.fld f0) [(.var 0)]), (.nd (.fld f0) [(.var 1)])])).e [some (.ref n), some (.ref m)] S = .ok (.v (.bl (eqP a a'))) S :=
    cmp_2 (fld_v (var_v rfl) hn a0 (l0 _ _)) (fld_v (var_v rfl) hm a0 (l0 _ _)) (plD_data pa) (eqE_pl pa pa' da da')
  have g2 : (den (cxK tb k) (.nd (.cmp .eq) [(.nd (.fld f1) [(.var 0)]), (.nd (.fld f1) [(.var 1)])])).e [some (.ref n), some (.ref m)] S = .ok (.v (.bl (eqP b b'))) S :=
    cmp_2 (fld_v (var_v rfl) hn a1 (l1 _ _)) (fld_v (var_v rfl) hm a1 (l1 _ _)) (plD_data pb) (eqE_pl pb pb' db db')
  simp only [cbEqF]
  have g3 : (den (cxK tb k) (.and (.nd (.isi (.c c)) [(.var 1)]) (.and (.nd (.cmp .eq) [(.nd (.fld f0) [(.var 0)]), (.nd (.fld f0) [(.var 1)])]) (.nd (.cmp .eq) [(.nd (.fld f1) [(.var 0)]), (.nd (.fld f1) [(.var 1)])])))).e [some (.ref n), some (.ref m)] S = .ok (.v (.bl (eqP a a' && eqP b b'))) S := by
    refine e_and g0 ?_
    cases hq : eqP a a' with
    | true => rw [hq] at g1; exact e_and g1 g2
    | false =>
      rw [hq] at g1
      rw [den_and, g1]
      rfl
  rw [ret_1 g3, fin_rt, gc_same]
theorem cbEqN (h : tb.fs[i]? = some (cbEqF c f0 f1)) (k n : Nat) (z : Int) (S : Store) : runK tb (k + 1) i [.ref n, .int z] S = .ok (.bl false) S := by
  rw [run_of h k _ _ rfl]
  show finE S (exSs (cxK tb k) (cbEqF c f0 f1).body [some (.ref n), some (.int z)] S) = _
  have g0 : (den (cxK tb k) (.nd (.isi (.c c)) [(.var 1)])).e [some (.ref n), some (.int z)] S = .ok (.v (.bl false)) S := by
    rw [nd_1 (var_v rfl)]
    rfl
  simp only [cbEqF]
  rw [ret_1 (d := .bl false) (S' := S) (by rw [den_and, g0]; rfl), fin_rt, gc_same]
end
/-! what is known of data -/
theorem knw_pl {S : Store} {d : D} (h : plD d = true) : knw S d := by
  cases d with
  | ref _ => rw [plD] at h; cases h
  | fn _ => rw [plD] at h; cases h
  | cls _ => rw [plD] at h; cases h
  | _ => trivial
theorem plDs_mem : ∀ {ds : List D}, plDs ds = true → ∀ d ∈ ds, plD d = true
  | [], _, d, h => absurd h (by simp)
  | x :: xs, h, d, hd => by
    rw [plDs, Bool.and_eq_true] at h
    rcases List.mem_cons.mp hd with e | hd
    · rw [e]; exact h.1
    · exact plDs_mem h.2 d hd
theorem sm_pl : ∀ d : D, smD d = true → plD d = true := by
  intro d
  exact D.rec (motive_1 := fun d => smD d = true → plD d = true) (motive_2 := fun ds => smDs ds = true → plDs ds = true)
    (fun _ => by rw [plD]) (fun _ _ => by rw [plD]) (fun _ _ => by rw [plD]) (fun x h => by rw [smD] at h; rw [plD]; exact h)
    (fun ds ih h => by rw [smD, Bool.and_eq_true] at h; rw [plD]; exact ih h.2) (fun _ h => by rw [smD] at h; cases h) (fun _ h => by rw [smD] at h; cases h) (fun _ h => by rw [smD] at h; cases h)
    (fun _ => by rw [plDs]) (fun d ds i1 i2 h => by rw [smDs, Bool.and_eq_true] at h; rw [plDs, i1 h.1, i2 h.2]; rfl) d
theorem knT_sm {S : Store} {d : D} (h : smD d = true) : knT S d := by
  refine ⟨knw_pl (sm_pl d h), fun ds e => ?_⟩
  subst e
  rw [smD, Bool.and_eq_true, decide_eq_true_eq] at h
  exact ⟨h.1, fun x hx => knw_pl (sm_pl x (smDs_mem h.2 x hx))⟩
theorem knTT_sm {S : Store} {d : D} (h : smD d = true) : knTT S d := by
  refine ⟨knw_pl (sm_pl d h), fun ds e => ?_⟩
  subst e
  rw [smD, Bool.and_eq_true, decide_eq_true_eq] at h
  exact ⟨by omega, fun x hx => knT_sm (smDs_mem h.2 x hx)⟩
theorem areFlags_bls (bs : List Bool) : areFlags (.tup (bs.map D.bl)) = true := by
  show (bs.map D.bl).all isBl = true
  rw [List.all_map]
  exact List.all_eq_true.mpr fun _ _ => rfl
theorem clausesB_tups (m : Int) (xs : List (List Int)) (h : xs.length ≤ 1000000) : clausesB m (.tup (xs.map tupI)) = clausesL m xs := by
  show (decide ((xs.map tupI).length ≤ 1000000) && match tupsOf (xs.map tupI) with | some xs => clausesL m xs | none => false) = _
  rw [List.length_map, decide_eq_true h, tupsOf_tups, Bool.true_and]
theorem clausesB_bad {m : Int} {ds : List D} {d : D} (hd : d ∈ ds) (h : clauseB m d = false) : clausesB m (.tup ds) = false := by
  show (decide (ds.length ≤ 1000000) && match tupsOf ds with | some xs => clausesL m xs | none => false) = false
  have e := clauses_tups m ds
  have e2 : ds.all (clauseB m) = false := by
    rw [Bool.eq_false_iff]
    intro h2
    have := List.all_eq_true.mp h2 d hd
    rw [h] at this
    cases this
  rw [e2] at e
  cases hq : tupsOf ds with
  | none => simp
  | some xs =>
    rw [hq] at e
    dsimp only at e ⊢
    rw [clausesL, ← e, Bool.false_and, Bool.and_false]
theorem asc_no {α : Type} (lt : α → α → Bool) {a b : α} (h : lt a b = false) (r : List α) : ∀ l : List α, asc lt (l ++ a :: b :: r) = false
  | [] => by
    rw [List.nil_append, asc, h]
    rfl
  | [x] => by
    have := asc_no lt h r []
    rw [List.nil_append] at this
    rw [List.singleton_append, asc, this, Bool.and_false]
  | x :: y :: l => by
    have := asc_no lt h r (y :: l)
    rw [List.cons_append] at this
    rw [List.cons_append, List.cons_append, asc, this, Bool.and_false]
end
end Ev
set_option Elab.async false
set_option linter.all false
set_option maxRecDepth 100000
set_option autoImplicit false
set_option maxHeartbeats 4000000
/-! Sp, part J: dict comprehensions, comprehensions over a dict; clauses joined and dropped. -/
namespace Ev
open PySem
/-! keys put in one by one -/
def keyIn (acc : List Int) (x : Int) : List Int := if x ∈ acc then acc else acc ++ [x]
def keysL (xs : List Int) : List Int := xs.foldl keyIn []
def entI (x : Int) : L2.Key × D := (.inl x, .bl true)
def dkI (acc : List Int) : O := .dK (acc.map entI)
theorem any_entI (x : Int) : ∀ acc : List Int, ((acc.map entI).any fun kv => decide (kv.1 = (.inl x : L2.Key))) = decide (x ∈ acc)
  | [] => rfl
  | y :: r => by
    rw [List.map_cons, List.any_cons, any_entI x r]
    by_cases e : y = x
    · subst e; simp [entI]
    · have e2 : ¬ x = y := fun z => e z.symm
      simp [entI, e, e2]
theorem putD_entI (acc : List Int) (x : Int) : putD (acc.map entI) (.inl x) (.bl true) = (keyIn acc x).map entI := by
  unfold putD keyIn
  rw [any_entI]
  by_cases e : x ∈ acc
  · rw [if_pos (decide_eq_true e), if_pos e, List.map_map]
    refine List.map_congr_left fun y _ => ?_
    show (if (entI y).1 = _ then ((entI y).1, D.bl true) else entI y) = entI y
    split <;> rfl
  · rw [if_neg (by simp [e]), if_neg e, List.map_append]
    rfl
theorem keyIn_len (acc : List Int) (x : Int) : (keyIn acc x).length ≤ acc.length + 1 := by
  unfold keyIn
  split
  · omega
  · simp
theorem dSet_dkI (acc : List Int) (x : Int) (h : acc.length ≤ 10000) : dSet (dkI acc) (.int x) (.bl true) = some (dkI (keyIn acc x)) := by
  show (keyOf (.int x)).bind (fun q => if (acc.map entI).length < PySem.sizeLine then some (O.dK (putD (acc.map entI) q (.bl true))) else none) = _
  show (if (acc.map entI).length < PySem.sizeLine then some (O.dK (putD (acc.map entI) (.inl x) (.bl true))) else none) = _
  rw [if_pos (by rw [List.length_map, size_line]; omega), putD_entI]
  rfl
theorem keyIn_mem {acc : List Int} {x y : Int} : y ∈ keyIn acc x ↔ y ∈ acc ∨ y = x := by
  unfold keyIn
  split
  · exact ⟨.inl, fun h => h.elim id fun e => by rw [e]; assumption⟩
  · simp
theorem keyIn_nodup {acc : List Int} {x : Int} (h : acc.Nodup) : (keyIn acc x).Nodup := by
  unfold keyIn
  split
  · exact h
  · exact nodup_app h (by assumption)
theorem fold_mem : ∀ {xs acc : List Int} {y : Int}, y ∈ xs.foldl keyIn acc ↔ y ∈ acc ∨ y ∈ xs
  | [], acc, y => by simp
  | x :: xs, acc, y => by
    rw [List.foldl_cons, fold_mem, keyIn_mem, List.mem_cons]
    constructor
    · rintro ((h | h) | h)
      · exact .inl h
      · exact .inr (.inl h)
      · exact .inr (.inr h)
    · rintro (h | h | h)
      · exact .inl (.inl h)
      · exact .inl (.inr h)
      · exact .inr h
theorem fold_nodup : ∀ {xs acc : List Int}, acc.Nodup → (xs.foldl keyIn acc).Nodup
  | [], _, h => h
  | x :: xs, _, h => fold_nodup (xs := xs) (keyIn_nodup h)
theorem fold_len : ∀ (xs acc : List Int), (xs.foldl keyIn acc).length ≤ acc.length + xs.length
  | [], acc => by simp
  | x :: xs, acc => by
    have h1 := fold_len xs (keyIn acc x)
    have h2 := keyIn_len acc x
    rw [List.foldl_cons, List.length_cons]
    omega
theorem keysL_mem {xs : List Int} {y : Int} : y ∈ keysL xs ↔ y ∈ xs := by
  unfold keysL
  rw [fold_mem]
  simp
theorem keysL_nodup (xs : List Int) : (keysL xs).Nodup := fold_nodup List.nodup_nil
theorem keysL_len (xs : List Int) : (keysL xs).length ≤ xs.length := by have := fold_len xs []; simpa [keysL] using this
/-- {x: True for x in ..} over ints -/
theorem dcL_ints {bnd : D → Env → Option Env} {tst : Env → Store → R Bool} {ke ve : Env → Store → R D} {gd : Store → Bool} {σ : Env} {S : Store} (hg : gd S = true) : ∀ (xs acc : List Int), acc.length + xs.length ≤ 10000 →
    (∀ x ∈ xs, ∃ σ', bnd (.int x) σ = some σ' ∧ tst σ' S = .ok true S ∧ ke σ' S = .ok (.int x) S ∧ ve σ' S = .ok (.bl true) S) → dcL bnd tst ke ve gd σ (xs.map D.int) (dkI acc) S = .ok (dkI (xs.foldl keyIn acc)) S
  | [], acc, _, _ => by
    rw [List.map_nil]
    unfold dcL
    rw [if_pos hg]
    rfl
  | x :: xs, acc, hl, h => by
    rw [List.length_cons] at hl
    obtain ⟨σ', h1, h2, h3, h4⟩ := h x List.mem_cons_self
    have ih := dcL_ints hg xs (keyIn acc x) (by have := keyIn_len acc x; omega) fun y hy => h y (List.mem_cons_of_mem _ hy)
    rw [List.map_cons]
    unfold dcL
    rw [if_pos hg, h1]
    dsimp only
    rw [h2, bind_ok', if_pos rfl, h3, bind_ok', h4, bind_ok', dSet_dkI acc x (by omega)]
    exact ih
/-! keys that are tuples of ints -/
def entT (c : List Int) : List L2.Key × D := (c.map .inl, .bl true)
def dkT (cs : List (List Int)) : O := if cs = [] then .dK [] else .dT (cs.map entT)
theorem keysOf_ints : ∀ c : List Int, keysOf (c.map D.int) = some (c.map .inl)
  | [] => rfl
  | x :: r => by
    show ((keyOf (.int x)).bind fun k => (keysOf (r.map D.int)).map (k :: ·)) = _
    rw [keysOf_ints r]
    rfl
theorem inl_inj : ∀ {a b : List Int}, a.map (Sum.inl : Int → L2.Key) = b.map Sum.inl → a = b
  | [], [], _ => rfl
  | [], _ :: _, h => by cases h
  | _ :: _, [], h => by cases h
  | x :: a, y :: b, h => by
    simp only [List.map_cons, List.cons.injEq] at h
    rw [Sum.inl.inj h.1, inl_inj h.2]
theorem any_entT (c : List Int) : ∀ cs : List (List Int), ((cs.map entT).any fun kv => decide (kv.1 = c.map (Sum.inl : Int → L2.Key))) = decide (c ∈ cs)
  | [] => rfl
  | y :: r => by
    rw [List.map_cons, List.any_cons, any_entT c r]
    by_cases e : y = c
    · subst e; simp [entT]
    · have e2 : ¬ c = y := fun z => e z.symm
      have e3 : ¬ (entT y).1 = c.map (Sum.inl : Int → L2.Key) := fun z => e (inl_inj z)
      simp [e3, e2]
theorem dSet_dkT (cs : List (List Int)) (c : List Int) (h : cs.length ≤ 10000) (hn : c ∉ cs) : dSet (dkT cs) (tupI c) (.bl true) = some (dkT (cs ++ [c])) := by
  cases cs with
  | nil =>
    show (keysOf (c.map D.int)).map (fun ks => O.dT [(ks, .bl true)]) = _
    rw [keysOf_ints]
    rfl
  | cons x r =>
    show (keysOf (c.map D.int)).bind (fun ks => if ((x :: r).map entT).length < PySem.sizeLine then some (O.dT (putD ((x :: r).map entT) ks (.bl true))) else none) = _
    rw [keysOf_ints, Option.bind_some, if_pos (by rw [List.length_map, size_line]; omega)]
    unfold putD
    rw [any_entT, if_neg (by simp only [decide_eq_true_eq]; exact hn)]
    unfold dkT
    rw [if_neg (by simp), List.map_append]
    rfl
theorem dcL_tups {bnd : D → Env → Option Env} {tst : Env → Store → R Bool} {ke ve : Env → Store → R D} {gd : Store → Bool} {σ : Env} {S : Store} (hg : gd S = true) : ∀ (cs acc : List (List Int)), acc.length + cs.length ≤ 10000 → (acc ++ cs).Nodup →
    (∀ c ∈ cs, ∃ σ', bnd (tupI c) σ = some σ' ∧ tst σ' S = .ok true S ∧ ke σ' S = .ok (tupI c) S ∧ ve σ' S = .ok (.bl true) S) → dcL bnd tst ke ve gd σ (cs.map tupI) (dkT acc) S = .ok (dkT (acc ++ cs)) S
  | [], acc, _, _, _ => by
    rw [List.map_nil, List.append_nil]
    unfold dcL
    rw [if_pos hg]
  | c :: cs, acc, hl, nd, h => by
    rw [List.length_cons] at hl
    have e : acc ++ c :: cs = (acc ++ [c]) ++ cs := by simp
    have hn : c ∉ acc := fun hm => (List.nodup_append.mp nd).2.2 c hm c List.mem_cons_self rfl
    rw [e] at nd
    obtain ⟨σ', h1, h2, h3, h4⟩ := h c List.mem_cons_self
    have ih := dcL_tups hg cs (acc ++ [c]) (by simp; omega) nd fun y hy => h y (List.mem_cons_of_mem _ hy)
    rw [List.map_cons, e]
    unfold dcL
    rw [if_pos hg, h1]
    dsimp only
    rw [h2, bind_ok', if_pos rfl, h3, bind_ok', h4, bind_ok', dSet_dkT acc c (by omega) hn]
    exact ih
theorem mem_dkT {S : Store} {n : Nat} {cs : List (List Int)} (c : List Int) (hn : S[n]? = some (dkT cs)) : memE S (.v (tupI c)) (.v (.ref n)) = some (decide (c ∈ cs)) := by
  cases cs with
  | nil =>
    have e : objR S (.v (.ref n)) = some (.dK []) := by
      show (S[n]?).map unlk = _
      rw [hn]
      rfl
    show (match objR S (.v (.ref n)) with
      | some (.lst _) => match toPy S (.v (tupI c)), toPy S (.v (.ref n)) with
        | some p, some (.list qs) => if SeqAt.shaped p ∧ SeqAt.shaped (.list qs) then some (qs.any fun z => PyData.eqv z p) else none
        | _, _ => if isDct S (.v (tupI c)) && allTup S (.v (.ref n)) then some false else none
      | some (.dK kvs) => (if kvs.isEmpty = true then (keysOf (c.map D.int)).map fun _ => false else none)
      | some (.dT kvs) => ((keysOf (c.map D.int)).map fun k => (valK k kvs).isSome)
      | _ => none) = _
    rw [e]
    dsimp only
    rw [keysOf_ints]
    rfl
  | cons x r =>
    have e : objR S (.v (.ref n)) = some (.dT ((x :: r).map entT)) := by
      show (S[n]?).map unlk = _
      rw [hn]
      rfl
    show (match objR S (.v (.ref n)) with
      | some (.lst _) => match toPy S (.v (tupI c)), toPy S (.v (.ref n)) with
        | some p, some (.list qs) => if SeqAt.shaped p ∧ SeqAt.shaped (.list qs) then some (qs.any fun z => PyData.eqv z p) else none
        | _, _ => if isDct S (.v (tupI c)) && allTup S (.v (.ref n)) then some false else none
      | some (.dK kvs) => (if kvs.isEmpty = true then (keysOf (c.map D.int)).map fun _ => false else none)
      | some (.dT kvs) => ((keysOf (c.map D.int)).map fun k => (valK k kvs).isSome)
      | _ => none) = _
    rw [e]
    dsimp only
    rw [keysOf_ints, Option.map_some, valK_any, any_entT]
/-- an int looked for in a dict of ints, locked or not -/
theorem mem_dkI {S : Store} {n : Nat} {acc : List Int} (x : Int) (hn : (S[n]?).map unlk = some (dkI acc)) : memE S (.v (.int x)) (.v (.ref n)) = some (decide (x ∈ acc)) := by
  show (match objR S (.v (.ref n)) with
      | some (.lst _) => match toPy S (.v (.int x)), toPy S (.v (.ref n)) with
        | some p, some (.list qs) => if SeqAt.shaped p ∧ SeqAt.shaped (.list qs) then some (qs.any fun z => PyData.eqv z p) else none
        | _, _ => if isDct S (.v (.int x)) && allTup S (.v (.ref n)) then some false else none
      | some (.dK kvs) => ((keyOf (.int x)).map fun k => (valK k kvs).isSome)
      | some (.dT kvs) => none
      | _ => none) = _
  have e : objR S (.v (.ref n)) = some (dkI acc) := hn
  rw [e]
  show ((keyOf (.int x)).map fun k => (valK k (acc.map entI)).isSome) = _
  show some ((valK (.inl x) (acc.map entI)).isSome) = _
  rw [valK_any, any_entI]
/-- an int looked for in a tuple of ints -/
theorem mem_tupI (S : Store) (x : Int) (xs : List Int) : memE S (.v (.int x)) (.v (tupI xs)) = some (decide (x ∈ xs)) := by
  show (if flatD (.int x) = true ∧ (xs.map D.int).all flatD = true then some ((xs.map D.int).any fun z => eqF z (.int x)) else _) = _
  rw [if_pos ⟨rfl, by rw [List.all_map]; exact List.all_eq_true.mpr fun _ _ => rfl⟩, List.any_map]
  congr 1
  rw [Bool.eq_iff_iff, List.any_eq_true, decide_eq_true_eq]
  constructor
  · rintro ⟨y, hy, e⟩
    have : y = x := by simpa [eqF] using e
    rw [← this]
    exact hy
  · exact fun h => ⟨x, h, by simp [eqF]⟩
/-- a comprehension over a dict that a variable holds -/
theorem lck_gen {cx : Cxt} {σ σ' : Env} {S : Store} {v i n : Nat} {el : Ex} {own : List Nat} {kvs : List (L2.Key × D)} (f : D → D) (hi : σ[i]? = some (some (.ref n))) (hn : S[n]? = some (.dK kvs)) (hl : kvs.length ≤ 4096) (hw : wipeE σ own = σ') (hv : v < σ'.length)
    (he : ∀ d ∈ kvs.map fun kv => keyD kv.1, ((den cx el).e (σ'.set v (some d)) (S.set n (.lk (.dK kvs)))).alloc = .ok (f d) (S.set n (.lk (.dK kvs)))) :
    (den cx (.lc (.var v) .seq [.var i] [] el own)).e σ S = .ok (.t (.lst ((kvs.map fun kv => keyD kv.1).map f))) S := by
  have hlt : n < S.length := (List.getElem?_eq_some_iff.mp hn).1
  have hs : (S.set n (.lk (.dK kvs)))[n]? = some (.lk (.dK kvs)) := List.getElem?_set_self hlt
  have e1 : lstR S (.v (.ref n)) = none := by simp [lstR, objR, hn, unlk]
  have e2 : iterOf S .seq [.v (.ref n)] = none := by
    show (lstR S (.v (.ref n))).map _ = none
    rw [e1]
    rfl
  have e3 : lockOf .seq [.var i] [.v (.ref n)] S = some (n, kvs) := by
    show (match S[n]? with | some (.dK kvs) => if kvs.length ≤ 4096 then some (n, kvs) else none | _ => none) = _
    rw [hn]
    dsimp only
    rw [if_pos hl]
  have e4 : lcL (bindT (.var v)) (dent cx []) (elF cx el) (fun S' => decide (S'[n]? = some (.lk (.dK kvs)))) σ' (kvs.map fun kv => keyD kv.1) (S.set n (.lk (.dK kvs))) = .ok ((kvs.map fun kv => keyD kv.1).map f) (S.set n (.lk (.dK kvs))) := by
    refine lcL_all f (decide_eq_true hs) _ fun d hd => ⟨σ'.set v (some d), ?_, rfl, he d hd⟩
    show (if v < σ'.length then some (σ'.set v (some d)) else none) = _
    rw [if_pos hv]
  rw [den_lc, dens_1 (var_v hi), bind_ok', lcK_ap, e2, lcO_none, e3, lckR_some, lcG_ap, hw, e4]
  have e5 : (S.set n (O.lk (.dK kvs))).set n (.dK kvs) = S := by
    rw [List.set_set]
    refine List.ext_getElem? fun j => ?_
    by_cases e : n = j
    · subst e; rw [List.getElem?_set_self hlt, hn]
    · rw [List.getElem?_set_ne e]
  show (if (S.set n (O.lk (.dK kvs)))[n]? = some (.lk (.dK kvs)) then R.ok (T.t (.lst _)) ((S.set n (O.lk (.dK kvs))).set n (.dK kvs)) else .bad) = _
  rw [if_pos hs, e5]
end Ev
set_option Elab.async false
set_option linter.all false
set_option maxRecDepth 100000
set_option autoImplicit false
set_option maxHeartbeats 4000000
/-! Sp, part K: clauses put together, clauses without what can be dropped; the program's and the law's. -/
namespace Ev
open PySem
section
variable {tb : Tb} {i i1 i2 i3 i4 i5 : Nat}
theorem iter_lst {S : Store} {n : Nat} {ds : List D} (h : S[n]? = some (.lst ds)) : iterOf S .seq [.v (.ref n)] = some (ds, fun S' => decide (S'[n]? = S[n]?)) := by
  have e : lstR S (.v (.ref n)) = some ds := by simp [lstR, objR, unlk, h]
  show (lstR S (.v (.ref n))).map _ = _
  rw [e]
  rfl
theorem owM {cx : Cxt} {S : Store} {a b : T} : ownQ cx S .mem a b = none := own_mem cx S a b
theorem owNM {cx : Cxt} {S : Store} {a b : T} : ownQ cx S .nmem a b = none := own_nmem cx S a b
theorem owIs {cx : Cxt} {S : Store} {a b : T} : ownQ cx S .is a b = none := own_is cx S a b
theorem owNis {cx : Cxt} {S : Store} {a b : T} : ownQ cx S .nis a b = none := own_nis cx S a b
theorem owI {cx : Cxt} {S : Store} {o : Cm} {a : Int} {b : T} : ownQ cx S o (.v (.int a)) b = none := own_int cx S o a b
theorem ite_yes {cx : Cxt} {c : Ex} {a b : List Sx} {σ : Env} {S S' : Store} (h : (den cx c).b σ S = .ok true S') : exS cx (.ite c a b) σ S = exSs cx a σ S' := by
  rw [ex_ite, h, cat_ok', ifK_ap, if_pos rfl]
theorem ite_else {cx : Cxt} {c : Ex} {a b : List Sx} {σ : Env} {S S' : Store} (h : (den cx c).b σ S = .ok false S') : exS cx (.ite c a b) σ S = exSs cx b σ S' := by
  rw [ex_ite, h, cat_ok', ifK_ap, if_neg (by simp)]
theorem rt_stm {cx : Cxt} {r : List Sx} {st : Sx} {σ : Env} {S S' : Store} {d : D} (h : exS cx st σ S = .ok (.rt d) S') : exSs cx (st :: r) σ S = .ok (.rt d) S' := by
  rw [exs_cons, h, bind_ok']
  rfl
theorem b_or1 {cx : Cxt} {e e' : Ex} {σ : Env} {S S' : Store} (h : (den cx e).b σ S = .ok true S') : (den cx (.or e e')).b σ S = .ok true S' := by
  rw [denb_or, h, bind_ok', bOr_ap, if_pos rfl]
theorem e_and0 {cx : Cxt} {e e' : Ex} {σ : Env} {S S' : Store} (h : (den cx e).e σ S = .ok (.v (.bl false)) S') : (den cx (.and e e')).e σ S = .ok (.v (.bl false)) S' := by
  rw [den_and, h, bind_ok', andK_f]
theorem lst_t {cx : Cxt} {e : Ex} {σ : Env} {S S1 : Store} {ds : List D} (h : (den cx e).e σ S = .ok (.t (.lst ds)) S1) : (den cx (.nd (.bi .list) [e])).e σ S = .ok (.t (.lst ds)) S1 := bi_1 h rfl
/-- [.. for v in .. if ..] -/
theorem lcf_gen {cx : Cxt} {σ σ' : Env} {S : Store} {v : Nat} {ik : Ik} {ia : List Ex} {c el : Ex} {own : List Nat} {ts : List T} {ds : List D} {g : Store → Bool} (p : D → Bool) (f : D → D) (hi : dens cx ia σ S = .ok ts S) (ht : iterOf S ik ts = some (ds, g)) (hg : g S = true)
    (hw : wipeE σ own = σ') (hv : v < σ'.length) (hc : ∀ d ∈ ds, (den cx c).b (σ'.set v (some d)) S = .ok (p d) S) (he : ∀ d ∈ ds, p d = true → ((den cx el).e (σ'.set v (some d)) S).alloc = .ok (f d) S) : (den cx (.lc (.var v) ik ia [c] el own)).e σ S = .ok (.t (.lst ((ds.filter p).map f))) S := by
  have e2 : lcL (bindT (.var v)) (dent cx [c]) (elF cx el) g σ' ds S = .ok ((ds.filter p).map f) S := by
    refine lcL_map p f hg ds fun d hd => ⟨σ'.set v (some d), ?_, hc d hd, fun hp => he d hd hp⟩
    show (if v < σ'.length then some (σ'.set v (some d)) else none) = _
    rw [if_pos hv]
  rw [den_lc, hi, bind_ok', lcK_ap, ht, lcO_some, hw, e2]
  rfl
theorem filter_ints (p : Int → Bool) (q : D → Bool) (h : ∀ x, q (.int x) = p x) : ∀ xs : List Int, (xs.map D.int).filter q = (xs.filter p).map D.int
  | [] => rfl
  | x :: r => by
    rw [List.map_cons, List.filter_cons, h x, filter_ints p q h r, List.filter_cons]
    split <;> simp
def inI (f : Int → D) : D → D | .int x => f x | d => d
def inB (p : Int → Bool) : D → Bool | .int x => p x | _ => false
theorem map_inI (f : Int → D) (xs : List Int) : (xs.map D.int).map (inI f) = xs.map f := by rw [List.map_map]; rfl
theorem opI_half (x : Int) : opI .fdiv x 2 = some (x / 2) := opI_fdiv (by omega) (by omega)
/-- x // 2 of a variable -/
theorem half_v {cx : Cxt} {j : Nat} {σ : Env} {S : Store} {x : Int} (h : σ[j]? = some (some (.int x))) : (den cx (.nd (.op .fdiv) [(.var j), (.cst (.int 2))])).e σ S = .ok (.v (.int (x / 2))) S :=
  op_2 (var_v h) cst_v (r := .v (.int (x / 2))) (by rw [opE_int, opI_half]; rfl)
theorem dbl_v {cx : Cxt} {j : Nat} {σ : Env} {S : Store} {x : Int} (h : σ[j]? = some (some (.int x))) : (den cx (.nd (.op .mul) [(.cst (.int 2)), (.var j)])).e σ S = .ok (.v (.int (2 * x))) S :=
  op_2 cst_v (var_v h) (r := .v (.int (2 * x))) (by rw [opE_int, opI_mulL _ _ B64_2]; rfl)
theorem dbl1_v {cx : Cxt} {j : Nat} {σ : Env} {S : Store} {x : Int} (h : σ[j]? = some (some (.int x))) : (den cx (.nd (.op .add) [(.nd (.op .mul) [(.cst (.int 2)), (.var j)]), (.cst (.int 1))])).e σ S = .ok (.v (.int (2 * x + 1))) S :=
  op_2 (dbl_v h) cst_v (r := .v (.int (2 * x + 1))) (by rw [opE_int, opI_add]; rfl)
theorem cmp_ii {S : Store} {o : Cm} {x y : Int} {c : Bool} (h : cmpE S o (.v (.int x)) (.v (.int y)) = some c) {cx : Cxt} {e e' : Ex} {σ : Env} (h1 : (den cx e).e σ S = .ok (.v (.int x)) S) (h2 : (den cx e').e σ S = .ok (.v (.int y)) S) : (den cx (.nd (.cmp o) [e, e'])).e σ S = .ok (.v (.bl c)) S :=
  cmp_2 h1 h2 owI h
theorem cmNe (S : Store) (x y : Int) : cmpE S .ne (.v (.int x)) (.v (.int y)) = some (decide (x ≠ y)) := by
  unfold cmpE
  simp only [eqE_int]
  simp
theorem cmLe (S : Store) (x y : Int) : cmpE S .le (.v (.int x)) (.v (.int y)) = some (decide (x ≤ y)) := rfl
theorem cmLt (S : Store) (x y : Int) : cmpE S .lt (.v (.int x)) (.v (.int y)) = some (decide (x < y)) := rfl
/-! made_clause -/
def optT : Option (List Int) → D | none => .non | some xs => tupI xs
def madeC (xs : List Int) : Option (List Int) := if (keysL xs).any (fun x => decide (Builtin.bitXor x 1 ∈ keysL xs)) = true then none else some (sortI (keysL xs))
def madeF : Fd := ⟨1, 3, [.set (.var 1) (.dc (.var 2) .seq [(.var 0)] [] (.var 2) (.cst (.bl true)) [2]), .ite (.nd (.bi .any) [(.lc (.var 2) .seq [(.var 1)] [] (.nd (.cmp .mem) [(.nd (.op .xor) [(.var 2), (.cst (.int 1))]), (.var 1)]) [2])]) [.ret (.cst (.non))] [], .ret (.nd (.bi .tuple) [(.nd (.bi .sorted) [(.var 1)])])]⟩
theorem noRef_optT (n : Nat) (o : Option (List Int)) : noRef n (optT o) = true := by
  cases o with
  | none => rfl
  | some xs => exact noRef_of n _ (pl_tupI xs)
theorem intKs_ent : ∀ acc : List Int, intKs (acc.map entI) = some acc
  | [] => rfl
  | x :: r => by
    show (intKs (r.map entI)).map (x :: ·) = _
    rw [intKs_ent r]
    rfl
theorem madeS (h : tb.fs[i]? = some madeF) (k p : Nat) (xs : List Int) (S : Store) (hp : S[p]? = some (.lst (xs.map D.int))) (hl : xs.length ≤ 60) : runK tb (k + 1) i [.ref p] S = .ok (optT (madeC xs)) S := by
  rw [run_of h k _ _ rfl]
  show finE S (exSs (cxK tb k) madeF.body [some (.ref p), none, none] S) = _
  have hk := keysL_len xs
  have e1 : (den (cxK tb k) (.dc (.var 2) .seq [(.var 0)] [] (.var 2) (.cst (.bl true)) [2])).e [some (.ref p), none, none] S = .ok (.t (dkI (keysL xs))) S := by
    have q := dcL_ints (bnd := bindT (.var 2)) (tst := dent (cxK tb k) []) (ke := elF (cxK tb k) (.var 2)) (ve := elF (cxK tb k) (.cst (.bl true))) (gd := fun S' => decide (S'[p]? = S[p]?)) (σ := [some (.ref p), none, none]) (S := S) (by simp) xs [] (by simp; omega) fun x _ => ⟨[some (.ref p), none, some (.int x)], rfl, rfl, rfl, rfl⟩
    rw [den_dc, dens_1 (var_v rfl), bind_ok', dcK_ap, iter_lst hp, dcO_some]
    show (dcL (bindT (.var 2)) (dent (cxK tb k) []) (elF (cxK tb k) (.var 2)) (elF (cxK tb k) (.cst (.bl true))) (fun S' => decide (S'[p]? = S[p]?)) [some (.ref p), none, none] (xs.map D.int) (dkI []) S).nox.bind dcEnd = _
    rw [q]
    rfl
  have hs : (S ++ [dkI (keysL xs)])[S.length]? = some (.dK ((keysL xs).map entI)) := by simp [dkI]
  have hkeys : (((keysL xs).map entI).map fun kv => keyD kv.1) = (keysL xs).map D.int := by rw [List.map_map]; rfl
  have e2 : (den (cxK tb k) (.lc (.var 2) .seq [(.var 1)] [] (.nd (.cmp .mem) [(.nd (.op .xor) [(.var 2), (.cst (.int 1))]), (.var 1)]) [2])).e [some (.ref p), some (.ref S.length), none] (S ++ [dkI (keysL xs)]) = .ok (.t (.lst (((keysL xs).map D.int).map (inI fun x => .bl (decide (Builtin.bitXor x 1 ∈ keysL xs)))))) (S ++ [dkI (keysL xs)]) := by
    have q := lck_gen (cx := cxK tb k) (σ := [some (.ref p), some (.ref S.length), none]) (σ' := [some (.ref p), some (.ref S.length), none]) (v := 2) (i := 1) (own := [2]) (el := (.nd (.cmp .mem) [(.nd (.op .xor) [(.var 2), (.cst (.int 1))]), (.var 1)])) (inI fun x => .bl (decide (Builtin.bitXor x 1 ∈ keysL xs))) rfl hs (by rw [List.length_map]; omega) rfl (by simp) (by
      rw [hkeys]
      intro d hd
      obtain ⟨x, _, rfl⟩ := List.mem_map.mp hd
      have hm : (((S ++ [dkI (keysL xs)]).set S.length (.lk (.dK ((keysL xs).map entI))))[S.length]?).map unlk = some (dkI (keysL xs)) := by
        rw [List.getElem?_set_self (by simp)]
        rfl
      have q : cmpE ((S ++ [dkI (keysL xs)]).set S.length (.lk (.dK ((keysL xs).map entI)))) .mem (.v (.int (Builtin.bitXor x 1))) (.v (.ref S.length)) = some (decide (Builtin.bitXor x 1 ∈ keysL xs)) := mem_dkI _ hm
      rw [cmp_2 (op_2 (var_v rfl) cst_v (r := .v (.int (Builtin.bitXor x 1))) (by rw [opE_int]; rfl)) (var_v rfl) owM q]
      rfl)
    rw [hkeys] at q
    exact q
  have e3 : (den (cxK tb k) (.nd (.bi .any) [(.lc (.var 2) .seq [(.var 1)] [] (.nd (.cmp .mem) [(.nd (.op .xor) [(.var 2), (.cst (.int 1))]), (.var 1)]) [2])])).e [some (.ref p), some (.ref S.length), none] (S ++ [dkI (keysL xs)]) = .ok (.v (.bl ((keysL xs).any fun x => decide (Builtin.bitXor x 1 ∈ keysL xs)))) (S ++ [dkI (keysL xs)]) := by
    rw [map_inI] at e2
    have e3 := bi_any (S := S ++ [dkI (keysL xs)]) (ds := (keysL xs).map fun x => D.bl (decide (Builtin.bitXor x 1 ∈ keysL xs))) (bs := (keysL xs).map fun x => decide (Builtin.bitXor x 1 ∈ keysL xs)) (by rw [List.map_map]; rfl)
    rw [List.any_map] at e3
    exact bi_1 e2 e3
  have f1 := set_v (cx := cxK tb k) (j := 1) e1 (by simp)
  simp only [madeF]
  rw [set_stm f1]
  show finE S (exSs (cxK tb k) _ [some (.ref p), some (.ref S.length), none] (S ++ [dkI (keysL xs)])) = _
  unfold madeC
  cases hc : (keysL xs).any fun x => decide (Builtin.bitXor x 1 ∈ keysL xs) with
  | true =>
    rw [hc] at e3
    rw [rt_stm (d := .non) ((ite_yes (b_nd e3)).trans (ret_1 cst_v)), fin_rt, gc_app, if_pos rfl]
    rfl
  | false =>
    rw [hc] at e3
    have e4 : biE (S ++ [dkI (keysL xs)]) .sorted (.v (.ref S.length)) = some (.t (.lst ((sortI (keysL xs)).map D.int))) := by
      have g1 : lstR (S ++ [dkI (keysL xs)]) (.v (.ref S.length)) = none := by simp [lstR, objR, dkI, unlk]
      have g2 : objR (S ++ [dkI (keysL xs)]) (.v (.ref S.length)) = some (.dK ((keysL xs).map entI)) := by simp [objR, dkI, unlk]
      show (match lstR _ _ with | some ds => _ | none => _) = _
      rw [g1]
      dsimp only
      rw [g2]
      dsimp only
      rw [if_pos (by rw [List.length_map]; omega), intKs_ent]
      rfl
    rw [set_stm (ite_no (b_nd e3)), ret_1 (bi_1 (bi_1 (var_v rfl) e4) rfl), fin_rt, gc_app, if_pos (noRef_of _ _ (by rw [plD]; exact pl_ints _))]
    rfl
/-! joined_clause -/
def joinC (xs ys : List Int) (f : Int) : Option (List Int) := if 2 * f ∈ xs ∧ 2 * f + 1 ∈ ys then madeC ((xs ++ ys).filter fun l => decide (l / 2 ≠ f)) else none
def joinedF (iM : Nat) : Fd := ⟨3, 4, [.ite (.or (.nd (.cmp .nmem) [(.nd (.op .mul) [(.cst (.int 2)), (.var 2)]), (.var 0)]) (.nd (.cmp .nmem) [(.nd (.op .add) [(.nd (.op .mul) [(.cst (.int 2)), (.var 2)]), (.cst (.int 1))]), (.var 1)])) [.ret (.cst (.non))] [], .ret (.na (.call iM) [(.lc (.var 3) .seq [(.nd (.op .add) [(.var 0), (.var 1)])] [(.nd (.cmp .ne) [(.nd (.op .fdiv) [(.var 3), (.cst (.int 2))]), (.var 2)])] (.var 3) [3])])]⟩
theorem nmem_tupI (S : Store) (x : Int) (xs : List Int) : cmpE S .nmem (.v (.int x)) (.v (tupI xs)) = some (!decide (x ∈ xs)) := by
  unfold cmpE
  simp only [mem_tupI]
  rfl
theorem tupI_add (S : Store) (xs ys : List Int) (h : xs.length + ys.length ≤ 1000) : opE S .add (.v (tupI xs)) (.v (tupI ys)) = some (.v (tupI (xs ++ ys))) := by
  show (if (xs.map D.int).length + (ys.map D.int).length ≤ sizeLine then some (T.v (.tup (xs.map D.int ++ ys.map D.int))) else none) = _
  rw [if_pos (by rw [size_line, List.length_map, List.length_map]; omega), ← List.map_append]
  rfl
theorem joinedS (h1 : tb.fs[i1]? = some madeF) (h : tb.fs[i]? = some (joinedF i1)) (k : Nat) (xs ys : List Int) (f : Int) (S : Store) (hl : xs.length + ys.length ≤ 60) : runK tb (k + 2) i [tupI xs, tupI ys, .int f] S = .ok (optT (joinC xs ys f)) S := by
  rw [run_of h (k + 1) _ _ rfl]
  show finE S (exSs (cxK tb (k + 1)) (joinedF i1).body [some (tupI xs), some (tupI ys), some (.int f), none] S) = _
  have c1 : (den (cxK tb (k + 1)) (.nd (.cmp .nmem) [(.nd (.op .mul) [(.cst (.int 2)), (.var 2)]), (.var 0)])).e [some (tupI xs), some (tupI ys), some (.int f), none] S = .ok (.v (.bl (!decide (2 * f ∈ xs)))) S := cmp_2 (dbl_v rfl) (var_v rfl) owNM (nmem_tupI S _ _)
  have c2 : (den (cxK tb (k + 1)) (.nd (.cmp .nmem) [(.nd (.op .add) [(.nd (.op .mul) [(.cst (.int 2)), (.var 2)]), (.cst (.int 1))]), (.var 1)])).e [some (tupI xs), some (tupI ys), some (.int f), none] S = .ok (.v (.bl (!decide (2 * f + 1 ∈ ys)))) S := cmp_2 (dbl1_v rfl) (var_v rfl) owNM (nmem_tupI S _ _)
  simp only [joinedF]
  unfold joinC
  by_cases g1 : 2 * f ∈ xs
  · rw [decide_eq_true g1] at c1
    by_cases g2 : 2 * f + 1 ∈ ys
    · rw [decide_eq_true g2] at c2
      rw [if_pos ⟨g1, g2⟩, set_stm (ite_no (b_or (b_nd c1) (b_nd c2)))]
      have e1 := lcf_gen (cx := cxK tb (k + 1)) (σ := [some (tupI xs), some (tupI ys), some (.int f), none]) (σ' := [some (tupI xs), some (tupI ys), some (.int f), none]) (S := S) (v := 3) (ik := .seq) (own := [3]) (c := (.nd (.cmp .ne) [(.nd (.op .fdiv) [(.var 3), (.cst (.int 2))]), (.var 2)])) (el := .var 3) (ds := (xs ++ ys).map D.int) (g := fun _ => true)
        (inB fun l => decide (l / 2 ≠ f)) id (dens_1 (op_2 (e := .var 0) (e' := .var 1) (var_v rfl) (var_v rfl) (tupI_add S xs ys (by omega)))) rfl rfl rfl (by simp) (fun d hd => by
          obtain ⟨x, _, rfl⟩ := List.mem_map.mp hd
          exact b_nd (cmp_ii (cmNe S _ _) (half_v rfl) (var_v rfl))) (fun d hd _ => rfl)
      rw [List.map_id, filter_ints (fun l => decide (l / 2 ≠ f)) _ (fun _ => rfl)] at e1
      have e2 := madeS h1 k S.length ((xs ++ ys).filter fun l => decide (l / 2 ≠ f)) (S ++ [.lst (((xs ++ ys).filter fun l => decide (l / 2 ≠ f)).map D.int)]) (by simp) (by
        have := List.length_filter_le (fun l => decide (l / 2 ≠ f)) (xs ++ ys)
        rw [List.length_append] at this
        omega)
      rw [ret_1 (call_d (cx := cxK tb (k + 1)) (ded_1 e1) e2), fin_rt, gc_app, if_pos (noRef_optT _ _)]
    · rw [decide_eq_false g2] at c2
      rw [if_neg (fun z => g2 z.2), rt_stm (d := .non) ((ite_yes (b_or (b_nd c1) (b_nd c2))).trans (ret_1 cst_v)), fin_rt, gc_same]
      rfl
  · rw [decide_eq_false g1] at c1
    rw [if_neg (fun z => g1 z.1), rt_stm (d := .non) ((ite_yes (b_or1 (b_nd c1))).trans (ret_1 cst_v)), fin_rt, gc_same]
    rfl
/-! dropped_clause -/
def bAt (bs : List Bool) (x : Int) : Bool := bs.getD (x / 2).toNat false
def lastC (bs : List Bool) (xs : List Int) : Int := ((xs.filter (bAt bs)).map (· / 2)).foldl (fun a b => if b > a then b else a) (-1)
def dropC (bs : List Bool) (xs : List Int) : List Int := xs.filter fun l => decide (l / 2 ≤ lastC bs xs)
def droppedF : Fd := ⟨2, 4, [.set (.var 2) (.nd (.bi .max) [(.nd (.op .add) [(.na .lst [(.nd .neg [(.cst (.int 1))])]), (.nd (.bi .list) [(.lc (.var 3) .seq [(.var 1)] [(.nd .idx [(.var 0), (.nd (.op .fdiv) [(.var 3), (.cst (.int 2))])])] (.nd (.op .fdiv) [(.var 3), (.cst (.int 2))]) [3])])])]), .ret (.nd (.bi .tuple) [(.lc (.var 3) .seq [(.var 1)] [(.nd (.cmp .le) [(.nd (.op .fdiv) [(.var 3), (.cst (.int 2))]), (.var 2)])] (.var 3) [3])])]⟩
theorem idx_tup {S : Store} {ds : List D} {j : Int} {d : D} (h : L2.atI ds j = some d) : idxE S (.v (.tup ds)) (.v (.int j)) = some d := h
theorem bAt_at {bs : List Bool} {x : Int} (h0 : 0 ≤ x) (h1 : x / 2 < bs.length) : L2.atI (bs.map D.bl) (x / 2) = some (.bl (bAt bs x)) := by
  obtain ⟨m, hm⟩ : ∃ m : Nat, x / 2 = m := ⟨(x / 2).toNat, by omega⟩
  have hlt : m < bs.length := by omega
  rw [hm, atI_get _ m (by rw [List.length_map]; exact hlt), List.getElem_map]
  unfold bAt
  rw [hm, Int.toNat_natCast, List.getD_eq_getElem?_getD, List.getElem?_eq_getElem hlt]
  rfl
theorem neg1 {cx : Cxt} {σ : Env} {S : Store} : (den cx (.na .lst [(.nd .neg [(.cst (.int 1))])])).e σ S = .ok (.t (.lst [.int (-1)])) S := by
  have e : (den cx (.nd .neg [(.cst (.int 1))])).e σ S = .ok (.v (.int (-1))) S := by
    rw [nd_1 cst_v]
    rfl
  exact lst_1 (ded_1 e) (by simp)
theorem max_cons (S : Store) (xs : List Int) : biE S .max (.t (.lst (D.int (-1) :: xs.map D.int))) = some (.v (.int (xs.foldl (fun a b => if b > a then b else a) (-1)))) := by
  have e : intsOf (D.int (-1) :: xs.map D.int) = some (-1 :: xs) := intsOf_ints (-1 :: xs)
  have e0 : lstR S (.t (.lst (D.int (-1) :: xs.map D.int))) = some (D.int (-1) :: xs.map D.int) := rfl
  unfold biE
  simp only [e0, Option.bind_some, e, maxL, Option.map_some]
theorem drop_ret {cx : Cxt} {S : Store} (v w q : Nat) {σ : Env} {xs : List Int} {m : Int} (hv : σ[v]? = some (some (tupI xs))) (hw : (wipeE σ [w]) = σ) (hwl : w < σ.length) (hq : ∀ d, (σ.set w (some d))[q]? = some (some (.int m))) (hv2 : ∀ d, (σ.set w (some d))[w]? = some (some d)) :
    exSs cx [.ret (.nd (.bi .tuple) [(.lc (.var w) .seq [(.var v)] [(.nd (.cmp .le) [(.nd (.op .fdiv) [(.var w), (.cst (.int 2))]), (.var q)])] (.var w) [w])])] σ S = .ok (.rt (tupI (xs.filter fun l => decide (l / 2 ≤ m)))) S := by
  have e1 := lcf_gen (cx := cx) (σ := σ) (σ' := σ) (S := S) (v := w) (ik := .seq) (own := [w]) (ia := [.var v]) (c := (.nd (.cmp .le) [(.nd (.op .fdiv) [(.var w), (.cst (.int 2))]), (.var q)])) (el := .var w) (ds := xs.map D.int) (g := fun _ => true)
    (inB fun l => decide (l / 2 ≤ m)) id (dens_1 (var_v hv)) rfl rfl hw hwl (fun d hd => by
      obtain ⟨x, _, rfl⟩ := List.mem_map.mp hd
      exact b_nd (cmp_ii (cmLe S _ _) (half_v (hv2 _)) (var_v (hq _)))) (fun d hd _ => by rw [var_v (hv2 d)]; rfl)
  rw [List.map_id, filter_ints (fun l => decide (l / 2 ≤ m)) _ (fun _ => rfl)] at e1
  exact ret_1 (bi_1 e1 rfl)
theorem droppedS (h : tb.fs[i]? = some droppedF) (k : Nat) (bs : List Bool) (xs : List Int) (S : Store) (hx : ∀ x ∈ xs, 0 ≤ x ∧ x / 2 < bs.length) (hl : xs.length ≤ 60) : runK tb (k + 1) i [.tup (bs.map D.bl), tupI xs] S = .ok (tupI (dropC bs xs)) S := by
  rw [run_of h k _ _ rfl]
  show finE S (exSs (cxK tb k) droppedF.body [some (.tup (bs.map D.bl)), some (tupI xs), none, none] S) = _
  have e1 := lcf_gen (cx := cxK tb k) (σ := [some (.tup (bs.map D.bl)), some (tupI xs), none, none]) (σ' := [some (.tup (bs.map D.bl)), some (tupI xs), none, none]) (S := S) (v := 3) (ik := .seq) (own := [3]) (ia := [.var 1]) (c := (.nd .idx [(.var 0), (.nd (.op .fdiv) [(.var 3), (.cst (.int 2))])])) (el := (.nd (.op .fdiv) [(.var 3), (.cst (.int 2))])) (ds := xs.map D.int) (g := fun _ => true)
    (inB (bAt bs)) (inI fun x => .int (x / 2)) (dens_1 (var_v rfl)) rfl rfl rfl (by simp) (fun d hd => by
      obtain ⟨x, hm, rfl⟩ := List.mem_map.mp hd
      exact b_nd (idx_2 (var_v rfl) (half_v rfl) (idx_tup (bAt_at (hx x hm).1 (hx x hm).2)))) (fun d hd _ => by
      obtain ⟨x, hm, rfl⟩ := List.mem_map.mp hd
      rw [half_v rfl]
      rfl)
  rw [filter_ints (bAt bs) _ (fun _ => rfl), map_inI] at e1
  have e2 : ((xs.filter (bAt bs)).map fun x => D.int (x / 2)) = (((xs.filter (bAt bs)).map (· / 2)).map D.int) := by rw [List.map_map]; rfl
  rw [e2] at e1
  have hlen := List.length_filter_le (bAt bs) xs
  have e3 := op_2 (cx := cxK tb k) (neg1 (σ := [some (.tup (bs.map D.bl)), some (tupI xs), none, none])) (lst_t e1) (cat_lst S [.int (-1)] _ (by simp; omega))
  rw [List.singleton_append] at e3
  have f1 := set_v (cx := cxK tb k) (j := 2) (bi_1 e3 (max_cons S _)) (by simp)
  simp only [droppedF]
  rw [set_stm f1]
  show finE S (exSs (cxK tb k) _ [some (.tup (bs.map D.bl)), some (tupI xs), some (.int (lastC bs xs)), none] S) = _
  rw [drop_ret 1 3 2 (xs := xs) (m := lastC bs xs) rfl rfl (by simp) (fun _ => rfl) (fun _ => rfl), fin_rt, gc_same]
  rfl
/-! the law's own: _law_joined, _law_dropped -/
def lawDroppedF : Fd := ⟨3, 5, [.set (.var 3) (.nd (.bi .max) [(.nd (.op .add) [(.na .lst [(.nd .neg [(.cst (.int 1))])]), (.lc (.var 4) .seq [(.var 2)] [(.nd (.cmp .ne) [(.nd .idx [(.var 0), (.nd (.op .fdiv) [(.var 4), (.cst (.int 2))])]), (.var 1)])] (.nd (.op .fdiv) [(.var 4), (.cst (.int 2))]) [4])])]), .ret (.nd (.bi .tuple) [(.lc (.var 4) .seq [(.var 2)] [(.nd (.cmp .le) [(.nd (.op .fdiv) [(.var 4), (.cst (.int 2))]), (.var 3)])] (.var 4) [4])])]⟩
theorem lawDroppedS (h : tb.fs[i]? = some lawDroppedF) (k : Nat) (bs : List Bool) (xs : List Int) (S : Store) (hx : ∀ x ∈ xs, 0 ≤ x ∧ x / 2 < bs.length) (hl : xs.length ≤ 60) : runK tb (k + 1) i [.tup (bs.map D.bl), .bl false, tupI xs] S = .ok (tupI (dropC bs xs)) S := by
  rw [run_of h k _ _ rfl]
  show finE S (exSs (cxK tb k) lawDroppedF.body [some (.tup (bs.map D.bl)), some (.bl false), some (tupI xs), none, none] S) = _
  have e1 := lcf_gen (cx := cxK tb k) (σ := [some (.tup (bs.map D.bl)), some (.bl false), some (tupI xs), none, none]) (σ' := [some (.tup (bs.map D.bl)), some (.bl false), some (tupI xs), none, none]) (S := S) (v := 4) (ik := .seq) (own := [4]) (ia := [.var 2]) (c := (.nd (.cmp .ne) [(.nd .idx [(.var 0), (.nd (.op .fdiv) [(.var 4), (.cst (.int 2))])]), (.var 1)])) (el := (.nd (.op .fdiv) [(.var 4), (.cst (.int 2))])) (ds := xs.map D.int) (g := fun _ => true)
    (inB (bAt bs)) (inI fun x => .int (x / 2)) (dens_1 (var_v rfl)) rfl rfl rfl (by simp) (fun d hd => by
      obtain ⟨x, hm, rfl⟩ := List.mem_map.mp hd
      have q : cmpE S .ne (.v (.bl (bAt bs x))) (.v (.bl false)) = some (bAt bs x) := by
        unfold cmpE
        simp only [eqE_bl]
        cases bAt bs x <;> rfl
      exact b_nd (cmp_2 (idx_2 (var_v rfl) (half_v rfl) (idx_tup (bAt_at (hx x hm).1 (hx x hm).2))) (var_v rfl) (plD_data rfl) q)) (fun d hd _ => by
      obtain ⟨x, hm, rfl⟩ := List.mem_map.mp hd
      rw [half_v rfl]
      rfl)
  rw [filter_ints (bAt bs) _ (fun _ => rfl), map_inI] at e1
  have e2 : ((xs.filter (bAt bs)).map fun x => D.int (x / 2)) = (((xs.filter (bAt bs)).map (· / 2)).map D.int) := by rw [List.map_map]; rfl
  rw [e2] at e1
  have hlen := List.length_filter_le (bAt bs) xs
  have e3 := op_2 (cx := cxK tb k) (neg1 (σ := [some (.tup (bs.map D.bl)), some (.bl false), some (tupI xs), none, none])) e1 (cat_lst S [.int (-1)] _ (by simp; omega))
  rw [List.singleton_append] at e3
  have f1 := set_v (cx := cxK tb k) (j := 3) (bi_1 e3 (max_cons S _)) (by simp)
  simp only [lawDroppedF]
  rw [set_stm f1]
  show finE S (exSs (cxK tb k) _ [some (.tup (bs.map D.bl)), some (.bl false), some (tupI xs), some (.int (lastC bs xs)), none] S) = _
  rw [drop_ret 2 4 3 (xs := xs) (m := lastC bs xs) rfl rfl (by simp) (fun _ => rfl) (fun _ => rfl), fin_rt, gc_same]
  rfl
end
end Ev
set_option Elab.async false
set_option linter.all false
set_option maxRecDepth 100000
set_option autoImplicit false
set_option maxHeartbeats 4000000
/-! Sp, part L: the law's _law_joined, _law_is_cube; is_told; that the two ways of joining agree. -/
namespace Ev
open PySem
section
variable {tb : Tb} {i i1 i2 i3 i4 i5 : Nat}
def halfEx (v w : Nat) : Ex := .nd (.bi .all) [(.lc (.var w) .rng [(.cst (.int 1)), (.nd (.bi .len) [(.var v)])] [] (.nd (.cmp .lt) [(.nd (.op .fdiv) [(.nd .idx [(.var v), (.nd (.op .sub) [(.var w), (.cst (.int 1))])]), (.cst (.int 2))]), (.nd (.op .fdiv) [(.nd .idx [(.var v), (.var w)]), (.cst (.int 2))])]) [w])]
theorem halfG {cx : Cxt} {σ : Env} {S : Store} {xs : List Int} (v w : Nat) (t : D) (hv : σ[v]? = some (some t)) (hw : wipeE σ [w] = σ) (hwl : w < σ.length) (hvv : ∀ d, (σ.set w (some d))[v]? = some (some t)) (hlen : biE S .len (.v t) = some (.v (.int xs.length)))
    (hix : ∀ (j : Int) (y : Int), L2.atI (xs.map D.int) j = some (.int y) → idxE S (.v t) (.v (.int j)) = some (.int y)) (hl : xs.length ≤ 16777216) : (den cx (halfEx v w)).e σ S = .ok (.v (.bl (asc ltI (xs.map (· / 2))))) S := by
  have hn : (den cx (.nd (.bi .len) [(.var v)])).e σ S = .ok (.v (.int xs.length)) S := bi_1 (var_v hv) hlen
  have hww : ∀ d, (σ.set w (some d))[w]? = some (some d) := fun d => List.getElem?_set_self hwl
  unfold halfEx
  rw [all_from1 (σ' := σ) (ltAt ltI (xs.map (· / 2))) hn hl hw hwl fun m hm => ?_]
  · have e := asc_at ltI (xs.map (· / 2))
    rw [List.length_map] at e
    rw [e]
  · have a1 : L2.atI (xs.map D.int) (m : Int) = some (.int xs[m]) := by
      rw [atI_get _ m (by rw [List.length_map]; omega), List.getElem_map]
    have a2 : L2.atI (xs.map D.int) (1 + (m : Int)) = some (.int xs[m + 1]) := by
      have e : 1 + (m : Int) = ((m + 1 : Nat) : Int) := by omega
      rw [e, atI_get _ (m + 1) (by rw [List.length_map]; omega), List.getElem_map]
    have e1 : (1 + (m : Int) - 1) = (m : Int) := by omega
    have hq : ltAt ltI (xs.map (· / 2)) m = decide (xs[m] / 2 < xs[m + 1] / 2) := by
      rw [ltAt_of (a := xs[m] / 2) (b := xs[m + 1] / 2) (by rw [List.getElem?_map, List.getElem?_eq_getElem (by omega)]; rfl) (by rw [List.getElem?_map, List.getElem?_eq_getElem (by omega)]; rfl)]
      rfl
    rw [hq]
    have g1 : (den cx (.nd (.op .sub) [(.var w), (.cst (.int 1))])).e (σ.set w (some (.int (1 + (m : Int))))) S = .ok (.v (.int m)) S := op_2 (var_v (hww _)) cst_v (r := .v (.int m)) (by rw [opE_int, opI_sub, e1]; rfl)
    have g2 : (den cx (.nd (.op .fdiv) [(.nd .idx [(.var v), (.nd (.op .sub) [(.var w), (.cst (.int 1))])]), (.cst (.int 2))])).e (σ.set w (some (.int (1 + (m : Int))))) S = .ok (.v (.int (xs[m] / 2))) S :=
      op_2 (idx_2 (var_v (hvv _)) g1 (hix _ _ a1)) cst_v (r := .v (.int (xs[m] / 2))) (by rw [opE_int, opI_half]; rfl)
    have g3 : (den cx (.nd (.op .fdiv) [(.nd .idx [(.var v), (.var w)]), (.cst (.int 2))])).e (σ.set w (some (.int (1 + (m : Int))))) S = .ok (.v (.int (xs[m + 1] / 2))) S :=
      op_2 (idx_2 (var_v (hvv _)) (var_v (hww _)) (hix _ _ a2)) cst_v (r := .v (.int (xs[m + 1] / 2))) (by rw [opE_int, opI_half]; rfl)
    exact cmp_ii (cmLt S _ _) g2 g3
theorem b_half {cx : Cxt} {v w : Nat} {σ : Env} {S S' : Store} {c : Bool} (h : (den cx (halfEx v w)).e σ S = .ok (.v (.bl c)) S') : (den cx (.not (halfEx v w))).b σ S = .ok (!c) S' := by
  have q : (den cx (halfEx v w)).b σ S = .ok c S' := b_nd h
  exact b_not q
theorem mem_lstI {S : Store} {n : Nat} {xs : List Int} (x : Int) (hn : S[n]? = some (.lst (xs.map D.int))) : memE S (.v (.int x)) (.v (.ref n)) = some (decide (x ∈ xs)) := by
  have e : lstR S (.v (.ref n)) = some (xs.map D.int) := by simp [lstR, objR, unlk, hn]
  rw [memE_lst (by simp [plD]) (by simp [dpD]) e (pl_ints xs) (by rw [dp_ints]; omega), List.any_map]
  congr 1
  rw [Bool.eq_iff_iff, List.any_eq_true, decide_eq_true_eq]
  constructor
  · rintro ⟨y, hy, e⟩
    have := (eqP_eq true (.int y) (.int x) rfl rfl rfl rfl).mp e
    injection this with this
    rw [← this]
    exact hy
  · exact fun h => ⟨x, h, eqP_self (by simp [plD])⟩
theorem bi_sortI (S : Store) (xs : List Int) : biE S .sorted (.t (.lst (xs.map D.int))) = some (.t (.lst ((sortI xs).map D.int))) := by
  show (sortD (xs.map D.int)).map _ = _
  rw [sortD_ints]
  rfl
theorem cat_rt {S : Store} {n : Nat} {xs ys : List D} (hn : S[n]? = some (.lst xs)) (h : xs.length + ys.length ≤ 1000) : opE S .add (.v (.ref n)) (.t (.lst ys)) = some (.t (.lst (xs ++ ys))) := by
  have g1 : lstW S (.v (.ref n)) = some xs := by simp [lstW, objW, hn]
  have g2 : lstW S (.t (.lst ys)) = some ys := rfl
  show (match lstW S _, lstW S _ with
    | some xs, some ys => if xs.length + ys.length ≤ sizeLine then some (T.t (.lst (xs ++ ys))) else none
    | _, _ => none) = _
  rw [g1, g2]
  dsimp only
  rw [if_pos (by rw [size_line]; omega)]
def lawR1 (xs : List Int) (f : Int) : List Int := sortI (xs.filter fun l => decide (l / 2 ≠ f))
def lawR2 (xs ys : List Int) (f : Int) : List Int := sortI (lawR1 xs f ++ ys.filter fun l => decide (l / 2 ≠ f) && !decide (l ∈ lawR1 xs f))
def lawJ (xs ys : List Int) (f : Int) : Option (List Int) := if 2 * f ∈ xs ∧ 2 * f + 1 ∈ ys then (if asc ltI ((lawR2 xs ys f).map (· / 2)) = true then some (lawR2 xs ys f) else none) else none
def lawJoinedF : Fd := ⟨3, 6, [.ite (.or (.nd (.cmp .nmem) [(.nd (.op .mul) [(.cst (.int 2)), (.var 2)]), (.var 0)]) (.nd (.cmp .nmem) [(.nd (.op .add) [(.nd (.op .mul) [(.cst (.int 2)), (.var 2)]), (.cst (.int 1))]), (.var 1)])) [.ret (.cst (.non))] [], .set (.var 3) (.nd (.bi .sorted) [(.lc (.var 4) .seq [(.var 0)] [(.nd (.cmp .ne) [(.nd (.op .fdiv) [(.var 4), (.cst (.int 2))]), (.var 2)])] (.var 4) [4])]), .set (.var 3) (.nd (.bi .sorted) [(.nd (.op .add) [(.var 3), (.lc (.var 4) .seq [(.var 1)] [(.and (.nd (.cmp .ne) [(.nd (.op .fdiv) [(.var 4), (.cst (.int 2))]), (.var 2)]) (.nd (.cmp .nmem) [(.var 4), (.var 3)]))] (.var 4) [4])])]), .ite (.not (halfEx 3 5)) [.ret (.cst (.non))] [], .ret (.nd (.bi .tuple) [(.var 3)])]⟩
theorem sortI_len (xs : List Int) : (sortI xs).length = xs.length := (sortI_perm xs).length_eq
theorem lawJoinedS (h : tb.fs[i]? = some lawJoinedF) (k : Nat) (xs ys : List Int) (f : Int) (S : Store) (hl : xs.length + ys.length ≤ 60) : runK tb (k + 1) i [tupI xs, tupI ys, .int f] S = .ok (optT (lawJ xs ys f)) S := by
  rw [run_of h k _ _ rfl]
  show finE S (exSs (cxK tb k) lawJoinedF.body [some (tupI xs), some (tupI ys), some (.int f), none, none, none] S) = _
  have c1 : (den (cxK tb k) (.nd (.cmp .nmem) [(.nd (.op .mul) [(.cst (.int 2)), (.var 2)]), (.var 0)])).e [some (tupI xs), some (tupI ys), some (.int f), none, none, none] S = .ok (.v (.bl (!decide (2 * f ∈ xs)))) S := cmp_2 (dbl_v rfl) (var_v rfl) owNM (nmem_tupI S _ _)
  have c2 : (den (cxK tb k) (.nd (.cmp .nmem) [(.nd (.op .add) [(.nd (.op .mul) [(.cst (.int 2)), (.var 2)]), (.cst (.int 1))]), (.var 1)])).e [some (tupI xs), some (tupI ys), some (.int f), none, none, none] S = .ok (.v (.bl (!decide (2 * f + 1 ∈ ys)))) S := cmp_2 (dbl1_v rfl) (var_v rfl) owNM (nmem_tupI S _ _)
  simp only [lawJoinedF]
  unfold lawJ
  by_cases g1 : 2 * f ∈ xs
  · rw [decide_eq_true g1] at c1
    by_cases g2 : 2 * f + 1 ∈ ys
    · rw [decide_eq_true g2] at c2
      rw [if_pos ⟨g1, g2⟩, set_stm (ite_no (b_or (b_nd c1) (b_nd c2)))]
      have hfx := List.length_filter_le (fun l => decide (l / 2 ≠ f)) xs
      have hr1 : (lawR1 xs f).length ≤ xs.length := by unfold lawR1; rw [sortI_len]; exact hfx
      have hfy := List.length_filter_le (fun l => decide (l / 2 ≠ f) && !decide (l ∈ lawR1 xs f)) ys
      have hr2 : (lawR2 xs ys f).length ≤ 60 := by unfold lawR2; rw [sortI_len, List.length_append]; omega
      have e1 := lcf_gen (cx := cxK tb k) (σ := [some (tupI xs), some (tupI ys), some (.int f), none, none, none]) (σ' := [some (tupI xs), some (tupI ys), some (.int f), none, none, none]) (S := S) (v := 4) (ik := .seq) (own := [4]) (ia := [.var 0]) (c := (.nd (.cmp .ne) [(.nd (.op .fdiv) [(.var 4), (.cst (.int 2))]), (.var 2)])) (el := .var 4) (ds := xs.map D.int) (g := fun _ => true)
        (inB fun l => decide (l / 2 ≠ f)) id (dens_1 (var_v rfl)) rfl rfl rfl (by simp) (fun d hd => by
          obtain ⟨x, _, rfl⟩ := List.mem_map.mp hd
          exact b_nd (cmp_ii (cmNe S _ _) (half_v rfl) (var_v rfl))) (fun d hd _ => rfl)
      rw [List.map_id, filter_ints (fun l => decide (l / 2 ≠ f)) _ (fun _ => rfl)] at e1
      have f1 := set_v (cx := cxK tb k) (j := 3) (bi_1 e1 (bi_sortI S _)) (by simp)
      rw [set_stm f1]
      show finE S (exSs (cxK tb k) _ [some (tupI xs), some (tupI ys), some (.int f), some (.ref S.length), none, none] (S ++ [.lst ((lawR1 xs f).map D.int)])) = _
      have hS1 : (S ++ [O.lst ((lawR1 xs f).map D.int)])[S.length]? = some (.lst ((lawR1 xs f).map D.int)) := by simp
      have e2 := lcf_gen (cx := cxK tb k) (σ := [some (tupI xs), some (tupI ys), some (.int f), some (.ref S.length), none, none]) (σ' := [some (tupI xs), some (tupI ys), some (.int f), some (.ref S.length), none, none]) (S := S ++ [.lst ((lawR1 xs f).map D.int)]) (v := 4) (ik := .seq) (own := [4]) (ia := [.var 1]) (c := (.and (.nd (.cmp .ne) [(.nd (.op .fdiv) [(.var 4), (.cst (.int 2))]), (.var 2)]) (.nd (.cmp .nmem) [(.var 4), (.var 3)]))) (el := .var 4) (ds := ys.map D.int) (g := fun _ => true)
        (inB fun l => decide (l / 2 ≠ f) && !decide (l ∈ lawR1 xs f)) id (dens_1 (var_v rfl)) rfl rfl rfl (by simp) (fun d hd => by
          obtain ⟨x, _, rfl⟩ := List.mem_map.mp hd
          have q1 := cmp_ii (cx := cxK tb k) (e := (.nd (.op .fdiv) [(.var 4), (.cst (.int 2))])) (e' := .var 2) (σ := [some (tupI xs), some (tupI ys), some (.int f), some (.ref S.length), some (.int x), none]) (cmNe (S ++ [.lst ((lawR1 xs f).map D.int)]) (x / 2) f) (half_v rfl) (var_v rfl)
          have q2 : cmpE (S ++ [.lst ((lawR1 xs f).map D.int)]) .nmem (.v (.int x)) (.v (.ref S.length)) = some (!decide (x ∈ lawR1 xs f)) := by
            unfold cmpE
            simp only [mem_lstI x hS1]
            rfl
          show _ = R.ok (decide (x / 2 ≠ f) && !decide (x ∈ lawR1 xs f)) _
          cases hq : decide (x / 2 ≠ f) with
          | true =>
            rw [hq] at q1
            exact b_and (b_nd q1) (b_nd (cmp_2 (var_v rfl) (var_v rfl) owNM q2))
          | false =>
            rw [hq] at q1
            exact b_and0 (b_nd q1)) (fun d hd _ => rfl)
      rw [List.map_id, filter_ints (fun l => decide (l / 2 ≠ f) && !decide (l ∈ lawR1 xs f)) _ (fun _ => rfl)] at e2
      have e3 := op_2 (cx := cxK tb k) (e := .var 3) (var_v rfl) e2 (cat_rt hS1 (by rw [List.length_map, List.length_map]; omega))
      rw [← List.map_append] at e3
      have f2 := set_v (cx := cxK tb k) (j := 3) (bi_1 e3 (bi_sortI _ _)) (by simp)
      rw [set_stm f2]
      have hS2 : ((S ++ [O.lst ((lawR1 xs f).map D.int)]) ++ [O.lst ((lawR2 xs ys f).map D.int)])[S.length + 1]? = some (.lst ((lawR2 xs ys f).map D.int)) := by simp
      have hen : (S ++ [O.lst ((lawR1 xs f).map D.int)]).length = S.length + 1 := by simp
      show finE S (exSs (cxK tb k) _ [some (tupI xs), some (tupI ys), some (.int f), some (.ref (S ++ [O.lst ((lawR1 xs f).map D.int)]).length), none, none] ((S ++ [O.lst ((lawR1 xs f).map D.int)]) ++ [O.lst ((lawR2 xs ys f).map D.int)])) = _
      rw [hen]
      generalize hSS : (S ++ [O.lst ((lawR1 xs f).map D.int)]) ++ [O.lst ((lawR2 xs ys f).map D.int)] = S2 at hS2
      have hseq : seqR S2 (.v (.ref (S.length + 1))) = some ((lawR2 xs ys f).map D.int) := by simp [seqR, lstR, objR, unlk, hS2]
      have e4 := halfG (cx := cxK tb k) (σ := [some (tupI xs), some (tupI ys), some (.int f), some (.ref (S.length + 1)), none, none]) (S := S2) (xs := lawR2 xs ys f) 3 5 (.ref (S.length + 1)) rfl rfl (by simp) (fun _ => rfl) (by simp [biE, hseq]) (fun j y hj => idx_lst hS2 hj) (by omega)
      cases hc : asc ltI ((lawR2 xs ys f).map (· / 2)) with
      | false =>
        rw [hc] at e4
        rw [rt_stm (d := .non) ((ite_yes (b_half e4)).trans (ret_1 cst_v)), fin_rt, ← hSS, List.append_assoc, gc_app, if_pos (show noRef S.length .non = true from rfl)]
        rfl
      | true =>
        rw [hc] at e4
        have e5 : biE S2 .tuple (.v (.ref (S.length + 1))) = some (.v (tupI (lawR2 xs ys f))) := by
          show (seqR S2 _).map _ = _
          rw [hseq]
          rfl
        rw [set_stm (ite_no (b_half e4)), ret_1 (bi_1 (var_v rfl) e5), fin_rt, ← hSS, List.append_assoc, gc_app, if_pos (noRef_of _ _ (pl_tupI _))]
        rfl
    · rw [decide_eq_false g2] at c2
      rw [if_neg (fun z => g2 z.2), rt_stm (d := .non) ((ite_yes (b_or (b_nd c1) (b_nd c2))).trans (ret_1 cst_v)), fin_rt, gc_same]
      rfl
  · rw [decide_eq_false g1] at c1
    rw [if_neg (fun z => g1 z.1), rt_stm (d := .non) ((ite_yes (b_or1 (b_nd c1))).trans (ret_1 cst_v)), fin_rt, gc_same]
    rfl
/-! the two ways agree -/
theorem xor1 : ∀ n : Nat, n < 1024 → Builtin.bitXor (n : Int) 1 = if n % 2 = 0 then (n : Int) + 1 else (n : Int) - 1 := by
  decide +kernel
theorem xor1_half {x : Int} (h0 : 0 ≤ x) (h1 : x < 1000) : Builtin.bitXor x 1 / 2 = x / 2 ∧ Builtin.bitXor x 1 ≠ x ∧ ∀ y : Int, y / 2 = x / 2 → y ≠ x → y = Builtin.bitXor x 1 := by
  obtain ⟨n, rfl⟩ : ∃ n : Nat, x = n := ⟨x.toNat, by omega⟩
  rw [xor1 n (by omega)]
  split
  · refine ⟨by omega, by omega, fun y hy hn => by omega⟩
  · refine ⟨by omega, by omega, fun y hy hn => by omega⟩
theorem perm_nodup {xs ys : List Int} (h1 : xs.Nodup) (h2 : ys.Nodup) (h : ∀ x, x ∈ xs ↔ x ∈ ys) : xs.Perm ys := (List.perm_ext_iff_of_nodup h1 h2).mpr h
theorem sortI_uniq {xs ys : List Int} (h : xs.Perm ys) : sortI xs = sortI ys := sortI_of (h.symm.trans (sortI_perm xs).symm).symm (sortI_sorted xs)
theorem clauseI_nodup {m : Int} {xs : List Int} (h : clauseI m xs = true) : xs.Nodup ∧ (∀ x ∈ xs, 0 ≤ x ∧ x < 2 * m) ∧ (xs.map (· / 2)).Nodup ∧ sortI xs = xs := by
  unfold clauseI at h
  rw [Bool.and_eq_true, Bool.and_eq_true] at h
  obtain ⟨h1, h2, h3⟩ := h
  have pw : ∀ (l : List Int), asc ltI l = true → l.Pairwise (· < ·) := by
    intro l
    induction l with
    | nil => intro _; exact .nil
    | cons a r ih =>
      intro h
      cases r with
      | nil => exact List.pairwise_singleton _ _
      | cons b r =>
        rw [asc, Bool.and_eq_true] at h
        have i1 := ih h.2
        have lt : a < b := of_decide_eq_true h.1
        refine List.pairwise_cons.mpr ⟨fun c hc => ?_, i1⟩
        rcases List.mem_cons.mp hc with rfl | hc
        · exact lt
        · exact Int.lt_trans lt ((List.pairwise_cons.mp i1).1 c hc)
  have p2 := pw _ h2
  have p3 := pw _ h3
  refine ⟨p2.imp fun h => by omega, fun x hx => ?_, p3.imp fun h => by omega, ?_⟩
  · have := List.all_eq_true.mp h1 x hx
    simpa using this
  · exact (sortI_of (.refl _) (p2.imp fun h => Int.le_of_lt h)).symm
theorem asc_half {l : List Int} (hs : l.Pairwise (· ≤ ·)) : asc ltI (l.map (· / 2)) = true ↔ (l.map (· / 2)).Nodup := by
  constructor
  · intro h
    have pw : ∀ (l : List Int), asc ltI l = true → l.Pairwise (· < ·) := by
      intro l
      induction l with
      | nil => intro _; exact .nil
      | cons a r ih =>
        intro h
        cases r with
        | nil => exact List.pairwise_singleton _ _
        | cons b r =>
          rw [asc, Bool.and_eq_true] at h
          have i1 := ih h.2
          have lt : a < b := of_decide_eq_true h.1
          refine List.pairwise_cons.mpr ⟨fun c hc => ?_, i1⟩
          rcases List.mem_cons.mp hc with rfl | hc
          · exact lt
          · exact Int.lt_trans lt ((List.pairwise_cons.mp i1).1 c hc)
    exact (pw _ h).imp fun h => by omega
  · intro h
    have h2 : l.Pairwise (fun a b => a / 2 ≠ b / 2) := List.pairwise_map.mp h
    exact asc_pw (List.pairwise_map.mpr ((hs.and h2).imp fun {a b} z => decide_eq_true (by omega)))
theorem joins_agree {m : Int} (hm : m ≤ 400) {xs ys : List Int} (hx : clauseI m xs = true) (hy : clauseI m ys = true) (f : Int) : joinC xs ys f = lawJ xs ys f ∧ ∀ zs, joinC xs ys f = some zs → clauseI m zs = true := by
  obtain ⟨x1, x2, x3, x4⟩ := clauseI_nodup hx
  obtain ⟨y1, y2, y3, y4⟩ := clauseI_nodup hy
  unfold joinC lawJ
  by_cases hc : 2 * f ∈ xs ∧ 2 * f + 1 ∈ ys
  · rw [if_pos hc, if_pos hc]
    unfold madeC
    have hK : ∀ x, x ∈ keysL ((xs ++ ys).filter fun l => decide (l / 2 ≠ f)) ↔ (x ∈ xs ∨ x ∈ ys) ∧ x / 2 ≠ f := by
      intro x
      rw [keysL_mem, List.mem_filter, List.mem_append, decide_eq_true_eq]
    have nK := keysL_nodup ((xs ++ ys).filter fun l => decide (l / 2 ≠ f))
    generalize keysL ((xs ++ ys).filter fun l => decide (l / 2 ≠ f)) = K at hK nK
    have hR1 : ∀ x, x ∈ lawR1 xs f ↔ x ∈ xs ∧ x / 2 ≠ f := by
      intro x
      unfold lawR1
      rw [(sortI_perm _).mem_iff, List.mem_filter, decide_eq_true_eq]
    have nR1 : (lawR1 xs f).Nodup := (sortI_perm _).nodup_iff.mpr (x1.filter _)
    have hp : K.Perm (lawR1 xs f ++ ys.filter fun l => decide (l / 2 ≠ f) && !decide (l ∈ lawR1 xs f)) := by
      refine perm_nodup nK (List.nodup_append.mpr ⟨nR1, y1.filter _, fun a ha b hb e => ?_⟩) fun x => ?_
      · subst e
        have := (List.mem_filter.mp hb).2
        simp [ha] at this
      · rw [hK, List.mem_append, hR1, List.mem_filter, Bool.and_eq_true, decide_eq_true_eq, Bool.not_eq_true', decide_eq_false_iff_not, hR1]
        constructor
        · rintro ⟨h | h, h2⟩
          · exact .inl ⟨h, h2⟩
          · by_cases hx : x ∈ xs
            · exact .inl ⟨hx, h2⟩
            · exact .inr ⟨h, h2, fun z => hx z.1⟩
        · rintro (h | ⟨h, h2, _⟩)
          · exact ⟨.inl h.1, h.2⟩
          · exact ⟨.inr h, h2⟩
    have e2 : sortI K = lawR2 xs ys f := sortI_uniq hp
    have rng : ∀ x ∈ K, 0 ≤ x ∧ x < 2 * m := fun x hx => by
      rcases ((hK x).mp hx).1 with h | h
      · exact x2 x h
      · exact y2 x h
    have nd2 : (lawR2 xs ys f).Perm K := e2 ▸ sortI_perm K
    have key : (K.any fun x => decide (Builtin.bitXor x 1 ∈ K)) = true ↔ ¬ asc ltI ((lawR2 xs ys f).map (· / 2)) = true := by
      rw [asc_half (e2 ▸ sortI_sorted K), (nd2.map (· / 2)).nodup_iff, List.any_eq_true]
      constructor
      · rintro ⟨x, hx, hx2⟩ nd
        have hx2 := of_decide_eq_true hx2
        obtain ⟨a, b, _⟩ := xor1_half (rng x hx).1 (by have := (rng x hx).2; omega)
        have p : K.Pairwise (fun a b => a / 2 ≠ b / 2) := List.pairwise_map.mp nd
        obtain ⟨i, hi, ei⟩ := List.mem_iff_getElem.mp hx
        obtain ⟨j, hj, ej⟩ := List.mem_iff_getElem.mp hx2
        have q := List.pairwise_iff_getElem.mp p
        rcases Nat.lt_trichotomy i j with h | h | h
        · exact q i j hi hj h (by rw [ei, ej, a])
        · subst h
          exact b (ej.symm.trans ei)
        · exact q j i hj hi h (by rw [ei, ej, a])
      · intro nd
        refine Classical.byContradiction fun hno => nd ?_
        refine List.pairwise_map.mpr (nK.imp_of_mem fun {a b} ha hb hab e => ?_)
        have := (xor1_half (rng a ha).1 (by have := (rng a ha).2; omega)).2.2 b e.symm (Ne.symm hab)
        exact hno ⟨a, ha, by rw [← this]; exact decide_eq_true hb⟩
    by_cases hq : (K.any fun x => decide (Builtin.bitXor x 1 ∈ K)) = true
    · rw [if_pos hq, if_neg (key.mp hq)]
      exact ⟨rfl, fun zs z => by cases z⟩
    · have hasc : asc ltI ((lawR2 xs ys f).map (· / 2)) = true := by
        by_cases h : asc ltI ((lawR2 xs ys f).map (· / 2)) = true
        · exact h
        · exact absurd (key.mpr h) hq
      rw [if_neg hq, if_pos hasc, e2]
      refine ⟨rfl, fun zs z => ?_⟩
      cases z
      have := clause_sorted (m := m) rng ((nd2.map (· / 2)).nodup_iff.mp ((asc_half (e2 ▸ sortI_sorted K)).mp hasc))
      rw [e2] at this
      exact this
  · rw [if_neg hc, if_neg hc]
    exact ⟨rfl, fun zs z => by cases z⟩
end
end Ev
set_option Elab.async false
set_option linter.all false
set_option maxRecDepth 100000
set_option autoImplicit false
set_option maxHeartbeats 4000000
/-! Sp, part M: is_told, _law_whole, _law_is_cube; _law_same against a text. -/
namespace Ev
open PySem
section
variable {tb : Tb} {i i1 i2 i3 i4 i5 : Nat}
def isSt : D → Bool | .str _ => true | _ => false
theorem isiStr {cx : Cxt} {S : Store} {d : D} (h : knw S d) : app cx S (.isi (.b "str")) [.v d] = .ok (.v (.bl (isSt d))) S := by
  cases d with
  | ref n =>
    rcases tyB_known h with h | h
    · exact isiB_ref h rfl
    · exact isiB_ref h rfl
  | fn n => exact h.elim
  | cls n => exact h.elim
  | _ => rfl
theorem isiInt {cx : Cxt} {S : Store} {d : D} (h : knw S d) : app cx S (.isi (.b "int")) [.v d] = .ok (.v (.bl (isInt d || isBl d))) S := by
  cases d with
  | ref n =>
    rcases tyB_known h with h | h
    · exact isiB_ref h rfl
    · exact isiB_ref h rfl
  | fn n => exact h.elim
  | cls n => exact h.elim
  | _ => rfl
theorem isiLst {cx : Cxt} {S : Store} {d : D} (h : knw S d) (hr : ∀ n, d ≠ .ref n) : app cx S (.isi (.b "list")) [.v d] = .ok (.v (.bl false)) S := by
  cases d with
  | ref n => exact absurd rfl (hr n)
  | fn n => exact h.elim
  | cls n => exact h.elim
  | _ => rfl
/-- what can be asked of a step -/
structure stpOk (S : Store) (d : D) : Prop where
  kn : knTT S d
  st : ∀ ds x, d = .tup ds → D.str x ∈ ds → PyData.strOk x = true
theorem eq_str {S : Store} {x y : Str} (hx : PyData.strOk x = true) (hy : PyData.strOk y = true) : eqE S (.v (.str x)) (.v (.str y)) = some (decide (x = y)) := by
  have e : okK true (.str x) = true := rfl
  have e2 : okK true (.str y) = true := rfl
  rw [eqE_pl (by simpa [plD] using hx) (by simpa [plD] using hy) (by simp [dpD]) (by simp [dpD]), eqP_dec true (by simpa [plD] using hx) (by simpa [plD] using hy) e e2]
  congr 1
  rw [Bool.eq_iff_iff, decide_eq_true_eq, decide_eq_true_eq]
  exact ⟨fun h => D.str.inj h, fun h => by rw [h]⟩
theorem cmEq {S : Store} {a b : T} {c : Bool} (h : eqE S a b = some c) : cmpE S .eq a b = some c := by
  unfold cmpE
  simp only [h]
theorem cmNeE {S : Store} {a b : T} {c : Bool} (h : eqE S a b = some c) : cmpE S .ne a b = some (!c) := by
  unfold cmpE
  simp only [h]
  rfl
theorem len_tup (S : Store) (ds : List D) : biE S .len (.v (.tup ds)) = some (.v (.int ds.length)) := rfl
def toldF : Fd := ⟨3, 3, [.ret (.and (.nd (.isi (.b "tuple")) [(.var 0)]) (.and (.nd (.cmp .eq) [(.nd (.bi .len) [(.var 0)]), (.var 2)]) (.and (.nd (.isi (.b "str")) [(.nd .idx [(.var 0), (.cst (.int 0))])]) (.nd (.cmp .eq) [(.nd .idx [(.var 0), (.cst (.int 0))]), (.var 1)]))))]⟩
def toldB (w : Str) (m : Nat) : D → Bool
  | .tup (.str x :: r) => decide (r.length + 1 = m) && decide (x = w)
  | _ => false
theorem toldS (h : tb.fs[i]? = some toldF) (k : Nat) (d : D) (w : Str) (m : Nat) (S : Store) (hd : stpOk S d) (hw : PyData.strOk w = true) (hm : 1 ≤ m) : runK tb (k + 1) i [d, .str w, .int m] S = .ok (.bl (toldB w m d)) S := by
  rw [run_of h k _ _ rfl]
  show finE S (exSs (cxK tb k) toldF.body [some d, some (.str w), some (.int m)] S) = _
  have fin : ∀ c, (den (cxK tb k) (.and (.nd (.isi (.b "tuple")) [(.var 0)]) (.and (.nd (.cmp .eq) [(.nd (.bi .len) [(.var 0)]), (.var 2)]) (.and (.nd (.isi (.b "str")) [(.nd .idx [(.var 0), (.cst (.int 0))])]) (.nd (.cmp .eq) [(.nd .idx [(.var 0), (.cst (.int 0))]), (.var 1)]))))).e [some d, some (.str w), some (.int m)] S = .ok (.v (.bl c)) S →
      finE S (exSs (cxK tb k) toldF.body [some d, some (.str w), some (.int m)] S) = .ok (.bl c) S := fun c hc => by
    unfold toldF
    rw [ret_1 hc, fin_rt, gc_same]
  have t1 : (den (cxK tb k) (.nd (.isi (.b "tuple")) [(.var 0)])).e [some d, some (.str w), some (.int m)] S = .ok (.v (.bl (isTp d))) S := by rw [nd_1 (var_v rfl), isiTup hd.kn.1]
  cases d with
  | tup ds =>
    have t1 : (den (cxK tb k) (.nd (.isi (.b "tuple")) [(.var 0)])).e [some (.tup ds), some (.str w), some (.int m)] S = .ok (.v (.bl true)) S := t1
    have t2 : (den (cxK tb k) (.nd (.cmp .eq) [(.nd (.bi .len) [(.var 0)]), (.var 2)])).e [some (.tup ds), some (.str w), some (.int m)] S = .ok (.v (.bl (decide (ds.length = m)))) S := by
      refine cmp_ii (x := ds.length) (y := m) (cmEq ?_) (bi_1 (var_v rfl) (len_tup S ds)) (var_v rfl)
      rw [eqE_int]
      congr 1
      rw [Bool.eq_iff_iff, decide_eq_true_eq, decide_eq_true_eq]
      omega
    by_cases hl : ds.length = m
    · rw [decide_eq_true hl] at t2
      cases ds with
      | nil => simp at hl; omega
      | cons x r =>
        have kx : knw S x := ((hd.kn.2 _ rfl).2 x List.mem_cons_self).1
        have ix : (den (cxK tb k) (.nd .idx [(.var 0), (.cst (.int 0))])).e [some (.tup (x :: r)), some (.str w), some (.int m)] S = .ok (.v x) S := idx_2 (var_v rfl) cst_v (idx_tup (atI_get (x :: r) 0 (by simp)))
        have t3 : (den (cxK tb k) (.nd (.isi (.b "str")) [(.nd .idx [(.var 0), (.cst (.int 0))])])).e [some (.tup (x :: r)), some (.str w), some (.int m)] S = .ok (.v (.bl (isSt x))) S := by rw [nd_1 ix, isiStr kx]
        cases x with
        | str x =>
          have t3 : (den (cxK tb k) (.nd (.isi (.b "str")) [(.nd .idx [(.var 0), (.cst (.int 0))])])).e [some (.tup (.str x :: r)), some (.str w), some (.int m)] S = .ok (.v (.bl true)) S := t3
          have t4 := cmp_2 (cx := cxK tb k) (o := .eq) ix (var_v (j := 1) rfl) (own_str _ S .eq x _) (cmEq (eq_str (S := S) (hd.st _ x rfl List.mem_cons_self) hw))
          have e : toldB w m (.tup (.str x :: r)) = decide (x = w) := by
            show (decide (r.length + 1 = m) && decide (x = w)) = _
            rw [decide_eq_true (show r.length + 1 = m from hl), Bool.true_and]
          rw [e]
          exact fin _ (e_and t1 (e_and t2 (e_and t3 t4)))
        | _ => exact fin _ (e_and t1 (e_and t2 (e_and0 t3)))
    · rw [decide_eq_false hl] at t2
      have e : toldB w m (.tup ds) = false := by
        unfold toldB
        split
        · rename_i x r e
          cases e
          rw [decide_eq_false (show ¬ r.length + 1 = m from hl), Bool.false_and]
        · rfl
      rw [e]
      exact fin _ (e_and t1 (e_and0 t2))
  | _ => exact fin _ (e_and0 t1)
/-! _law_whole -/
def lawWholeF : Fd := ⟨3, 3, [.ret (.and (.nd (.isi (.b "int")) [(.var 0)]) (.and (.not (.nd (.isi (.b "bool")) [(.var 0)])) (.ch .le .le (.var 1) (.var 0) (.var 2))))]⟩
def wholeB (lo hi : Int) : D → Bool | .int z => decide (lo ≤ z) && decide (z ≤ hi) | _ => false
theorem lawWholeS (h : tb.fs[i]? = some lawWholeF) (k : Nat) (d : D) (lo hi : Int) (S : Store) (hd : knw S d) : runK tb (k + 1) i [d, .int lo, .int hi] S = .ok (.bl (wholeB lo hi d)) S := by
  rw [run_of h k _ _ rfl]
  show finE S (exSs (cxK tb k) lawWholeF.body [some d, some (.int lo), some (.int hi)] S) = _
  have fin : ∀ c, (den (cxK tb k) (.and (.nd (.isi (.b "int")) [(.var 0)]) (.and (.not (.nd (.isi (.b "bool")) [(.var 0)])) (.ch .le .le (.var 1) (.var 0) (.var 2))))).e [some d, some (.int lo), some (.int hi)] S = .ok (.v (.bl c)) S →
      finE S (exSs (cxK tb k) lawWholeF.body [some d, some (.int lo), some (.int hi)] S) = .ok (.bl c) S := fun c hc => by
    unfold lawWholeF
    rw [ret_1 hc, fin_rt, gc_same]
  have t1 : (den (cxK tb k) (.nd (.isi (.b "int")) [(.var 0)])).e [some d, some (.int lo), some (.int hi)] S = .ok (.v (.bl (isInt d || isBl d))) S := by rw [nd_1 (var_v rfl), isiInt hd]
  have t2 : (den (cxK tb k) (.not (.nd (.isi (.b "bool")) [(.var 0)]))).e [some d, some (.int lo), some (.int hi)] S = .ok (.v (.bl (!isBl d))) S := e_not (by rw [nd_1 (var_v rfl), isiBl hd])
  cases d with
  | int z =>
    have t1 : (den (cxK tb k) (.nd (.isi (.b "int")) [(.var 0)])).e [some (.int z), some (.int lo), some (.int hi)] S = .ok (.v (.bl true)) S := t1
    have t2 : (den (cxK tb k) (.not (.nd (.isi (.b "bool")) [(.var 0)]))).e [some (.int z), some (.int lo), some (.int hi)] S = .ok (.v (.bl true)) S := t2
    have t3 : (den (cxK tb k) (.ch .le .le (.var 1) (.var 0) (.var 2))).e [some (.int z), some (.int lo), some (.int hi)] S = .ok (.v (.bl (decide (lo ≤ z) && decide (z ≤ hi)))) S := by
      rw [den_ch, var_v rfl, bind_ok', ch1_ap, var_v rfl, bind_ok', ch2_ap, cmLe, ofO_some, bind_ok', ch3_ap]
      by_cases g : lo ≤ z
      · rw [decide_eq_true g, if_pos rfl, var_v rfl, bind_ok', ch4_ap, cmLe]
        rfl
      · rw [decide_eq_false g, if_neg (by simp)]
        rfl
    exact fin _ (e_and t1 (e_and t2 t3))
  | bl b =>
    have t1 : (den (cxK tb k) (.nd (.isi (.b "int")) [(.var 0)])).e [some (.bl b), some (.int lo), some (.int hi)] S = .ok (.v (.bl true)) S := t1
    exact fin _ (e_and t1 (e_and0 t2))
  | _ => exact fin _ (e_and0 t1)
/-! _law_is_cube -/
def isCubeF (iW : Nat) : Fd := ⟨2, 4, [.ite (.or (.not (.nd (.isi (.b "tuple")) [(.var 0)])) (.not (.nd (.bi .all) [(.lc (.var 2) .seq [(.var 0)] [] (.na (.call iW) [(.var 2), (.cst (.int 0)), (.nd (.op .sub) [(.nd (.op .mul) [(.cst (.int 2)), (.var 1)]), (.cst (.int 1))])]) [2])]))) [.ret (.cst (.bl false))] [], .ret (halfEx 0 3)]⟩
theorem wholes_ints (m : Int) : ∀ ds : List D, ds.all (wholeB 0 (2 * m - 1)) = match intsOf ds with
    | some xs => xs.all fun i => decide (0 ≤ i) && decide (i < 2 * m)
    | none => false
  | [] => rfl
  | d :: ds => by
    rw [List.all_cons, wholes_ints m ds, intsOf_cons]
    cases d with
    | int z =>
      cases intsOf ds with
      | none => simp
      | some xs =>
        show (wholeB 0 (2 * m - 1) (.int z) && _) = ((decide (0 ≤ z) && decide (z < 2 * m)) && _)
        have e : wholeB 0 (2 * m - 1) (.int z) = (decide (0 ≤ z) && decide (z < 2 * m)) := by
          show (decide (0 ≤ z) && decide (z ≤ 2 * m - 1)) = _
          congr 1
          rw [Bool.eq_iff_iff, decide_eq_true_eq, decide_eq_true_eq]
          omega
        rw [e]
    | _ => rfl
theorem ints_of : ∀ {ds : List D} {xs : List Int}, intsOf ds = some xs → ds = xs.map D.int
  | [], _, h => by cases h; rfl
  | d :: ds, _, h => by
    rw [intsOf_cons] at h
    cases d with
    | int z =>
      obtain ⟨ys, hy, rfl⟩ := Option.map_eq_some_iff.mp (show (intsOf ds).map (z :: ·) = some _ from h)
      rw [ints_of hy]
      rfl
    | _ => cases h
theorem halves_asc : ∀ xs : List Int, asc ltI (xs.map (· / 2)) = true → asc ltI xs = true
  | [], _ => rfl
  | [_], _ => rfl
  | a :: b :: r, h => by
    rw [List.map_cons, List.map_cons, asc, Bool.and_eq_true] at h
    have h1 : a / 2 < b / 2 := of_decide_eq_true h.1
    rw [asc, halves_asc (b :: r) h.2, Bool.and_true]
    exact decide_eq_true (by omega)
theorem isCubeS (h1 : tb.fs[i1]? = some lawWholeF) (h : tb.fs[i]? = some (isCubeF i1)) (k : Nat) (d : D) (m : Int) (S : Store) (hk : knT S d) : runK tb (k + 2) i [d, .int m] S = .ok (.bl (clauseB m d)) S := by
  rw [run_of h (k + 1) _ _ rfl]
  show finE S (exSs (cxK tb (k + 1)) (isCubeF i1).body [some d, some (.int m), none, none] S) = _
  have t1 : (den (cxK tb (k + 1)) (.nd (.isi (.b "tuple")) [(.var 0)])).e [some d, some (.int m), none, none] S = .ok (.v (.bl (isTp d))) S := by rw [nd_1 (var_v rfl), isiTup hk.1]
  have no : isTp d = false → finE S (exSs (cxK tb (k + 1)) (isCubeF i1).body [some d, some (.int m), none, none] S) = .ok (.bl false) S := fun hq => by
    rw [hq] at t1
    unfold isCubeF
    rw [rt_stm (d := .bl false) ((ite_yes (b_or1 (b_not (b_nd t1)))).trans (ret_1 cst_v)), fin_rt, gc_same]
  cases d with
  | tup ds =>
    have t1 : (den (cxK tb (k + 1)) (.nd (.isi (.b "tuple")) [(.var 0)])).e [some (.tup ds), some (.int m), none, none] S = .ok (.v (.bl true)) S := t1
    have hx := (hk.2 ds rfl).2
    have e1 := all_gen (cx := cxK tb (k + 1)) (σ := [some (.tup ds), some (.int m), none, none]) (σ' := [some (.tup ds), some (.int m), none, none]) (S := S) (v := 2) (ik := .seq) (ia := [.var 0]) (own := [2]) (el := (.na (.call i1) [(.var 2), (.cst (.int 0)), (.nd (.op .sub) [(.nd (.op .mul) [(.cst (.int 2)), (.var 1)]), (.cst (.int 1))])])) (ds := ds) (g := fun _ => true)
      (wholeB 0 (2 * m - 1)) (dens_1 (var_v rfl)) rfl rfl rfl (by simp) (fun d hd =>
        call_d (ded_c (var_v rfl) (ded_c cst_v (ded_1 (op_2 (dbl_v rfl) cst_v (r := .v (.int (2 * m - 1))) (by rw [opE_int, opI_sub]; rfl))))) (lawWholeS h1 k d 0 (2 * m - 1) S (hx d hd)))
    have e2 := wholes_ints m ds
    cases hq : ds.all (wholeB 0 (2 * m - 1)) with
    | false =>
      rw [hq] at e1 e2
      have e0 : clauseB m (.tup ds) = false := by
        show (match intsOf ds with | some xs => clauseI m xs | none => false) = false
        cases hi : intsOf ds with
        | none => rfl
        | some xs =>
          rw [hi] at e2
          dsimp only at e2 ⊢
          rw [clauseI, ← e2, Bool.false_and]
      rw [e0]
      unfold isCubeF
      rw [rt_stm (d := .bl false) ((ite_yes (b_or (b_not (b_nd t1)) (b_not (b_nd e1)))).trans (ret_1 cst_v)), fin_rt, gc_same]
    | true =>
      rw [hq] at e1 e2
      cases hi : intsOf ds with
      | none => rw [hi] at e2; cases e2
      | some xs =>
        rw [hi] at e2
        dsimp only at e2
        have ed := ints_of hi
        subst ed
        have hl : xs.length ≤ 1000000 := by have := (hk.2 _ rfl).1; simpa using this
        have e3 := halfG (cx := cxK tb (k + 1)) (σ := [some (.tup (xs.map D.int)), some (.int m), none, none]) (S := S) (xs := xs) 0 3 (.tup (xs.map D.int)) rfl rfl (by simp) (fun _ => rfl) (by rw [len_tup, List.length_map]) (fun j y hj => idx_tup hj) (by omega)
        have e0 : clauseB m (.tup (xs.map D.int)) = asc ltI (xs.map (· / 2)) := by
          show (match intsOf (xs.map D.int) with | some xs => clauseI m xs | none => false) = _
          rw [hi]
          show clauseI m xs = _
          rw [clauseI, ← e2, Bool.true_and]
          cases ha : asc ltI (xs.map (· / 2)) with
          | false => rw [Bool.and_false]
          | true => rw [halves_asc xs ha]; rfl
        rw [e0]
        unfold isCubeF
        rw [set_stm (ite_no (b_or (b_not (b_nd t1)) (b_not (b_nd e1)))), ret_1 e3, fin_rt, gc_same]
  | _ => exact no rfl
/-! _law_same against a text -/
theorem sameStrS (h : tb.fs[i]? = some (sameF i)) (k : Nat) (d : D) (w : Str) (S : Store) (hd : knw S d) (hx : ∀ x, d = .str x → PyData.strOk x = true) (hw : PyData.strOk w = true) : runK tb (k + 1) i [d, .str w] S = .ok (.bl (decide (d = .str w))) S := by
  rw [run_of h k _ _ rfl]
  show finE S (exSs (cxK tb k) (sameF i).body [some d, some (.str w), none] S) = _
  have isiw : ∀ s b, L2.kitB "str" s = some b → (den (cxK tb k) (.nd (.isi (.b s)) [(.var 1)])).b [some d, some (.str w), none] S = .ok b S := fun s b hb => by
    refine b_nd ?_
    rw [nd_1 (var_v rfl), isiB_str, hb]
    rfl
  have c3 : (den (cxK tb k) (.nd (.cmp .is) [(.var 1), (.cst (.non))])).b [some d, some (.str w), none] S = .ok false S := b_nd (cmp_2 (var_v rfl) cst_v (own_is _ _ _ _) rfl)
  have t1 : (den (cxK tb k) (.nd (.isi (.b "str")) [(.var 0)])).e [some d, some (.str w), none] S = .ok (.v (.bl (isSt d))) S := by rw [nd_1 (var_v rfl), isiStr hd]
  have t2 : (den (cxK tb k) (.nd (.isi (.b "str")) [(.var 1)])).e [some d, some (.str w), none] S = .ok (.v (.bl true)) S := by
    rw [nd_1 (var_v rfl), isiB_str]
    rfl
  have fin : ∀ c, (den (cxK tb k) (.and (.nd (.isi (.b "str")) [(.var 0)]) (.and (.nd (.isi (.b "str")) [(.var 1)]) (.nd (.cmp .eq) [(.var 0), (.var 1)])))).e [some d, some (.str w), none] S = .ok (.v (.bl c)) S → finE S (exSs (cxK tb k) (sameF i).body [some d, some (.str w), none] S) = .ok (.bl c) S := fun c hc => by
    unfold sameF sameR
    rw [set_stm (ite_no (isiw "tuple" false rfl)), set_stm (ite_no (isiw "list" false rfl)), set_stm (ite_no c3), set_stm (ite_no (isiw "bool" false rfl)), set_stm (ite_no (isiw "int" false rfl)), ret_1 hc, fin_rt, gc_same]
  cases d with
  | str x =>
    have t1 : (den (cxK tb k) (.nd (.isi (.b "str")) [(.var 0)])).e [some (.str x), some (.str w), none] S = .ok (.v (.bl true)) S := t1
    have e : decide (D.str x = .str w) = decide (x = w) := by
      rw [Bool.eq_iff_iff, decide_eq_true_eq, decide_eq_true_eq]
      exact ⟨fun h => D.str.inj h, fun h => by rw [h]⟩
    rw [e]
    exact fin _ (e_and t1 (e_and t2 (cmp_2 (var_v rfl) (var_v rfl) (own_str _ _ _ _ _) (cmEq (eq_str (hx x rfl) hw)))))
  | _ => exact fin _ (e_and0 t1)
end
end Ev
set_option Elab.async false
set_option linter.all false
set_option maxRecDepth 100000
set_option autoImplicit false
set_option maxHeartbeats 4000000
/-! Sp, part N: the clause that a step of a file tells, by the program and by the law. -/
namespace Ev
open PySem
section
variable {tb : Tb} {i i1 i2 i3 i4 i5 : Nat}
def argD (d : D) (j : Nat) : D := match d with | .tup ds => ds.getD j .non | _ => .non
def rowD (rows : List (List Int)) (y : D) : List Int := rows.getD (dIn y).toNat []
def givV (bs : List Bool) (cs : List (List Int)) (y : D) : Option (List Int) := if clauseB bs.length y && decide (tIn y ∈ cs) then some (tIn y) else none
def drpV (bs : List Bool) (r : List Int) : Option (List Int) := if dropC bs r = r then none else some (dropC bs r)
def stepV (bs : List Bool) (cs rows : List (List Int)) (d : D) : Option (List Int) :=
  if toldB "given" 2 d = true then givV bs cs (argD d 1)
  else if toldB "join" 4 d = true then (if (belowB rows.length (argD d 1) && belowB rows.length (argD d 2)) && (belowB bs.length (argD d 3) && bs.getD (dIn (argD d 3)).toNat false) then joinC (rowD rows (argD d 1)) (rowD rows (argD d 2)) (dIn (argD d 3)) else none)
  else if toldB "drop" 2 d && belowB rows.length (argD d 1) then drpV bs (rowD rows (argD d 1)) else none
theorem toldB_of {w : Str} {m : Nat} {d : D} (h : toldB w m d = true) : ∃ r, d = .tup (.str w :: r) ∧ r.length + 1 = m := by
  unfold toldB at h
  split at h
  · rename_i x r
    rw [Bool.and_eq_true, decide_eq_true_eq, decide_eq_true_eq] at h
    exact ⟨r, by rw [h.2], h.1⟩
  · cases h
theorem len1 {α : Type} {r : List α} (h : r.length + 1 = 2) : ∃ y, r = [y] := by
  match r, h with
  | [y], _ => exact ⟨y, rfl⟩
theorem len3 {α : Type} {r : List α} (h : r.length + 1 = 4) : ∃ x y z, r = [x, y, z] := by
  match r, h with
  | [x, y, z], _ => exact ⟨x, y, z, rfl⟩
theorem belowB_of {b : Nat} {y : D} (h : belowB b y = true) : ∃ j : Nat, y = .int j ∧ j < b := by
  unfold belowB at h
  split at h
  · rename_i z
    rw [Bool.and_eq_true, decide_eq_true_eq, decide_eq_true_eq] at h
    exact ⟨z.toNat, by congr 1; omega, by omega⟩
  · cases h
theorem clauseB_of {m : Int} {y : D} (h : clauseB m y = true) : ∃ xs, y = tupI xs ∧ clauseI m xs = true := by
  unfold clauseB at h
  split at h
  · rename_i ds
    split at h
    · rename_i xs hx
      exact ⟨xs, by rw [ints_of hx]; rfl, h⟩
    · cases h
  · cases h
theorem e_ite {cx : Cxt} {c a b : Ex} {σ : Env} {S S' S2 : Store} {t : T} (q : Bool) (h : (den cx c).b σ S = .ok q S') (h' : (den cx (if q = true then a else b)).e σ S' = .ok t S2) : (den cx (.ite c a b)).e σ S = .ok t S2 := by
  rw [den_ite, h, bind_ok', iteK_ap]
  cases q with
  | true => rw [if_pos rfl] at h' ⊢; exact h'
  | false => rw [if_neg (by simp)] at h' ⊢; exact h'
theorem b_or2 {cx : Cxt} {e e' : Ex} {σ : Env} {S S2 : Store} {p q : Bool} (h : (den cx e).b σ S = .ok p S) (h' : (den cx e').b σ S = .ok q S2) (hs : S2 = S) : (den cx (.or e e')).b σ S = .ok (p || q) S := by
  subst hs
  cases p with
  | true => exact b_or1 h
  | false => rw [Bool.false_or]; exact b_or h h'
theorem b_and2 {cx : Cxt} {e e' : Ex} {σ : Env} {S S2 : Store} {p q : Bool} (h : (den cx e).b σ S = .ok p S) (h' : p = true → (den cx e').b σ S = .ok q S2) (hs : S2 = S) : (den cx (.and e e')).b σ S = .ok (p && q) S := by
  subst hs
  cases p with
  | true => rw [Bool.true_and]; exact b_and h (h' rfl)
  | false => exact b_and0 h
theorem knT_of {S : Store} {d : D} {ds : List D} (h : stpOk S d) (e : d = .tup ds) : ∀ x ∈ ds, knT S x := (h.kn.2 ds e).2
theorem atN {S : Store} {ds : List D} {j : Nat} (h : j < ds.length) : idxE S (.v (.tup ds)) (.v (.int (j : Int))) = some ds[j] := idx_tup (atI_get ds j h)
/-! the program's -/
def stepF (iT iC iB iJ iD : Nat) : Fd := ⟨4, 5, [.ite (.na (.call iT) [(.var 3), (.cst (.str "given")), (.cst (.int 2))]) [.ret (.ite (.and (.na (.call iC) [(.nd .idx [(.var 3), (.cst (.int 1))]), (.nd (.bi .len) [(.var 0)])]) (.nd (.cmp .mem) [(.nd .idx [(.var 3), (.cst (.int 1))]), (.var 1)])) (.nd .idx [(.var 3), (.cst (.int 1))]) (.cst (.non)))] [], .ite (.na (.call iT) [(.var 3), (.cst (.str "join")), (.cst (.int 4))]) [.ite (.or (.not (.na (.call iB) [(.nd .idx [(.var 3), (.cst (.int 1))]), (.nd (.bi .len) [(.var 2)])])) (.not (.na (.call iB) [(.nd .idx [(.var 3), (.cst (.int 2))]), (.nd (.bi .len) [(.var 2)])]))) [.ret (.cst (.non))] [], .ite (.or (.not (.na (.call iB) [(.nd .idx [(.var 3), (.cst (.int 3))]), (.nd (.bi .len) [(.var 0)])])) (.not (.nd .idx [(.var 0), (.nd .idx [(.var 3), (.cst (.int 3))])]))) [.ret (.cst (.non))] [], .ret (.na (.call iJ) [(.nd .idx [(.var 2), (.nd .idx [(.var 3), (.cst (.int 1))])]), (.nd .idx [(.var 2), (.nd .idx [(.var 3), (.cst (.int 2))])]), (.nd .idx [(.var 3), (.cst (.int 3))])])] [], .ite (.or (.not (.na (.call iT) [(.var 3), (.cst (.str "drop")), (.cst (.int 2))])) (.not (.na (.call iB) [(.nd .idx [(.var 3), (.cst (.int 1))]), (.nd (.bi .len) [(.var 2)])]))) [.ret (.cst (.non))] [], .set (.var 4) (.na (.call iD) [(.var 0), (.nd .idx [(.var 2), (.nd .idx [(.var 3), (.cst (.int 1))])])]), .ret (.ite (.nd (.cmp .eq) [(.var 4), (.nd .idx [(.var 2), (.nd .idx [(.var 3), (.cst (.int 1))])])]) (.cst (.non)) (.var 4))]⟩
/-- rows as they are kept: right clauses, not too long -/
def rowsOk (m : Int) (rows : List (List Int)) : Prop := rows.length ≤ 1000 ∧ ∀ r ∈ rows, clauseI m r = true ∧ r.length ≤ 30
theorem rowD_at {rows : List (List Int)} {j : Nat} (h : j < rows.length) : rowD rows (.int j) = rows[j] := by
  unfold rowD dIn
  rw [Int.toNat_natCast, List.getD_eq_getElem?_getD, List.getElem?_eq_getElem h]
  rfl
theorem row_idx {S : Store} {L : Nat} {rows : List (List Int)} {j : Nat} (hL : S[L]? = some (.lst (rows.map tupI))) (h : j < rows.length) : idxE S (.v (.ref L)) (.v (.int j)) = some (tupI (rowD rows (.int j))) := by
  rw [rowD_at h]
  exact idx_lst hL (by rw [atI_get _ j (by rw [List.length_map]; exact h), List.getElem_map])
theorem len_ref {S : Store} {L : Nat} {ds : List D} (hL : S[L]? = some (.lst ds)) : biE S .len (.v (.ref L)) = some (.v (.int ds.length)) := by
  have e : seqR S (.v (.ref L)) = some ds := by simp [seqR, lstR, objR, unlk, hL]
  simp [biE, e]
theorem bound_half {m : Nat} {xs : List Int} (h : clauseI m xs = true) : ∀ x ∈ xs, 0 ≤ x ∧ x / 2 < (m : Int) := fun x hx => by
  have := (clauseI_nodup h).2.1 x hx
  omega
theorem stepS (t0 : tb.fs[i1]? = some wholeF) (t1 : tb.fs[i2]? = some (belowF i1)) {iAB iA iC iT iM iJ iD : Nat} (t2 : tb.fs[iAB]? = some (areBelowF i2)) (t4 : tb.fs[iA]? = some ascF) (tC : tb.fs[iC]? = some (clauseF iAB iA)) (tT : tb.fs[iT]? = some toldF) (tM : tb.fs[iM]? = some madeF) (tJ : tb.fs[iJ]? = some (joinedF iM)) (tD : tb.fs[iD]? = some droppedF)
    (h : tb.fs[i]? = some (stepF iT iC i2 iJ iD)) (k : Nat) (bs : List Bool) (cs rows : List (List Int)) (d : D) (S : Store) (g L : Nat) (hg : S[g]? = some (dkT cs)) (hL : S[L]? = some (.lst (rows.map tupI))) (hd : stpOk S d) (hr : rowsOk bs.length rows) :
    runK tb (k + 5) i [.tup (bs.map D.bl), .ref g, .ref L, d] S = .ok (optT (stepV bs cs rows d)) S := by
  rw [run_of h (k + 4) _ _ rfl]
  show finE S (exSs (cxK tb (k + 4)) (stepF iT iC i2 iJ iD).body [some (.tup (bs.map D.bl)), some (.ref g), some (.ref L), some d, none] S) = _
  have told : ∀ (w : Str) (m : Nat), PyData.strOk w = true → 1 ≤ m → (den (cxK tb (k + 4)) (.na (.call iT) [(.var 3), (.cst (.str w)), (.cst (.int m))])).b [some (.tup (bs.map D.bl)), some (.ref g), some (.ref L), some d, none] S = .ok (toldB w m d) S := fun w m hw hm =>
    b_na (call_d (ded_c (var_v rfl) (ded_c cst_v (ded_1 cst_v))) (toldS tT (k + 3) d w m S hd hw hm))
  have tg : (den (cxK tb (k + 4)) (.na (.call iT) [(.var 3), (.cst (.str "given")), (.cst (.int 2))])).b [some (.tup (bs.map D.bl)), some (.ref g), some (.ref L), some d, none] S = .ok (toldB "given" 2 d) S := told "given" 2 (strOk_of "given") (by omega)
  have tj : (den (cxK tb (k + 4)) (.na (.call iT) [(.var 3), (.cst (.str "join")), (.cst (.int 4))])).b [some (.tup (bs.map D.bl)), some (.ref g), some (.ref L), some d, none] S = .ok (toldB "join" 4 d) S := told "join" 4 (strOk_of "join") (by omega)
  have td : (den (cxK tb (k + 4)) (.na (.call iT) [(.var 3), (.cst (.str "drop")), (.cst (.int 2))])).b [some (.tup (bs.map D.bl)), some (.ref g), some (.ref L), some d, none] S = .ok (toldB "drop" 2 d) S := told "drop" 2 (strOk_of "drop") (by omega)
  have lenS : ∀ σ : Env, σ[0]? = some (some (.tup (bs.map D.bl))) → (den (cxK tb (k + 4)) (.nd (.bi .len) [(.var 0)])).e σ S = .ok (.v (.int bs.length)) S := fun σ h0 => bi_1 (var_v h0) (by rw [len_tup, List.length_map])
  have lenR : ∀ σ : Env, σ[2]? = some (some (.ref L)) → (den (cxK tb (k + 4)) (.nd (.bi .len) [(.var 2)])).e σ S = .ok (.v (.int rows.length)) S := fun σ h0 => bi_1 (var_v h0) (by rw [len_ref hL, List.length_map])
  unfold stepV
  cases hgv : toldB "given" 2 d with
  | true =>
    rw [hgv] at tg
    rw [if_pos rfl]
    obtain ⟨r, rfl, hl⟩ := toldB_of hgv
    obtain ⟨y, rfl⟩ := len1 hl
    have ky := knT_of hd rfl y (by simp)
    have iy : (den (cxK tb (k + 4)) (.nd .idx [(.var 3), (.cst (.int 1))])).e [some (.tup (bs.map D.bl)), some (.ref g), some (.ref L), some (.tup [.str "given", y]), none] S = .ok (.v y) S := idx_2 (var_v rfl) cst_v (atN (ds := [.str "given", y]) (j := 1) (by simp))
    have c1 := b_na (call_d (cx := cxK tb (k + 4)) (f := iC) (ded_c iy (ded_1 (lenS [some (.tup (bs.map D.bl)), some (.ref g), some (.ref L), some (.tup [.str "given", y]), none] rfl))) (clauseS t0 t1 t2 t4 tC k y bs.length S ky))
    have ev : (den (cxK tb (k + 4)) (.ite (.and (.na (.call iC) [(.nd .idx [(.var 3), (.cst (.int 1))]), (.nd (.bi .len) [(.var 0)])]) (.nd (.cmp .mem) [(.nd .idx [(.var 3), (.cst (.int 1))]), (.var 1)])) (.nd .idx [(.var 3), (.cst (.int 1))]) (.cst (.non)))).e [some (.tup (bs.map D.bl)), some (.ref g), some (.ref L), some (.tup [.str "given", y]), none] S = .ok (.v (optT (givV bs cs y))) S := by
      unfold givV
      cases hc : clauseB bs.length y with
      | false =>
        rw [hc] at c1
        exact e_ite false (b_and0 c1) cst_v
      | true =>
        rw [hc] at c1
        obtain ⟨xs, rfl, _⟩ := clauseB_of hc
        have c2 := b_nd (cmp_2 (cx := cxK tb (k + 4)) (o := .mem) iy (var_v (j := 1) rfl) (own_mem _ _ _ _) (mem_dkT xs hg))
        rw [tIn_tupI, Bool.true_and]
        refine e_ite (decide (xs ∈ cs)) (b_and c1 c2) ?_
        cases hq : decide (xs ∈ cs) with
        | true => exact iy
        | false => exact cst_v
    unfold stepF
    rw [rt_stm ((ite_yes tg).trans (ret_1 ev)), fin_rt, gc_same]
    rfl
  | false =>
    rw [hgv] at tg
    rw [if_neg (by simp)]
    cases hjv : toldB "join" 4 d with
    | true =>
      rw [hjv] at tj
      rw [if_pos rfl]
      obtain ⟨r, rfl, hl⟩ := toldB_of hjv
      obtain ⟨x, y, z, rfl⟩ := len3 hl
      have kn := knT_of hd rfl
      generalize hds : [D.str "join", x, y, z] = ds at *
      have ix : ∀ (q : Nat) (v : D), ds[q]? = some v → (den (cxK tb (k + 4)) (.nd .idx [(.var 3), (.cst (.int q))])).e [some (.tup (bs.map D.bl)), some (.ref g), some (.ref L), some (.tup ds), none] S = .ok (.v v) S := fun q v hq => idx_2 (var_v rfl) cst_v (by
        obtain ⟨h1, h2⟩ := List.getElem?_eq_some_iff.mp hq
        rw [← h2]
        exact atN h1)
      have i1 : (den (cxK tb (k + 4)) (.nd .idx [(.var 3), (.cst (.int 1))])).e [some (.tup (bs.map D.bl)), some (.ref g), some (.ref L), some (.tup ds), none] S = .ok (.v x) S := ix 1 x (by rw [← hds]; rfl)
      have i2' : (den (cxK tb (k + 4)) (.nd .idx [(.var 3), (.cst (.int 2))])).e [some (.tup (bs.map D.bl)), some (.ref g), some (.ref L), some (.tup ds), none] S = .ok (.v y) S := ix 2 y (by rw [← hds]; rfl)
      have i3 : (den (cxK tb (k + 4)) (.nd .idx [(.var 3), (.cst (.int 3))])).e [some (.tup (bs.map D.bl)), some (.ref g), some (.ref L), some (.tup ds), none] S = .ok (.v z) S := ix 3 z (by rw [← hds]; rfl)
      have a1 : argD (.tup ds) 1 = x := by rw [← hds]; rfl
      have a2 : argD (.tup ds) 2 = y := by rw [← hds]; rfl
      have a3 : argD (.tup ds) 3 = z := by rw [← hds]; rfl
      rw [a1, a2, a3]
      have b1 := b_not (b_na (call_d (cx := cxK tb (k + 4)) (f := i2) (ded_c i1 (ded_1 (lenR _ rfl))) (belowS t0 t1 (k + 2) x rows.length S (kn x (by rw [← hds]; simp)).1)))
      have b2 := b_not (b_na (call_d (cx := cxK tb (k + 4)) (f := i2) (ded_c i2' (ded_1 (lenR _ rfl))) (belowS t0 t1 (k + 2) y rows.length S (kn y (by rw [← hds]; simp)).1)))
      have b3 := b_not (b_na (call_d (cx := cxK tb (k + 4)) (f := i2) (ded_c i3 (ded_1 (lenS _ rfl))) (belowS t0 t1 (k + 2) z bs.length S (kn z (by rw [← hds]; simp)).1)))
      have b12 := b_or2 b1 b2 rfl
      unfold stepF
      rw [set_stm (ite_no tg)]
      cases hxy : belowB rows.length x && belowB rows.length y with
      | false =>
        have e : (!belowB rows.length x || !belowB rows.length y) = true := by
          rw [← Bool.not_and, hxy]
          rfl
        rw [e] at b12
        rw [Bool.false_and, if_neg (by simp), rt_stm (d := .non) ((ite_yes tj).trans (rt_stm ((ite_yes b12).trans (ret_1 cst_v)))), fin_rt, gc_same]
        rfl
      | true =>
        have e : (!belowB rows.length x || !belowB rows.length y) = false := by
          rw [← Bool.not_and, hxy]
          rfl
        rw [e] at b12
        rw [Bool.and_eq_true] at hxy
        obtain ⟨jx, rfl, hjx⟩ := belowB_of hxy.1
        obtain ⟨jy, rfl, hjy⟩ := belowB_of hxy.2
        rw [Bool.true_and]
        cases hz : belowB bs.length z with
        | false =>
          rw [hz] at b3
          rw [Bool.false_and, if_neg (by simp), rt_stm (d := .non) ((ite_yes tj).trans ((set_stm (ite_no b12)).trans (rt_stm ((ite_yes (b_or1 b3)).trans (ret_1 cst_v))))), fin_rt, gc_same]
          rfl
        | true =>
          rw [hz] at b3
          obtain ⟨jz, rfl, hjz⟩ := belowB_of hz
          have hb : idxE S (.v (.tup (bs.map D.bl))) (.v (.int jz)) = some (.bl (bs.getD jz false)) := by
            rw [atN (ds := bs.map D.bl) (by rw [List.length_map]; exact hjz), List.getElem_map, List.getD_eq_getElem?_getD, List.getElem?_eq_getElem hjz]
            rfl
          have b4 := b_not (b_nd (idx_2 (cx := cxK tb (k + 4)) (e := .var 0) (var_v rfl) i3 hb))
          have b34 := b_or b3 b4
          have e2 : bs.getD (dIn (.int jz)).toNat false = bs.getD jz false := by
            show bs.getD (jz : Int).toNat false = _
            rw [Int.toNat_natCast]
          rw [Bool.true_and, e2]
          cases hbz : bs.getD jz false with
          | false =>
            rw [hbz] at b34
            rw [if_neg (by simp), rt_stm (d := .non) ((ite_yes tj).trans ((set_stm (ite_no b12)).trans (rt_stm ((ite_yes b34).trans (ret_1 cst_v))))), fin_rt, gc_same]
            rfl
          | true =>
            rw [hbz] at b34
            have r1 := hr.2 _ (List.getElem_mem hjx)
            have r2 := hr.2 _ (List.getElem_mem hjy)
            have q := joinedS tM tJ (k + 2) (rowD rows (.int jx)) (rowD rows (.int jy)) (jz : Int) S (by rw [rowD_at hjx, rowD_at hjy]; omega)
            have ev := ret_1 (call_d (cx := cxK tb (k + 4)) (f := iJ) (ded_c (idx_2 (e := .var 2) (var_v rfl) i1 (row_idx hL hjx)) (ded_c (idx_2 (e := .var 2) (var_v rfl) i2' (row_idx hL hjy)) (ded_1 i3))) q)
            rw [if_pos rfl, rt_stm ((ite_yes tj).trans ((set_stm (ite_no b12)).trans ((set_stm (ite_no b34)).trans ev))), fin_rt, gc_same]
            rfl
    | false =>
      rw [hjv] at tj
      rw [if_neg (by simp)]
      unfold stepF
      rw [set_stm (ite_no tg), set_stm (ite_no tj)]
      cases hdv : toldB "drop" 2 d with
      | false =>
        rw [hdv] at td
        rw [Bool.false_and, if_neg (by simp), rt_stm (d := .non) ((ite_yes (b_or1 (b_not td))).trans (ret_1 cst_v)), fin_rt, gc_same]
        rfl
      | true =>
        rw [hdv] at td
        obtain ⟨r, rfl, hl⟩ := toldB_of hdv
        obtain ⟨y, rfl⟩ := len1 hl
        have ky := knT_of hd rfl y (by simp)
        have iy : ∀ s : Option D, (den (cxK tb (k + 4)) (.nd .idx [(.var 3), (.cst (.int 1))])).e [some (.tup (bs.map D.bl)), some (.ref g), some (.ref L), some (.tup [.str "drop", y]), s] S = .ok (.v y) S := fun s => idx_2 (var_v rfl) cst_v (atN (ds := [.str "drop", y]) (j := 1) (by simp))
        have b1 := b_not (b_na (call_d (cx := cxK tb (k + 4)) (f := i2) (ded_c (iy none) (ded_1 (lenR _ rfl))) (belowS t0 t1 (k + 2) y rows.length S ky.1)))
        have hy : argD (.tup [.str "drop", y]) 1 = y := rfl
        rw [hy, Bool.true_and]
        cases hb : belowB rows.length y with
        | false =>
          rw [hb] at b1
          rw [if_neg (by simp), rt_stm (d := .non) ((ite_yes (b_or (b_not td) b1)).trans (ret_1 cst_v)), fin_rt, gc_same]
          rfl
        | true =>
          rw [hb] at b1
          obtain ⟨j, rfl, hj⟩ := belowB_of hb
          have r1 := hr.2 _ (List.getElem_mem hj)
          rw [← rowD_at hj] at r1
          have ir : ∀ s : Option D, (den (cxK tb (k + 4)) (.nd .idx [(.var 2), (.nd .idx [(.var 3), (.cst (.int 1))])])).e [some (.tup (bs.map D.bl)), some (.ref g), some (.ref L), some (.tup [.str "drop", .int j]), s] S = .ok (.v (tupI (rowD rows (.int j)))) S := fun s => idx_2 (var_v rfl) (iy s) (row_idx hL hj)
          have q := droppedS tD (k + 3) bs (rowD rows (.int j)) S (bound_half r1.1) (by omega)
          have f1 := set_v (cx := cxK tb (k + 4)) (j := 4) (call_d (f := iD) (ded_c (e := .var 0) (var_v rfl) (ded_1 (ir none))) q) (by simp)
          rw [if_pos rfl, set_stm (ite_no (b_or (b_not td) b1)), set_stm f1]
          show finE S (exSs (cxK tb (k + 4)) _ [some (.tup (bs.map D.bl)), some (.ref g), some (.ref L), some (.tup [.str "drop", .int j]), some (tupI (dropC bs (rowD rows (.int j))))] S) = _
          have c1 := b_nd (cmp_2 (cx := cxK tb (k + 4)) (o := .eq) (e := .var 4) (var_v rfl) (ir (some (tupI (dropC bs (rowD rows (.int j)))))) (own_tup _ _ _ _ _) (cmEq (eqE_tupI S _ _)))
          have ev := ret_1 (e_ite (cx := cxK tb (k + 4)) (a := .cst .non) (b := .var 4) (t := .v (optT (drpV bs (rowD rows (.int j))))) _ c1 (by
            unfold drpV
            by_cases hq : dropC bs (rowD rows (.int j)) = rowD rows (.int j)
            · rw [if_pos (decide_eq_true hq), if_pos hq]
              exact cst_v
            · rw [if_neg (by simp [hq]), if_neg hq]
              exact var_v rfl))
          rw [ev, fin_rt, gc_same]
end
end Ev
set_option Elab.async false
set_option linter.all false
set_option maxRecDepth 100000
set_option autoImplicit false
set_option maxHeartbeats 4000000
/-! Sp, part O: the clause that a step of a file tells, by the law. -/
namespace Ev
open PySem
section
variable {tb : Tb} {i i1 i2 i3 i4 i5 : Nat}
def stepW (bs : List Bool) (rows : List (List Int)) (d : D) : Option (List Int) :=
  if toldB "join" 4 d = true then (if (belowB rows.length (argD d 1) && belowB rows.length (argD d 2)) && (belowB bs.length (argD d 3) && bs.getD (dIn (argD d 3)).toNat false) then joinC (rowD rows (argD d 1)) (rowD rows (argD d 2)) (dIn (argD d 3)) else none)
  else if toldB "drop" 2 d && belowB rows.length (argD d 1) then drpV bs (rowD rows (argD d 1)) else none
theorem stepV_W {bs : List Bool} {cs rows : List (List Int)} {d : D} (h : toldB "given" 2 d = false) : stepV bs cs rows d = stepW bs rows d := by
  unfold stepV stepW
  rw [if_neg (by simp [h])]
theorem stepV_G {bs : List Bool} {cs rows : List (List Int)} {d : D} (h : toldB "given" 2 d = true) : stepV bs cs rows d = givV bs cs (argD d 1) := by
  unfold stepV
  rw [if_pos h]
def lawStepF (iW iD iJ : Nat) : Fd := ⟨4, 6, [.ite (.or (.not (.nd (.isi (.b "tuple")) [(.var 3)])) (.or (.nd (.cmp .lt) [(.nd (.bi .len) [(.var 3)]), (.cst (.int 2))]) (.not (.nd (.isi (.b "str")) [(.nd .idx [(.var 3), (.cst (.int 0))])])))) [.ret (.cst (.non))] [], .ite (.not (.nd (.bi .all) [(.lc (.var 5) .seq [(.nd (.slc 1) [(.var 3), (.cst (.int 1))])] [] (.na (.call iW) [(.var 5), (.cst (.int 0)), (.nd (.op .pow) [(.cst (.int 10)), (.cst (.int 6))])]) [5])])) [.ret (.cst (.non))] [], .ite (.and (.nd (.cmp .eq) [(.nd .idx [(.var 3), (.cst (.int 0))]), (.cst (.str "drop"))]) (.and (.nd (.cmp .eq) [(.nd (.bi .len) [(.var 3)]), (.cst (.int 2))]) (.nd (.cmp .lt) [(.nd .idx [(.var 3), (.cst (.int 1))]), (.nd (.bi .len) [(.var 2)])]))) [.set (.var 4) (.na (.call iD) [(.var 0), (.var 1), (.nd .idx [(.var 2), (.nd .idx [(.var 3), (.cst (.int 1))])])]), .ite (.nd (.cmp .ne) [(.var 4), (.nd .idx [(.var 2), (.nd .idx [(.var 3), (.cst (.int 1))])])]) [.ret (.var 4)] []] [], .ite (.and (.nd (.cmp .eq) [(.nd .idx [(.var 3), (.cst (.int 0))]), (.cst (.str "join"))]) (.and (.nd (.cmp .eq) [(.nd (.bi .len) [(.var 3)]), (.cst (.int 4))]) (.nd (.cmp .lt) [(.nd .max2 [(.nd .idx [(.var 3), (.cst (.int 1))]), (.nd .idx [(.var 3), (.cst (.int 2))])]), (.nd (.bi .len) [(.var 2)])]))) [.ite (.and (.nd (.cmp .lt) [(.nd .idx [(.var 3), (.cst (.int 3))]), (.nd (.bi .len) [(.var 0)])]) (.nd (.cmp .ne) [(.nd .idx [(.var 0), (.nd .idx [(.var 3), (.cst (.int 3))])]), (.var 1)])) [.ret (.na (.call iJ) [(.nd .idx [(.var 2), (.nd .idx [(.var 3), (.cst (.int 1))])]), (.nd .idx [(.var 2), (.nd .idx [(.var 3), (.cst (.int 2))])]), (.nd .idx [(.var 3), (.cst (.int 3))])])] []] [], .ret (.cst (.non))]⟩
theorem told_no {w : Str} {m : Nat} {d : D} (h : ∀ r, d ≠ .tup (.str w :: r)) : toldB w m d = false := by
  cases hq : toldB w m d with
  | false => rfl
  | true =>
    obtain ⟨r, e, _⟩ := toldB_of hq
    exact absurd e (h r)
theorem told_len {w x : Str} {m : Nat} {r : List D} : toldB w m (.tup (.str x :: r)) = (decide (r.length + 1 = m) && decide (x = w)) := rfl
theorem stepW_no {bs : List Bool} {rows : List (List Int)} {d : D} (h : ∀ x r, d ≠ .tup (.str x :: r)) : stepW bs rows d = none := by
  unfold stepW
  rw [told_no (fun r => h _ r), told_no (fun r => h _ r), if_neg (by simp), Bool.false_and, if_neg (by simp)]
theorem stepW_no_short {bs : List Bool} {rows : List (List Int)} {ds : List D} (h : ¬ ∃ x y r, ds = .str x :: y :: r) : stepW bs rows (.tup ds) = none := by
  by_cases hx : ∃ x r, ds = .str x :: r
  · obtain ⟨x, r, rfl⟩ := hx
    have hr : r = [] := by
      cases r with
      | nil => rfl
      | cons y r => exact absurd ⟨x, y, r, rfl⟩ h
    subst hr
    unfold stepW
    rw [told_len, told_len]
    rfl
  · exact stepW_no fun x r e => hx ⟨x, r, D.tup.inj e⟩
theorem cut_tail (x : D) (r : List D) : cut (x :: r) (some 1) none = r := by
  unfold cut
  have e : HT.sIx (x :: r).length 0 (some 1) = 1 := by
    have := HT.sIx_nat (x :: r).length 0 1
    rw [List.length_cons] at this ⊢
    rw [show (some (1 : Int)) = some ((1 : Nat) : Int) from rfl, this]
    omega
  have e2 : HT.sIx (x :: r).length (x :: r).length none = (x :: r).length := rfl
  rw [e, e2]
  simp
theorem whole_of {b : Nat} (hb : b ≤ 1000) {y : D} (h : belowB b y = true) : wholeB 0 1000000 y = true := by
  obtain ⟨j, rfl, hj⟩ := belowB_of h
  show (decide (0 ≤ (j : Int)) && decide ((j : Int) ≤ 1000000)) = true
  rw [decide_eq_true (by omega), decide_eq_true (by omega)]
  rfl
theorem pow6 {cx : Cxt} {σ : Env} {S : Store} : (den cx (.nd (.op .pow) [(.cst (.int 10)), (.cst (.int 6))])).e σ S = .ok (.v (.int 1000000)) S := op_2 cst_v cst_v (r := .v (.int 1000000)) (by rw [opE_int, opI_pow (by omega) (by omega) (by decide)]; rfl)
theorem whole_int {y : D} (h : wholeB 0 1000000 y = true) : ∃ j : Nat, y = .int j ∧ j ≤ 1000000 := by
  unfold wholeB at h
  split at h
  · rename_i z
    rw [Bool.and_eq_true, decide_eq_true_eq, decide_eq_true_eq] at h
    exact ⟨z.toNat, by congr 1; omega, by omega⟩
  · cases h
theorem below_nat (b j : Nat) : belowB b (.int j) = decide (j < b) := by
  show (decide (0 ≤ (j : Int)) && decide ((j : Int) < b)) = _
  rw [decide_eq_true (by omega), Bool.true_and, Bool.eq_iff_iff, decide_eq_true_eq, decide_eq_true_eq]
  omega
theorem max2_nat {cx : Cxt} {e e' : Ex} {σ : Env} {S : Store} {x y : Int} (h : (den cx e).e σ S = .ok (.v (.int x)) S) (h' : (den cx e').e σ S = .ok (.v (.int y)) S) : (den cx (.nd .max2 [e, e'])).e σ S = .ok (.v (.int (if y > x then y else x))) S := by
  rw [nd_2 h h']
  rfl
theorem lawStepS (tW : tb.fs[i1]? = some lawWholeF) {iJ iD : Nat} (tJ : tb.fs[iJ]? = some lawJoinedF) (tD : tb.fs[iD]? = some lawDroppedF)
    (h : tb.fs[i]? = some (lawStepF i1 iD iJ)) (k : Nat) (bs : List Bool) (rows : List (List Int)) (d : D) (S : Store) (L : Nat) (hL : S[L]? = some (.lst (rows.map tupI))) (hd : stpOk S d) (hr : rowsOk bs.length rows) (hb : bs.length ≤ 400) :
    runK tb (k + 2) i [.tup (bs.map D.bl), .bl false, .ref L, d] S = .ok (optT (stepW bs rows d)) S := by
  rw [run_of h (k + 1) _ _ rfl]
  show finE S (exSs (cxK tb (k + 1)) (lawStepF i1 iD iJ).body [some (.tup (bs.map D.bl)), some (.bl false), some (.ref L), some d, none, none] S) = _
  have t1 : (den (cxK tb (k + 1)) (.nd (.isi (.b "tuple")) [(.var 3)])).e [some (.tup (bs.map D.bl)), some (.bl false), some (.ref L), some d, none, none] S = .ok (.v (.bl (isTp d))) S := by rw [nd_1 (var_v rfl), isiTup hd.kn.1]
  have n1 := b_not (b_nd t1)
  by_cases htp : ∃ ds, d = .tup ds
  case neg =>
    have e : isTp d = false := by
      cases d with
      | tup ds => exact absurd ⟨ds, rfl⟩ htp
      | _ => rfl
    rw [e] at n1
    rw [stepW_no fun x r e => htp ⟨_, e⟩]
    unfold lawStepF
    rw [rt_stm (d := .non) ((ite_yes (b_or1 n1)).trans (ret_1 cst_v)), fin_rt, gc_same]
    rfl
  obtain ⟨ds, rfl⟩ := htp
  have n1 : (den (cxK tb (k + 1)) (.not (.nd (.isi (.b "tuple")) [(.var 3)]))).b [some (.tup (bs.map D.bl)), some (.bl false), some (.ref L), some (.tup ds), none, none] S = .ok false S := n1
  have hlen : ∀ x5 : Option D, (den (cxK tb (k + 1)) (.nd (.bi .len) [(.var 3)])).e [some (.tup (bs.map D.bl)), some (.bl false), some (.ref L), some (.tup ds), none, x5] S = .ok (.v (.int ds.length)) S := fun _ => bi_1 (var_v rfl) (len_tup S ds)
  have n2 := b_nd (cmp_ii (cmLt S _ _) (hlen none) (cst_v (d := .int 2)))
  by_cases hsh : ∃ x y r, ds = .str x :: y :: r
  case neg =>
    rw [stepW_no_short hsh]
    have c : (den (cxK tb (k + 1)) (.or (.not (.nd (.isi (.b "tuple")) [(.var 3)])) (.or (.nd (.cmp .lt) [(.nd (.bi .len) [(.var 3)]), (.cst (.int 2))]) (.not (.nd (.isi (.b "str")) [(.nd .idx [(.var 3), (.cst (.int 0))])]))))).b [some (.tup (bs.map D.bl)), some (.bl false), some (.ref L), some (.tup ds), none, none] S = .ok true S := by
      refine b_or n1 ?_
      by_cases hl : (ds.length : Int) < 2
      · rw [decide_eq_true hl] at n2
        exact b_or1 n2
      · rw [decide_eq_false hl] at n2
        refine b_or n2 ?_
        match ds, hl with
        | x :: y :: r, _ =>
          have kx : knw S x := ((hd.kn.2 _ rfl).2 x List.mem_cons_self).1
          have ix : (den (cxK tb (k + 1)) (.nd .idx [(.var 3), (.cst (.int 0))])).e [some (.tup (bs.map D.bl)), some (.bl false), some (.ref L), some (.tup (x :: y :: r)), none, none] S = .ok (.v x) S := idx_2 (var_v rfl) cst_v (idx_tup (atI_get (x :: y :: r) 0 (by simp)))
          have t3 : (den (cxK tb (k + 1)) (.nd (.isi (.b "str")) [(.nd .idx [(.var 3), (.cst (.int 0))])])).e [some (.tup (bs.map D.bl)), some (.bl false), some (.ref L), some (.tup (x :: y :: r)), none, none] S = .ok (.v (.bl (isSt x))) S := by rw [nd_1 ix, isiStr kx]
          have e : isSt x = false := by
            cases x with
            | str x => exact absurd ⟨x, y, r, rfl⟩ hsh
            | _ => rfl
          rw [e] at t3
          exact b_not (b_nd t3)
        | [_], hl => exact absurd (by simp) hl
        | [], hl => exact absurd (by simp) hl
    unfold lawStepF
    rw [rt_stm (d := .non) ((ite_yes c).trans (ret_1 cst_v)), fin_rt, gc_same]
    rfl
  obtain ⟨w, y, r, rfl⟩ := hsh
  have hw : PyData.strOk w = true := hd.st _ w rfl List.mem_cons_self
  have kn := knT_of hd rfl
  have ix0 : (den (cxK tb (k + 1)) (.nd .idx [(.var 3), (.cst (.int 0))])).e [some (.tup (bs.map D.bl)), some (.bl false), some (.ref L), some (.tup (.str w :: y :: r)), none, none] S = .ok (.v (.str w)) S := idx_2 (var_v rfl) cst_v (idx_tup (atI_get (.str w :: y :: r) 0 (by simp)))
  have c0 : (den (cxK tb (k + 1)) (.or (.not (.nd (.isi (.b "tuple")) [(.var 3)])) (.or (.nd (.cmp .lt) [(.nd (.bi .len) [(.var 3)]), (.cst (.int 2))]) (.not (.nd (.isi (.b "str")) [(.nd .idx [(.var 3), (.cst (.int 0))])]))))).b [some (.tup (bs.map D.bl)), some (.bl false), some (.ref L), some (.tup (.str w :: y :: r)), none, none] S = .ok false S := by
    have t3 : (den (cxK tb (k + 1)) (.nd (.isi (.b "str")) [(.nd .idx [(.var 3), (.cst (.int 0))])])).e [some (.tup (bs.map D.bl)), some (.bl false), some (.ref L), some (.tup (.str w :: y :: r)), none, none] S = .ok (.v (.bl true)) S := by
      rw [nd_1 ix0, isiStr (show knw S (.str w) from trivial)]
      rfl
    rw [decide_eq_false (by simp; omega)] at n2
    exact b_or n1 (b_or n2 (b_not (b_nd t3)))
  have esl : (den (cxK tb (k + 1)) (.nd (.slc 1) [(.var 3), (.cst (.int 1))])).e [some (.tup (bs.map D.bl)), some (.bl false), some (.ref L), some (.tup (.str w :: y :: r)), none, none] S = .ok (.v (.tup (y :: r))) S := by
    rw [nd_2 (var_v rfl) cst_v, app_slc1]
    show ofO S (some (T.v (.tup (cut (.str w :: y :: r) (some 1) none)))) = _
    rw [cut_tail]
    rfl
  have eall := all_gen (cx := cxK tb (k + 1)) (σ := [some (.tup (bs.map D.bl)), some (.bl false), some (.ref L), some (.tup (.str w :: y :: r)), none, none]) (σ' := [some (.tup (bs.map D.bl)), some (.bl false), some (.ref L), some (.tup (.str w :: y :: r)), none, none]) (S := S) (v := 5) (ik := .seq) (ia := [(.nd (.slc 1) [(.var 3), (.cst (.int 1))])]) (own := [5]) (el := (.na (.call i1) [(.var 5), (.cst (.int 0)), (.nd (.op .pow) [(.cst (.int 10)), (.cst (.int 6))])])) (ds := y :: r) (g := fun _ => true)
    (wholeB 0 1000000) (dens_1 esl) rfl rfl rfl (by simp) (fun d hd' => call_d (ded_c (var_v rfl) (ded_c cst_v (ded_1 pow6))) (lawWholeS tW k d 0 1000000 S (kn d (List.mem_cons_of_mem _ hd')).1))
  have nall := b_not (b_nd eall)
  have lb := hr.1
  have nums : (y :: r).all (wholeB 0 1000000) = false → stepW bs rows (.tup (.str w :: y :: r)) = none := by
    intro hf
    unfold stepW
    by_cases hj : toldB "join" 4 (.tup (.str w :: y :: r)) = true
    · rw [if_pos hj, if_neg]
      intro hc
      rw [Bool.and_eq_true, Bool.and_eq_true, Bool.and_eq_true] at hc
      obtain ⟨⟨h1, h2⟩, h3, _⟩ := hc
      obtain ⟨r', e, hl⟩ := toldB_of hj
      cases e
      obtain ⟨a, b, c, e⟩ := len3 hl
      rw [e] at h1 h2 h3 hf
      have : ([a, b, c] : List D).all (wholeB 0 1000000) = true := by
        have q1 : wholeB 0 1000000 a = true := whole_of lb h1
        have q2 : wholeB 0 1000000 b = true := whole_of lb h2
        have q3 : wholeB 0 1000000 c = true := whole_of (by omega) h3
        rw [List.all_cons, List.all_cons, List.all_cons, q1, q2, q3]
        rfl
      rw [this] at hf
      cases hf
    · rw [if_neg hj, if_neg]
      intro hc
      rw [Bool.and_eq_true] at hc
      obtain ⟨r', e, hl⟩ := toldB_of hc.1
      cases e
      obtain ⟨a, e⟩ := len1 hl
      have hc2 := hc.2
      rw [e] at hc2 hf
      have : ([a] : List D).all (wholeB 0 1000000) = true := by
        have q1 : wholeB 0 1000000 a = true := whole_of lb hc2
        rw [List.all_cons, q1]
        rfl
      rw [this] at hf
      cases hf
  cases hall : (y :: r).all (wholeB 0 1000000) with
  | false =>
    rw [hall] at nall
    rw [nums hall]
    unfold lawStepF
    rw [set_stm (ite_no c0), rt_stm (d := .non) ((ite_yes nall).trans (ret_1 cst_v)), fin_rt, gc_same]
    rfl
  | true =>
    rw [hall] at nall
    have all' := List.all_eq_true.mp hall
    clear nums eall hall
    have eqw : ∀ v : Str, PyData.strOk v = true → (den (cxK tb (k + 1)) (.nd (.cmp .eq) [(.nd .idx [(.var 3), (.cst (.int 0))]), (.cst (.str v))])).b [some (.tup (bs.map D.bl)), some (.bl false), some (.ref L), some (.tup (.str w :: y :: r)), none, none] S = .ok (decide (w = v)) S := fun v hv =>
      b_nd (cmp_2 ix0 cst_v (own_str _ _ _ _ _) (cmEq (eq_str hw hv)))
    have lenR : ∀ s : Option D, (den (cxK tb (k + 1)) (.nd (.bi .len) [(.var 2)])).e [some (.tup (bs.map D.bl)), some (.bl false), some (.ref L), some (.tup (.str w :: y :: r)), s, none] S = .ok (.v (.int rows.length)) S := fun s => bi_1 (var_v rfl) (by rw [len_ref hL, List.length_map])
    have leq : ∀ m : Nat, (den (cxK tb (k + 1)) (.nd (.cmp .eq) [(.nd (.bi .len) [(.var 3)]), (.cst (.int m))])).b [some (.tup (bs.map D.bl)), some (.bl false), some (.ref L), some (.tup (.str w :: y :: r)), none, none] S = .ok (decide (r.length + 2 = m)) S := fun m => by
      refine b_nd (cmp_ii (y := (m : Int)) (cmEq ?_) (hlen none) cst_v)
      rw [eqE_int]
      congr 1
      rw [Bool.eq_iff_iff, decide_eq_true_eq, decide_eq_true_eq]
      simp
      omega
    have leq2 : (den (cxK tb (k + 1)) (.nd (.cmp .eq) [(.nd (.bi .len) [(.var 3)]), (.cst (.int 2))])).b [some (.tup (bs.map D.bl)), some (.bl false), some (.ref L), some (.tup (.str w :: y :: r)), none, none] S = .ok (decide (r.length + 2 = 2)) S := leq 2
    have leq4 : (den (cxK tb (k + 1)) (.nd (.cmp .eq) [(.nd (.bi .len) [(.var 3)]), (.cst (.int 4))])).b [some (.tup (bs.map D.bl)), some (.bl false), some (.ref L), some (.tup (.str w :: y :: r)), none, none] S = .ok (decide (r.length + 2 = 4)) S := leq 4
    have edrop := eqw "drop" (strOk_of "drop")
    have ejoin := eqw "join" (strOk_of "join")
    obtain ⟨jy, rfl, hjy⟩ := whole_int (all' y List.mem_cons_self)
    have ix1 : ∀ s : Option D, (den (cxK tb (k + 1)) (.nd .idx [(.var 3), (.cst (.int 1))])).e [some (.tup (bs.map D.bl)), some (.bl false), some (.ref L), some (.tup (.str w :: .int jy :: r)), s, none] S = .ok (.v (.int jy)) S := fun s => idx_2 (var_v rfl) cst_v (atN (ds := .str w :: .int jy :: r) (j := 1) (by simp))
    have cD : (den (cxK tb (k + 1)) (.and (.nd (.cmp .eq) [(.nd .idx [(.var 3), (.cst (.int 0))]), (.cst (.str "drop"))]) (.and (.nd (.cmp .eq) [(.nd (.bi .len) [(.var 3)]), (.cst (.int 2))]) (.nd (.cmp .lt) [(.nd .idx [(.var 3), (.cst (.int 1))]), (.nd (.bi .len) [(.var 2)])])))).b [some (.tup (bs.map D.bl)), some (.bl false), some (.ref L), some (.tup (.str w :: .int jy :: r)), none, none] S = .ok (decide (w = "drop") && (decide (r.length + 2 = 2) && decide (jy < rows.length))) S := by
      refine b_and2 edrop (fun _ => b_and2 leq2 (fun _ => ?_) rfl) rfl
      have q := b_nd (cmp_ii (cmLt S _ _) (ix1 none) (lenR none))
      have e : decide ((jy : Int) < (rows.length : Int)) = decide (jy < rows.length) := by
        rw [Bool.eq_iff_iff, decide_eq_true_eq, decide_eq_true_eq]
        omega
      rw [e] at q
      exact q
    unfold lawStepF
    rw [set_stm (ite_no c0), set_stm (ite_no nall)]
    by_cases hdr : w = "drop" ∧ r.length + 2 = 2
    · obtain ⟨rfl, hl⟩ := hdr
      have hr0 : r = [] := List.eq_nil_of_length_eq_zero (by omega)
      subst hr0
      have ej : (den (cxK tb (k + 1)) (.and (.nd (.cmp .eq) [(.nd .idx [(.var 3), (.cst (.int 0))]), (.cst (.str "join"))]) (.and (.nd (.cmp .eq) [(.nd (.bi .len) [(.var 3)]), (.cst (.int 4))]) (.nd (.cmp .lt) [(.nd .max2 [(.nd .idx [(.var 3), (.cst (.int 1))]), (.nd .idx [(.var 3), (.cst (.int 2))])]), (.nd (.bi .len) [(.var 2)])])))).b [some (.tup (bs.map D.bl)), some (.bl false), some (.ref L), some (.tup [.str "drop", .int jy]), none, none] S = .ok false S := b_and0 ejoin
      have eW : stepW bs rows (.tup [.str "drop", .int jy]) = if jy < rows.length then drpV bs (rowD rows (.int jy)) else none := by
        unfold stepW
        have e1 : toldB "join" 4 (.tup [.str "drop", .int jy]) = false := rfl
        have e2 : toldB "drop" 2 (.tup [.str "drop", .int jy]) = true := rfl
        have e3 : argD (.tup [.str "drop", .int jy]) 1 = .int jy := rfl
        rw [e1, e2, e3, if_neg (by simp), Bool.true_and, below_nat]
        by_cases hj : jy < rows.length
        · rw [if_pos (decide_eq_true hj), if_pos hj]
        · rw [if_neg (by simp [hj]), if_neg hj]
      rw [eW]
      by_cases hj : jy < rows.length
      · rw [decide_eq_true hj] at cD
        have cD : (den (cxK tb (k + 1)) (.and (.nd (.cmp .eq) [(.nd .idx [(.var 3), (.cst (.int 0))]), (.cst (.str "drop"))]) (.and (.nd (.cmp .eq) [(.nd (.bi .len) [(.var 3)]), (.cst (.int 2))]) (.nd (.cmp .lt) [(.nd .idx [(.var 3), (.cst (.int 1))]), (.nd (.bi .len) [(.var 2)])])))).b [some (.tup (bs.map D.bl)), some (.bl false), some (.ref L), some (.tup [.str "drop", .int jy]), none, none] S = .ok true S := cD
        have r1 := hr.2 _ (List.getElem_mem hj)
        rw [← rowD_at hj] at r1
        have ir : ∀ s : Option D, (den (cxK tb (k + 1)) (.nd .idx [(.var 2), (.nd .idx [(.var 3), (.cst (.int 1))])])).e [some (.tup (bs.map D.bl)), some (.bl false), some (.ref L), some (.tup [.str "drop", .int jy]), s, none] S = .ok (.v (tupI (rowD rows (.int jy)))) S := fun s => idx_2 (var_v rfl) (ix1 s) (row_idx hL hj)
        have q := lawDroppedS tD k bs (rowD rows (.int jy)) S (bound_half r1.1) (by omega)
        have f1 := set_v (cx := cxK tb (k + 1)) (j := 4) (call_d (f := iD) (ded_c (e := .var 0) (var_v rfl) (ded_c (e := .var 1) (var_v rfl) (ded_1 (ir none)))) q) (by simp)
        have c1 := b_nd (cmp_2 (cx := cxK tb (k + 1)) (o := .ne) (e := .var 4) (σ := [some (.tup (bs.map D.bl)), some (.bl false), some (.ref L), some (.tup [.str "drop", .int jy]), some (tupI (dropC bs (rowD rows (.int jy)))), none]) (var_v rfl) (ir _) (own_tup _ _ _ _ _) (cmNeE (eqE_tupI S _ _)))
        rw [if_pos hj]
        unfold drpV
        by_cases hq : dropC bs (rowD rows (.int jy)) = rowD rows (.int jy)
        · rw [if_pos hq]
          rw [decide_eq_true hq] at c1
          have ej' : (den (cxK tb (k + 1)) (.and (.nd (.cmp .eq) [(.nd .idx [(.var 3), (.cst (.int 0))]), (.cst (.str "join"))]) (.and (.nd (.cmp .eq) [(.nd (.bi .len) [(.var 3)]), (.cst (.int 4))]) (.nd (.cmp .lt) [(.nd .max2 [(.nd .idx [(.var 3), (.cst (.int 1))]), (.nd .idx [(.var 3), (.cst (.int 2))])]), (.nd (.bi .len) [(.var 2)])])))).b [some (.tup (bs.map D.bl)), some (.bl false), some (.ref L), some (.tup [.str "drop", .int jy]), some (tupI (dropC bs (rowD rows (.int jy)))), none] S = .ok false S := by
            have ix0' : (den (cxK tb (k + 1)) (.nd .idx [(.var 3), (.cst (.int 0))])).e [some (.tup (bs.map D.bl)), some (.bl false), some (.ref L), some (.tup [.str "drop", .int jy]), some (tupI (dropC bs (rowD rows (.int jy)))), none] S = .ok (.v (.str "drop")) S := idx_2 (var_v rfl) cst_v (idx_tup (atI_get [D.str "drop", .int jy] 0 (by simp)))
            exact b_and0 (b_nd (cmp_2 ix0' cst_v (own_str _ _ _ _ _) (cmEq (eq_str hw (strOk_of "join")))))
          have f2 : exS (cxK tb (k + 1)) (.ite (.and (.nd (.cmp .eq) [(.nd .idx [(.var 3), (.cst (.int 0))]), (.cst (.str "drop"))]) (.and (.nd (.cmp .eq) [(.nd (.bi .len) [(.var 3)]), (.cst (.int 2))]) (.nd (.cmp .lt) [(.nd .idx [(.var 3), (.cst (.int 1))]), (.nd (.bi .len) [(.var 2)])]))) [.set (.var 4) (.na (.call iD) [(.var 0), (.var 1), (.nd .idx [(.var 2), (.nd .idx [(.var 3), (.cst (.int 1))])])]), .ite (.nd (.cmp .ne) [(.var 4), (.nd .idx [(.var 2), (.nd .idx [(.var 3), (.cst (.int 1))])])]) [.ret (.var 4)] []] []) [some (.tup (bs.map D.bl)), some (.bl false), some (.ref L), some (.tup [.str "drop", .int jy]), none, none] S = .ok (.nx [some (.tup (bs.map D.bl)), some (.bl false), some (.ref L), some (.tup [.str "drop", .int jy]), some (tupI (dropC bs (rowD rows (.int jy)))), none]) S := by
            rw [ite_yes cD, set_stm f1]
            show exSs (cxK tb (k + 1)) _ [some (.tup (bs.map D.bl)), some (.bl false), some (.ref L), some (.tup [.str "drop", .int jy]), some (tupI (dropC bs (rowD rows (.int jy)))), none] S = _
            rw [set_stm (ite_no c1), exs_nil]
          rw [set_stm f2, set_stm (ite_no ej'), ret_1 cst_v, fin_rt, gc_same]
          rfl
        · rw [if_neg hq]
          rw [decide_eq_false hq] at c1
          have f2 : exS (cxK tb (k + 1)) (.ite (.and (.nd (.cmp .eq) [(.nd .idx [(.var 3), (.cst (.int 0))]), (.cst (.str "drop"))]) (.and (.nd (.cmp .eq) [(.nd (.bi .len) [(.var 3)]), (.cst (.int 2))]) (.nd (.cmp .lt) [(.nd .idx [(.var 3), (.cst (.int 1))]), (.nd (.bi .len) [(.var 2)])]))) [.set (.var 4) (.na (.call iD) [(.var 0), (.var 1), (.nd .idx [(.var 2), (.nd .idx [(.var 3), (.cst (.int 1))])])]), .ite (.nd (.cmp .ne) [(.var 4), (.nd .idx [(.var 2), (.nd .idx [(.var 3), (.cst (.int 1))])])]) [.ret (.var 4)] []] []) [some (.tup (bs.map D.bl)), some (.bl false), some (.ref L), some (.tup [.str "drop", .int jy]), none, none] S = .ok (.rt (tupI (dropC bs (rowD rows (.int jy))))) S := by
            rw [ite_yes cD, set_stm f1]
            show exSs (cxK tb (k + 1)) _ [some (.tup (bs.map D.bl)), some (.bl false), some (.ref L), some (.tup [.str "drop", .int jy]), some (tupI (dropC bs (rowD rows (.int jy)))), none] S = _
            rw [rt_stm ((ite_yes c1).trans (ret_1 (var_v rfl)))]
          rw [rt_stm f2, fin_rt, gc_same]
          rfl
      · rw [decide_eq_false hj] at cD
        have cD : (den (cxK tb (k + 1)) (.and (.nd (.cmp .eq) [(.nd .idx [(.var 3), (.cst (.int 0))]), (.cst (.str "drop"))]) (.and (.nd (.cmp .eq) [(.nd (.bi .len) [(.var 3)]), (.cst (.int 2))]) (.nd (.cmp .lt) [(.nd .idx [(.var 3), (.cst (.int 1))]), (.nd (.bi .len) [(.var 2)])])))).b [some (.tup (bs.map D.bl)), some (.bl false), some (.ref L), some (.tup [.str "drop", .int jy]), none, none] S = .ok false S := cD
        rw [if_neg hj, set_stm (ite_no cD), set_stm (ite_no ej), ret_1 cst_v, fin_rt, gc_same]
        rfl
    · have cD0 : (decide (w = "drop") && (decide (r.length + 2 = 2) && decide (jy < rows.length))) = false := by
        by_cases h1 : w = "drop"
        · rw [decide_eq_false (fun z => hdr ⟨h1, z⟩), Bool.false_and, Bool.and_false]
        · rw [decide_eq_false h1, Bool.false_and]
      rw [cD0] at cD
      have tdr : toldB "drop" 2 (.tup (.str w :: .int jy :: r)) = false := by
        rw [told_len]
        by_cases h1 : w = "drop"
        · rw [decide_eq_false (fun z => hdr ⟨h1, by simpa using z⟩), Bool.false_and]
        · rw [decide_eq_false h1, Bool.and_false]
      rw [set_stm (ite_no cD)]
      by_cases hjo : w = "join" ∧ r.length + 2 = 4
      · obtain ⟨rfl, hl⟩ := hjo
        obtain ⟨a, b, rfl⟩ : ∃ a b, r = [a, b] := by
          match r, hl with
          | [a, b], _ => exact ⟨a, b, rfl⟩
        obtain ⟨ja, rfl, hja⟩ := whole_int (all' a (by simp))
        obtain ⟨jb, rfl, hjb⟩ := whole_int (all' b (by simp))
        have ix2 : (den (cxK tb (k + 1)) (.nd .idx [(.var 3), (.cst (.int 2))])).e [some (.tup (bs.map D.bl)), some (.bl false), some (.ref L), some (.tup [.str "join", .int jy, .int ja, .int jb]), none, none] S = .ok (.v (.int ja)) S := idx_2 (var_v rfl) cst_v (atN (ds := [.str "join", .int jy, .int ja, .int jb]) (j := 2) (by simp))
        have ix3 : (den (cxK tb (k + 1)) (.nd .idx [(.var 3), (.cst (.int 3))])).e [some (.tup (bs.map D.bl)), some (.bl false), some (.ref L), some (.tup [.str "join", .int jy, .int ja, .int jb]), none, none] S = .ok (.v (.int jb)) S := idx_2 (var_v rfl) cst_v (atN (ds := [.str "join", .int jy, .int ja, .int jb]) (j := 3) (by simp))
        have cM := b_nd (cmp_ii (cmLt S _ _) (max2_nat (ix1 none) ix2) (lenR none))
        have eM : decide ((if (ja : Int) > (jy : Int) then (ja : Int) else (jy : Int)) < (rows.length : Int)) = (decide (jy < rows.length) && decide (ja < rows.length)) := by
          rw [Bool.eq_iff_iff, Bool.and_eq_true, decide_eq_true_eq, decide_eq_true_eq, decide_eq_true_eq]
          split <;> omega
        rw [eM] at cM
        have leq4' : (den (cxK tb (k + 1)) (.nd (.cmp .eq) [(.nd (.bi .len) [(.var 3)]), (.cst (.int 4))])).b [some (.tup (bs.map D.bl)), some (.bl false), some (.ref L), some (.tup [.str "join", .int jy, .int ja, .int jb]), none, none] S = .ok true S := leq4
        have ejoin' : (den (cxK tb (k + 1)) (.nd (.cmp .eq) [(.nd .idx [(.var 3), (.cst (.int 0))]), (.cst (.str "join"))])).b [some (.tup (bs.map D.bl)), some (.bl false), some (.ref L), some (.tup [.str "join", .int jy, .int ja, .int jb]), none, none] S = .ok true S := ejoin
        have cJ := b_and ejoin' (b_and leq4' cM)
        have lenS : (den (cxK tb (k + 1)) (.nd (.bi .len) [(.var 0)])).e [some (.tup (bs.map D.bl)), some (.bl false), some (.ref L), some (.tup [.str "join", .int jy, .int ja, .int jb]), none, none] S = .ok (.v (.int bs.length)) S := bi_1 (var_v rfl) (by rw [len_tup, List.length_map])
        have c3 := b_nd (cmp_ii (cmLt S _ _) ix3 lenS)
        have e3 : decide ((jb : Int) < (bs.length : Int)) = decide (jb < bs.length) := by
          rw [Bool.eq_iff_iff, decide_eq_true_eq, decide_eq_true_eq]
          omega
        rw [e3] at c3
        have eW : stepW bs rows (.tup [.str "join", .int jy, .int ja, .int jb]) = if (decide (jy < rows.length) && decide (ja < rows.length)) && (decide (jb < bs.length) && bs.getD jb false) then joinC (rowD rows (.int jy)) (rowD rows (.int ja)) jb else none := by
          unfold stepW
          have e1 : toldB "join" 4 (.tup [.str "join", .int jy, .int ja, .int jb]) = true := rfl
          rw [if_pos e1]
          show (if (belowB rows.length (.int jy) && belowB rows.length (.int ja)) && (belowB bs.length (.int jb) && bs.getD (jb : Int).toNat false) then _ else _) = _
          rw [below_nat, below_nat, below_nat, Int.toNat_natCast]
          rfl
        rw [eW]
        cases hxy : (decide (jy < rows.length) && decide (ja < rows.length)) with
        | false =>
          rw [hxy] at cJ
          rw [Bool.false_and, if_neg (by simp), set_stm (ite_no cJ), ret_1 cst_v, fin_rt, gc_same]
          rfl
        | true =>
          rw [hxy] at cJ
          rw [Bool.and_eq_true, decide_eq_true_eq, decide_eq_true_eq] at hxy
          rw [Bool.true_and]
          by_cases hjz : jb < bs.length
          · rw [decide_eq_true hjz] at c3 ⊢
            have hbx : idxE S (.v (.tup (bs.map D.bl))) (.v (.int jb)) = some (.bl (bs.getD jb false)) := by
              rw [atN (ds := bs.map D.bl) (by rw [List.length_map]; exact hjz), List.getElem_map, List.getD_eq_getElem?_getD, List.getElem?_eq_getElem hjz]
              rfl
            have c4 := b_nd (cmp_2 (cx := cxK tb (k + 1)) (o := .ne) (e' := .var 1) (idx_2 (e := .var 0) (var_v rfl) ix3 hbx) (var_v rfl) (own_bl _ _ _ _ _) (c := bs.getD jb false) (by
              rw [cmNeE (eqE_bl S _ _)]
              cases bs.getD jb false <;> rfl))
            rw [Bool.true_and]
            cases hbz : bs.getD jb false with
            | false =>
              rw [hbz] at c4
              have f2 := (ite_yes (b := []) cJ).trans ((set_stm (r := []) (ite_no (a := [.ret (.na (.call iJ) [(.nd .idx [(.var 2), (.nd .idx [(.var 3), (.cst (.int 1))])]), (.nd .idx [(.var 2), (.nd .idx [(.var 3), (.cst (.int 2))])]), (.nd .idx [(.var 3), (.cst (.int 3))])])]) (b_and c3 c4))).trans (by rw [exs_nil]))
              rw [if_neg (by simp), set_stm f2, ret_1 cst_v, fin_rt, gc_same]
              rfl
            | true =>
              rw [hbz] at c4
              have r1 := hr.2 _ (List.getElem_mem hxy.1)
              have r2 := hr.2 _ (List.getElem_mem hxy.2)
              have q := lawJoinedS tJ k (rowD rows (.int jy)) (rowD rows (.int ja)) (jb : Int) S (by rw [rowD_at hxy.1, rowD_at hxy.2]; omega)
              have ag := (joins_agree (m := bs.length) (by omega) (xs := rowD rows (.int jy)) (ys := rowD rows (.int ja)) (by rw [rowD_at hxy.1]; exact r1.1) (by rw [rowD_at hxy.2]; exact r2.1) jb).1
              have ev := ret_1 (call_d (cx := cxK tb (k + 1)) (f := iJ) (ded_c (idx_2 (e := .var 2) (var_v rfl) (ix1 none) (row_idx hL hxy.1)) (ded_c (idx_2 (e := .var 2) (var_v rfl) ix2 (row_idx hL hxy.2)) (ded_1 ix3))) q)
              rw [if_pos rfl, ag, rt_stm ((ite_yes cJ).trans (rt_stm ((ite_yes (b_and c3 c4)).trans ev))), fin_rt, gc_same]
          · rw [decide_eq_false hjz] at c3 ⊢
            have f2 := (ite_yes (b := []) cJ).trans ((set_stm (r := []) (ite_no (a := [.ret (.na (.call iJ) [(.nd .idx [(.var 2), (.nd .idx [(.var 3), (.cst (.int 1))])]), (.nd .idx [(.var 2), (.nd .idx [(.var 3), (.cst (.int 2))])]), (.nd .idx [(.var 3), (.cst (.int 3))])])]) (b_and0 (e' := (.nd (.cmp .ne) [(.nd .idx [(.var 0), (.nd .idx [(.var 3), (.cst (.int 3))])]), (.var 1)])) c3))).trans (by rw [exs_nil]))
            rw [Bool.false_and, if_neg (by simp), set_stm f2, ret_1 cst_v, fin_rt, gc_same]
            rfl
      · have tjo : toldB "join" 4 (.tup (.str w :: .int jy :: r)) = false := by
          rw [told_len]
          by_cases h1 : w = "join"
          · rw [decide_eq_false (fun z => hjo ⟨h1, by simpa using z⟩), Bool.false_and]
          · rw [decide_eq_false h1, Bool.and_false]
        have eW : stepW bs rows (.tup (.str w :: .int jy :: r)) = none := by
          unfold stepW
          rw [tjo, tdr, if_neg (by simp), Bool.false_and, if_neg (by simp)]
        have cJ : (den (cxK tb (k + 1)) (.and (.nd (.cmp .eq) [(.nd .idx [(.var 3), (.cst (.int 0))]), (.cst (.str "join"))]) (.and (.nd (.cmp .eq) [(.nd (.bi .len) [(.var 3)]), (.cst (.int 4))]) (.nd (.cmp .lt) [(.nd .max2 [(.nd .idx [(.var 3), (.cst (.int 1))]), (.nd .idx [(.var 3), (.cst (.int 2))])]), (.nd (.bi .len) [(.var 2)])])))).b [some (.tup (bs.map D.bl)), some (.bl false), some (.ref L), some (.tup (.str w :: .int jy :: r)), none, none] S = .ok false S := by
          by_cases h1 : w = "join"
          · rw [decide_eq_true h1] at ejoin
            rw [decide_eq_false (fun z => hjo ⟨h1, z⟩)] at leq4
            exact b_and ejoin (b_and0 leq4)
          · rw [decide_eq_false h1] at ejoin
            exact b_and0 ejoin
        rw [eW, set_stm (ite_no cJ), ret_1 cst_v, fin_rt, gc_same]
        rfl
end
end Ev
set_option Elab.async false
set_option linter.all false
set_option maxRecDepth 100000
set_option autoImplicit false
set_option maxHeartbeats 4000000
/-! Sp, part P: the clauses that a file tells, by the program and by the law. -/
namespace Ev
open PySem
section
variable {tb : Tb} {i i1 i2 i3 i4 i5 : Nat}
/-! what stays known when the store grows -/
theorem knw_app {S : Store} {d : D} (T : List O) (h : knw S d) : knw (S ++ T) d := by
  cases d with
  | ref n =>
    have g : ∀ s, tyB S (.v (.ref n)) = some s → tyB (S ++ T) (.v (.ref n)) = some s := fun s hs => by
      unfold tyB objR at hs ⊢
      dsimp only at hs ⊢
      cases hq : S[n]? with
      | none => rw [hq] at hs; cases hs
      | some o => rw [app_at hq T]; rw [hq] at hs; exact hs
    exact h.imp (g _) (g _)
  | fn _ => exact h
  | cls _ => exact h
  | _ => trivial
theorem knT_appS {S : Store} {d : D} (T : List O) (h : knT S d) : knT (S ++ T) d := ⟨knw_app T h.1, fun ds e => ⟨(h.2 ds e).1, fun x hx => knw_app T ((h.2 ds e).2 x hx)⟩⟩
theorem knTT_appS {S : Store} {d : D} (T : List O) (h : knTT S d) : knTT (S ++ T) d := ⟨knw_app T h.1, fun ds e => ⟨(h.2 ds e).1, fun x hx => knT_appS T ((h.2 ds e).2 x hx)⟩⟩
theorem stpOk.app {S : Store} {d : D} (T : List O) (h : stpOk S d) : stpOk (S ++ T) d := ⟨knTT_appS T h.kn, h.st⟩
/-! what a step tells is a clause -/
theorem pw_len : ∀ (l : List Int) (lo hi : Int), l.Pairwise (· < ·) → (∀ x ∈ l, lo ≤ x ∧ x < hi) → l.length ≤ (hi - lo).toNat
  | [], _, _, _, _ => Nat.zero_le _
  | a :: r, lo, hi, p, h => by
    obtain ⟨p1, p2⟩ := List.pairwise_cons.mp p
    have ih := pw_len r (a + 1) hi p2 fun x hx => by
      have h1 := p1 x hx
      have h2 := (h x (List.mem_cons_of_mem _ hx)).2
      exact ⟨by omega, h2⟩
    have ha := h a List.mem_cons_self
    rw [List.length_cons]
    omega
theorem clause_len {m : Nat} {xs : List Int} (h : clauseI m xs = true) : xs.length ≤ m := by
  obtain ⟨h1, h2, h3, h4⟩ := clauseI_nodup h
  have hs : xs.Pairwise (· ≤ ·) := h4 ▸ sortI_sorted xs
  have hn : xs.Pairwise (fun a b => a / 2 ≠ b / 2) := List.pairwise_map.mp h3
  have q := pw_len (xs.map (· / 2)) 0 m (List.pairwise_map.mpr ((hs.and hn).imp fun {a b} z => by omega)) (fun x hx => by
    obtain ⟨y, hy, rfl⟩ := List.mem_map.mp hx
    have := h2 y hy
    omega)
  rw [List.length_map] at q
  omega
theorem clause_filter {m : Int} {xs : List Int} (h : clauseI m xs = true) (p : Int → Bool) : clauseI m (xs.filter p) = true := by
  obtain ⟨h1, h2, h3, h4⟩ := clauseI_nodup h
  have hs : xs.Pairwise (· ≤ ·) := h4 ▸ sortI_sorted xs
  have e : sortI (xs.filter p) = xs.filter p := (sortI_of (.refl _) (hs.filter p)).symm
  have hn : xs.Pairwise (fun a b => a / 2 ≠ b / 2) := List.pairwise_map.mp h3
  have q := clause_sorted (m := m) (xs := xs.filter p) (fun x hx => h2 x (List.mem_filter.mp hx).1) (List.pairwise_map.mpr (hn.filter p))
  rw [e] at q
  exact q
theorem rowD_in {rows : List (List Int)} {y : D} (h : belowB rows.length y = true) : rowD rows y ∈ rows := by
  obtain ⟨j, rfl, hj⟩ := belowB_of h
  rw [rowD_at hj]
  exact List.getElem_mem _
theorem stepV_clause {bs : List Bool} {cs rows : List (List Int)} {d : D} {c : List Int} (hb : bs.length ≤ 30) (hr : ∀ r ∈ rows, clauseI bs.length r = true) (h : stepV bs cs rows d = some c) : clauseI bs.length c = true := by
  unfold stepV at h
  split at h
  · unfold givV at h
    split at h
    · rename_i hc
      rw [Bool.and_eq_true] at hc
      obtain ⟨xs, e, hx⟩ := clauseB_of hc.1
      cases h
      rw [e, tIn_tupI]
      exact hx
    · cases h
  · split at h
    · split at h
      · rename_i hc
        rw [Bool.and_eq_true, Bool.and_eq_true] at hc
        exact (joins_agree (by omega) (hr _ (rowD_in hc.1.1)) (hr _ (rowD_in hc.1.2)) _).2 c h
      · cases h
    · split at h
      · rename_i hc
        rw [Bool.and_eq_true] at hc
        unfold drpV at h
        split at h
        · cases h
        · cases h
          exact clause_filter (hr _ (rowD_in hc.2)) _
      · cases h
def fileV (bs : List Bool) (cs : List (List Int)) : List (List Int) → List D → Option (List (List Int))
  | rows, [] => some rows
  | rows, d :: ds => match stepV bs cs rows d with
    | none => none
    | some c => fileV bs cs (rows ++ [c]) ds
def fileD (bs : List Bool) (cs : List (List Int)) : D → Option (List (List Int))
  | .tup ds => fileV bs cs [] ds
  | _ => none
def optTs : Option (List (List Int)) → D | none => .non | some rows => .tup (rows.map tupI)
/-- what can be asked of a file -/
def filOk (S : Store) (d : D) : Prop := knw S d ∧ ∀ ds, d = .tup ds → ds.length ≤ 500 ∧ ∀ x ∈ ds, stpOk S x
theorem is_non {cx : Cxt} {j : Nat} {σ : Env} {S : Store} {d : D} (h : σ[j]? = some (some d)) : (den cx (.nd (.cmp .is) [(.var j), (.cst (.non))])).b σ S = .ok (decide (d = .non)) S := by
  refine b_nd (cmp_2 (var_v h) cst_v (own_is _ _ _ _) ?_)
  show isE (.v d) (.v .non) = _
  unfold isE
  have e : decide ((T.v d) = T.v .non) = decide (d = .non) := by
    rw [Bool.eq_iff_iff, decide_eq_true_eq, decide_eq_true_eq]
    exact ⟨fun h => T.v.inj h, fun h => by rw [h]⟩
  simp only [e]
theorem optT_non (o : Option (List Int)) : decide (optT o = .non) = o.isNone := by
  cases o with
  | none => rfl
  | some xs =>
    rw [decide_eq_false]
    · rfl
    · intro z
      exact nomatch (show D.tup (xs.map D.int) = .non from z)
/-- the rows are ints' tuples: never a reference -/
theorem noRef_optTs (n : Nat) (o : Option (List (List Int))) : noRef n (optTs o) = true := by
  cases o with
  | none => rfl
  | some rows => exact noRef_of n (.tup (rows.map tupI)) (by rw [plD]; exact pl_tups rows)
theorem fileV_ok {bs : List Bool} {cs : List (List Int)} (hb : bs.length ≤ 30) : ∀ (ds : List D) (rows rows' : List (List Int)), (∀ r ∈ rows, clauseI bs.length r = true) → fileV bs cs rows ds = some rows' → (∀ r ∈ rows', clauseI bs.length r = true) ∧ rows'.length = rows.length + ds.length
  | [], rows, rows', hr, h => by cases h; exact ⟨hr, by simp⟩
  | d :: ds, rows, rows', hr, h => by
    unfold fileV at h
    split at h
    · cases h
    · rename_i c hs
      have hc := stepV_clause hb hr hs
      obtain ⟨h1, h2⟩ := fileV_ok hb ds (rows ++ [c]) rows' (fun r h => by
        rcases List.mem_append.mp h with h | h
        · exact hr r h
        · rw [List.mem_singleton.mp h]; exact hc) h
      exact ⟨h1, by rw [h2]; simp; omega⟩
/-! the loops, whatever the step's own run is -/
theorem file_loop {v : Nat} {body : Env → Store → R Fl} (ok : D → Prop) (bs : List Bool) (cs : List (List Int)) (mk : Option D → Option D → Env) (St : List (List Int) → Store) (hv : ∀ a b d, bindT (.var v) d (mk a b) = some (mk (some d) b))
    (turn : ∀ (rows : List (List Int)) (d : D) (b : Option D), ok d → rowsOk bs.length rows → body (mk (some d) b) (St rows) = match stepV bs cs rows d with
      | none => .ok (.rt .non) (St rows)
      | some c => .ok (.nx (mk (some d) (some (tupI c)))) (St (rows ++ [c]))) (hb : bs.length ≤ 30) :
    ∀ (ds : List D) (rows : List (List Int)) (a b : Option D), rows.length + ds.length ≤ 1000 → (∀ r ∈ rows, clauseI bs.length r = true) → (∀ x ∈ ds, ok x) →
      match fileV bs cs rows ds with
      | none => ∃ rows', frL (bindT (.var v)) body (fun _ => true) ds (mk a b) (St rows) = .ok (.rt .non) (St rows')
      | some rows' => ∃ a' b', frL (bindT (.var v)) body (fun _ => true) ds (mk a b) (St rows) = .ok (.nx (mk a' b')) (St rows')
  | [], rows, a, b, hl, hr, _ => ⟨a, b, rfl⟩
  | d :: ds, rows, a, b, hl, hr, hd => by
    rw [List.length_cons] at hl
    have t := turn rows d b (hd d List.mem_cons_self) ⟨by omega, fun r h => ⟨hr r h, by have := clause_len (hr r h); omega⟩⟩
    have fr : frL (bindT (.var v)) body (fun _ => true) (d :: ds) (mk a b) (St rows) = (body (mk (some d) b) (St rows)).bind fun f S1 => match f with
        | .nx σ2 => frL (bindT (.var v)) body (fun _ => true) ds σ2 S1
        | .ct σ2 => frL (bindT (.var v)) body (fun _ => true) ds σ2 S1
        | .bk σ2 => .ok (.nx σ2) S1
        | .rt d => .ok (.rt d) S1
        | .xc σ2 c dd => .ok (.xc σ2 c dd) S1 := by
      rw [frL, if_pos rfl, hv]
      try rfl
    unfold fileV
    cases hs : stepV bs cs rows d with
    | none =>
      rw [hs] at t
      exact ⟨rows, by rw [fr, t]; rfl⟩
    | some c =>
      rw [hs] at t
      have hc := stepV_clause hb hr hs
      have ih := file_loop ok bs cs mk St hv turn hb ds (rows ++ [c]) (some d) (some (tupI c)) (by rw [List.length_append, List.length_singleton]; omega) (fun r h => by
        rcases List.mem_append.mp h with h | h
        · exact hr r h
        · rw [List.mem_singleton.mp h]; exact hc) fun x hx => hd x (List.mem_cons_of_mem _ hx)
      have e : frL (bindT (.var v)) body (fun _ => true) (d :: ds) (mk a b) (St rows) = frL (bindT (.var v)) body (fun _ => true) ds (mk (some d) (some (tupI c))) (St (rows ++ [c])) := by
        rw [fr, t]
        rfl
      dsimp only
      rw [e]
      exact ih
theorem fr_rt {cx : Cxt} {v : Nat} {ik : Ik} {ia : List Ex} {b : List Sx} {σ : Env} {S S1 S' : Store} {ts : List T} {ds : List D} {g : Store → Bool} {d : D} (h : dens cx ia σ S = .ok ts S1) (hi : iterOf S1 ik ts = some (ds, g)) (hf : frL (bindT (.var v)) (exSs cx b) g ds σ S1 = .ok (.rt d) S') :
    exS cx (.fr (.var v) ik ia b) σ S = .ok (.rt d) S' := by
  rw [ex_fr, h, cat_ok', frK_ap, hi, frO_some]
  exact hf
/-! the program's -/
def fileF (iS f0 f1 : Nat) : Fd := ⟨2, 6, [.ite (.not (.nd (.isi (.b "tuple")) [(.var 1)])) [.ret (.cst (.non))] [], .set (.var 3) (.dc (.var 2) .seq [(.nd (.fld f1) [(.var 0)])] [] (.var 2) (.cst (.bl true)) [2]), .set (.var 4) (.na .lst []), .fr (.var 5) .seq [(.var 1)] [.set (.var 2) (.na (.call iS) [(.nd (.fld f0) [(.var 0)]), (.var 3), (.var 4), (.var 5)]), .ite (.nd (.cmp .is) [(.var 2), (.cst (.non))]) [.ret (.cst (.non))] [], .ex (.meth .append (.var 4) [(.var 2)])], .ret (.var 4)]⟩
theorem lst_0 {cx : Cxt} {σ : Env} {S : Store} : (den cx (.na .lst [])).e σ S = .ok (.t (.lst [])) S := lst_1 (ded_nil' ..) (by simp)
theorem fileS {iS f0 f1 c : Nat} (k : Nat) (bs : List Bool) (cs : List (List Int)) (S : Store) (n : Nat) (d : D) (h : tb.fs[i]? = some (fileF iS f0 f1)) (a0 : tb.at_ c f0 = true) (a1 : tb.at_ c f1 = true) (hf : f0 ≠ f1)
    (hS : ∀ (rows : List (List Int)) (x : D) (S : Store) (g L : Nat), S[g]? = some (dkT cs) → S[L]? = some (.lst (rows.map tupI)) → stpOk S x → rowsOk bs.length rows → runK tb (k + 5) iS [.tup (bs.map D.bl), .ref g, .ref L, x] S = .ok (optT (stepV bs cs rows x)) S)
    (hn : S[n]? = some (.ins c [(f0, .tup (bs.map D.bl)), (f1, .tup (cs.map tupI))])) (hb : bs.length ≤ 30) (hc : cs.Nodup) (hcl : cs.length ≤ 1000) (hd : filOk S d) :
    runK tb (k + 6) i [.ref n, d] S = match fileD bs cs d with
      | none => .ok .non S
      | some rows => .ok (.ref (S.length + 1)) (S ++ [dkT cs, .lst (rows.map tupI)]) := by
  rw [run_of h (k + 5) _ _ rfl]
  show finE S (exSs (cxK tb (k + 5)) (fileF iS f0 f1).body [some (.ref n), some d, none, none, none, none] S) = _
  have t1 := b_not (b_nd (show (den (cxK tb (k + 5)) (.nd (.isi (.b "tuple")) [(.var 1)])).e [some (.ref n), some d, none, none, none, none] S = .ok (.v (.bl (isTp d))) S by rw [nd_1 (var_v rfl), isiTup hd.1]))
  by_cases htp : ∃ ds, d = .tup ds
  case neg =>
    have e : isTp d = false := by
      cases d with
      | tup ds => exact absurd ⟨ds, rfl⟩ htp
      | _ => rfl
    have e2 : fileD bs cs d = none := by
      cases d with
      | tup ds => exact absurd ⟨ds, rfl⟩ htp
      | _ => rfl
    rw [e] at t1
    rw [e2]
    unfold fileF
    rw [rt_stm (d := .non) ((ite_yes t1).trans (ret_1 cst_v)), fin_rt, gc_same]
  obtain ⟨ds, rfl⟩ := htp
  have t1 : (den (cxK tb (k + 5)) (.not (.nd (.isi (.b "tuple")) [(.var 1)]))).b [some (.ref n), some (.tup ds), none, none, none, none] S = .ok false S := t1
  obtain ⟨hl, hds⟩ := hd.2 ds rfl
  have lk0 : ([(f0, D.tup (bs.map D.bl)), (f1, D.tup (cs.map tupI))] : List (Nat × D)).lookup f0 = some (.tup (bs.map D.bl)) := by simp [List.lookup]
  have lk1 : ([(f0, D.tup (bs.map D.bl)), (f1, D.tup (cs.map tupI))] : List (Nat × D)).lookup f1 = some (.tup (cs.map tupI)) := by
    have e : (f1 == f0) = false := by simp [Ne.symm hf]
    simp [List.lookup, e]
  have e1 : (den (cxK tb (k + 5)) (.dc (.var 2) .seq [(.nd (.fld f1) [(.var 0)])] [] (.var 2) (.cst (.bl true)) [2])).e [some (.ref n), some (.tup ds), none, none, none, none] S = .ok (.t (dkT cs)) S := by
    have q := dcL_tups (bnd := bindT (.var 2)) (tst := dent (cxK tb (k + 5)) []) (ke := elF (cxK tb (k + 5)) (.var 2)) (ve := elF (cxK tb (k + 5)) (.cst (.bl true))) (gd := fun _ => true) (σ := [some (.ref n), some (.tup ds), none, none, none, none]) (S := S) rfl cs [] (by simp; omega) (by simpa using hc) fun x _ => ⟨[some (.ref n), some (.tup ds), some (tupI x), none, none, none], rfl, rfl, rfl, rfl⟩
    rw [den_dc, dens_1 (fld_v (e := .var 0) (var_v rfl) hn a1 lk1), bind_ok', dcK_ap, iter_tup, dcO_some]
    show (dcL (bindT (.var 2)) (dent (cxK tb (k + 5)) []) (elF (cxK tb (k + 5)) (.var 2)) (elF (cxK tb (k + 5)) (.cst (.bl true))) (fun _ => true) [some (.ref n), some (.tup ds), none, none, none, none] (cs.map tupI) (dkT []) S).nox.bind dcEnd = _
    rw [q]
    rfl
  have f1' := set_v (cx := cxK tb (k + 5)) (j := 3) e1 (by simp)
  unfold fileF
  rw [set_stm (ite_no t1), set_stm f1']
  show finE S (exSs (cxK tb (k + 5)) _ [some (.ref n), some (.tup ds), none, some (.ref S.length), none, none] (S ++ [dkT cs])) = _
  obtain ⟨S1, hS1⟩ : ∃ S1, S1 = S ++ [dkT cs] := ⟨_, rfl⟩
  have hlen : S1.length = S.length + 1 := by rw [hS1]; simp
  have hg : S1[S.length]? = some (dkT cs) := by rw [hS1]; simp
  rw [← hS1]
  have f2' := set_v (cx := cxK tb (k + 5)) (j := 4) (S := S1) (σ := [some (.ref n), some (.tup ds), none, some (.ref S.length), none, none]) lst_0 (by simp)
  rw [set_stm f2']
  show finE S (exSs (cxK tb (k + 5)) _ [some (.ref n), some (.tup ds), none, some (.ref S.length), some (.ref S1.length), none] (S1 ++ [.lst (([] : List (List Int)).map tupI)])) = _
  have L := file_loop (v := 5) (body := exSs (cxK tb (k + 5)) [.set (.var 2) (.na (.call iS) [(.nd (.fld f0) [(.var 0)]), (.var 3), (.var 4), (.var 5)]), .ite (.nd (.cmp .is) [(.var 2), (.cst (.non))]) [.ret (.cst (.non))] [], .ex (.meth .append (.var 4) [(.var 2)])]) (stpOk S) bs cs
    (fun a b => [some (.ref n), some (.tup ds), b, some (.ref S.length), some (.ref S1.length), a]) (fun rows => S1 ++ [.lst (rows.map tupI)]) (fun _ _ _ => rfl) (by
      intro rows x b hx hr
      have hn' : (S1 ++ [O.lst (rows.map tupI)])[n]? = some (.ins c [(f0, .tup (bs.map D.bl)), (f1, .tup (cs.map tupI))]) := app_at (by rw [hS1]; exact app_at hn _) _
      have hx' : stpOk (S1 ++ [O.lst (rows.map tupI)]) x := by
        rw [hS1, List.append_assoc]
        exact hx.app _
      have q := hS rows x (S1 ++ [.lst (rows.map tupI)]) S.length S1.length (app_at hg _) (by simp) hx' hr
      have g1 := set_v (cx := cxK tb (k + 5)) (j := 2) (σ := [some (.ref n), some (.tup ds), b, some (.ref S.length), some (.ref S1.length), some x]) (call_d (f := iS) (ded_c (fld_v (e := .var 0) (var_v rfl) hn' a0 lk0) (ded_c (e := .var 3) (var_v rfl) (ded_c (e := .var 4) (var_v rfl) (ded_1 (e := .var 5) (var_v rfl))))) q) (by simp)
      rw [set_stm g1]
      show exSs (cxK tb (k + 5)) _ [some (.ref n), some (.tup ds), some (optT (stepV bs cs rows x)), some (.ref S.length), some (.ref S1.length), some x] (S1 ++ [.lst (rows.map tupI)]) = _
      have c1 := is_non (cx := cxK tb (k + 5)) (j := 2) (σ := [some (.ref n), some (.tup ds), some (optT (stepV bs cs rows x)), some (.ref S.length), some (.ref S1.length), some x]) (S := S1 ++ [.lst (rows.map tupI)]) rfl
      rw [optT_non] at c1
      cases hs : stepV bs cs rows x with
      | none =>
        rw [hs] at c1
        rw [rt_stm ((ite_yes c1).trans (ret_1 cst_v))]
      | some cl =>
        rw [hs] at c1
        have g2 := app_stm (cx := cxK tb (k + 5)) (j := 4) (q := 2) (σ := [some (.ref n), some (.tup ds), some (optT (some cl)), some (.ref S.length), some (.ref S1.length), some x]) (S := S1) (ds := rows.map tupI) (d := tupI cl) (by rw [List.length_map]; exact hr.1) rfl rfl
        rw [set_stm (ite_no c1), set_stm g2, exs_nil]
        have e : rows.map tupI ++ [tupI cl] = (rows ++ [cl]).map tupI := by rw [List.map_append]; rfl
        rw [e]
        rfl) hb ds [] none none (by simp; omega) (fun r h => absurd h (by simp)) hds
  show _ = match fileV bs cs [] ds with | none => R.ok D.non S | some rows => .ok (.ref (S.length + 1)) (S ++ [dkT cs, .lst (rows.map tupI)])
  cases hv : fileV bs cs [] ds with
  | none =>
    rw [hv] at L
    obtain ⟨rows', L⟩ := L
    rw [rt_stm (fr_rt (dens_1 (var_v (j := 1) rfl)) (iter_tup _ _) L), fin_rt, hS1, List.append_assoc, gc_app, if_pos (show noRef S.length .non = true from rfl)]
  | some rows =>
    rw [hv] at L
    obtain ⟨a', b', L⟩ := L
    rw [set_stm (fr_stm (dens_1 (var_v (j := 1) rfl)) (iter_tup _ _) L), ret_1 (var_v rfl), fin_rt, hlen, hS1, List.append_assoc, gc_app, if_neg (by simp [noRef])]
    rfl
def askedF (c ce : Nat) : Fd := ⟨1, 1, [.ite (.not (.nd (.isi (.c c)) [(.var 0)])) [.rse ce []] []]⟩
theorem askedS {c ce : Nat} (h : tb.fs[i]? = some (askedF c ce)) (hi : tb.ic c = true) (hs : tb.sb c c = true) (k n : Nat) (fs : List (Nat × D)) (S : Store) (hn : S[n]? = some (.ins c fs)) : runK tb (k + 1) i [.ref n] S = .ok .non S := by
  rw [run_of h k _ _ rfl]
  show finE S (exSs (cxK tb k) (askedF c ce).body [some (.ref n)] S) = _
  have t1 : (den (cxK tb k) (.nd (.isi (.c c)) [(.var 0)])).e [some (.ref n)] S = .ok (.v (.bl true)) S := by
    rw [nd_1 (var_v rfl), isiC_ins c hn hi]
    show R.ok (T.v (D.bl (tb.sb c c))) S = _
    rw [hs]
  unfold askedF
  rw [set_stm (ite_no (b_not (b_nd t1))), exs_nil]
  show R.ok D.non (gc S .non S) = _
  rw [gc_same]
def toldFileF (iA iF : Nat) : Fd := ⟨2, 3, [.ex (.na (.call iA) [(.var 0)]), .set (.var 2) (.na (.call iF) [(.var 0), (.var 1)]), .ret (.ite (.nd (.cmp .is) [(.var 2), (.cst (.non))]) (.cst (.non)) (.nd (.bi .tuple) [(.var 2)]))]⟩
theorem ex_stm {cx : Cxt} {e : Ex} {r : List Sx} {σ : Env} {S S1 : Store} {t : T} (h : (den cx e).e σ S = .ok t S1) : exSs cx (.ex e :: r) σ S = exSs cx r σ S1 := by
  rw [exs_cons, ex_ex, h, cat_ok', exK_ap, bind_ok', seqK_nx]
theorem toldFileS {iA iF n : Nat} (h : tb.fs[i]? = some (toldFileF iA iF)) (k : Nat) (cs : List (List Int)) (o : Option (List (List Int))) (S : Store) (d : D) (hA : runK tb k iA [.ref n] S = .ok .non S)
    (hF : runK tb k iF [.ref n, d] S = match o with
      | none => .ok .non S
      | some rows => .ok (.ref (S.length + 1)) (S ++ [dkT cs, .lst (rows.map tupI)])) : runK tb (k + 1) i [.ref n, d] S = .ok (optTs o) S := by
  rw [run_of h k _ _ rfl]
  show finE S (exSs (cxK tb k) (toldFileF iA iF).body [some (.ref n), some d, none] S) = _
  unfold toldFileF
  rw [ex_stm (call_d (cx := cxK tb k) (f := iA) (ded_1 (e := .var 0) (var_v rfl)) hA)]
  cases o with
  | none =>
    have f1 := set_v (cx := cxK tb k) (j := 2) (call_d (f := iF) (ded_c (e := .var 0) (σ := [some (.ref n), some d, none]) (var_v rfl) (ded_1 (e := .var 1) (var_v rfl))) hF) (by simp)
    rw [set_stm f1]
    show finE S (exSs (cxK tb k) _ [some (.ref n), some d, some .non] S) = _
    rw [ret_1 (e_ite true (is_non (d := .non) rfl) cst_v), fin_rt, gc_same]
    rfl
  | some rows =>
    have f1 := set_v (cx := cxK tb k) (j := 2) (call_d (f := iF) (ded_c (e := .var 0) (σ := [some (.ref n), some d, none]) (var_v rfl) (ded_1 (e := .var 1) (var_v rfl))) hF) (by simp)
    rw [set_stm f1]
    show finE S (exSs (cxK tb k) _ [some (.ref n), some d, some (.ref (S.length + 1))] (S ++ [dkT cs, .lst (rows.map tupI)])) = _
    have e5 : biE (S ++ [dkT cs, .lst (rows.map tupI)]) .tuple (.v (.ref (S.length + 1))) = some (.v (optTs (some rows))) := by
      have g : seqR (S ++ [dkT cs, .lst (rows.map tupI)]) (.v (.ref (S.length + 1))) = some (rows.map tupI) := by simp [seqR, lstR, objR, unlk]
      show (seqR _ _).map _ = _
      rw [g]
      rfl
    rw [ret_1 (e_ite false (is_non (d := .ref (S.length + 1)) rfl) (bi_1 (e := .var 2) (var_v rfl) e5)), fin_rt, gc_app, if_pos (noRef_optTs _ _)]
/-! the law's -/
theorem mem_CD (S : Store) (x : List Int) (cs : List (List Int)) : memE S (.v (tupI x)) (.v (.tup (cs.map tupI))) = some (decide (x ∈ cs)) := by
  have hp : plD (.tup (cs.map tupI)) = true := by rw [plD]; exact pl_tups cs
  have hdp : dpD (.tup (cs.map tupI)) ≤ 64 := by
    have := dp_tups cs
    simp only [dpD]
    omega
  have ea : ∀ zs : List D, ((pysOf zs).any fun z => PyData.eqv z (pyOf (tupI x))) = zs.any fun z => eqP z (tupI x) := by
    intro zs
    induction zs with
    | nil => rfl
    | cons z zs ih => rw [pysOf, List.any_cons, List.any_cons, ih]; rfl
  have e2 : toPy S (.v (.tup (cs.map tupI))) = some (.tuple (pysOf (cs.map tupI))) := by
    rw [toPy_pl hp]
    simp [pyOf]
  have sh : SeqAt.shaped (.tuple (pysOf (cs.map tupI))) = true := by
    have := shaped_pl hp hdp
    simpa [pyOf] using this
  show (if flatD (tupI x) = true ∧ (cs.map tupI).all flatD = true then some ((cs.map tupI).any fun z => eqF z (tupI x)) else (match toPy S (.v (tupI x)), toPy S (.v (.tup (cs.map tupI))) with
      | some p, some (.tuple qs) => if SeqAt.shaped p ∧ SeqAt.shaped (.tuple qs) then some (qs.any fun z => PyData.eqv z p) else none
      | _, _ => none)) = _
  rw [if_neg (fun z => nomatch (show flatD (.tup (x.map D.int)) = true from z.1)), toPy_pl (pl_tupI x), e2]
  dsimp only
  rw [if_pos ⟨shaped_pl (pl_tupI x) (by rw [dp_tupI]; omega), sh⟩, ea]
  congr 1
  rw [Bool.eq_iff_iff, List.any_eq_true, decide_eq_true_eq]
  constructor
  · rintro ⟨z, hz, e⟩
    obtain ⟨y, hy, rfl⟩ := List.mem_map.mp hz
    rw [← tupI_inj ((eqP_eq true _ _ (pl_tupI y) (pl_tupI x) (ok_tupI y) (ok_tupI x)).mp e)]
    exact hy
  · exact fun h => ⟨tupI x, List.mem_map.mpr ⟨x, h, rfl⟩, eqP_self (pl_tupI x)⟩
def lawFileF (iE iQ iS : Nat) : Fd := ⟨3, 6, [.ite (.not (.nd (.isi (.b "tuple")) [(.var 2)])) [.ret (.cst (.non))] [], .set (.var 3) (.na .lst []), .fr (.var 4) .seq [(.var 2)] [.set (.var 5) (.cst (.non)), .ite (.and (.nd (.isi (.b "tuple")) [(.var 4)]) (.and (.nd (.cmp .eq) [(.nd (.bi .len) [(.var 4)]), (.cst (.int 2))]) (.na (.call iE) [(.nd .idx [(.var 4), (.cst (.int 0))]), (.cst (.str "given"))]))) [.ite (.and (.na (.call iQ) [(.nd .idx [(.var 4), (.cst (.int 1))]), (.nd (.bi .len) [(.var 0)])]) (.nd (.cmp .mem) [(.nd .idx [(.var 4), (.cst (.int 1))]), (.var 1)])) [.set (.var 5) (.nd .idx [(.var 4), (.cst (.int 1))])] []] [.set (.var 5) (.na (.call iS) [(.var 0), (.cst (.bl false)), (.var 3), (.var 4)])], .ite (.nd (.cmp .is) [(.var 5), (.cst (.non))]) [.ret (.cst (.non))] [], .ex (.meth .append (.var 3) [(.var 5)])], .ret (.var 3)]⟩
theorem lawFileS {iE iQ iW iS : Nat} (h : tb.fs[i]? = some (lawFileF iE iQ iS)) (tE : tb.fs[iE]? = some (sameF iE)) (tW : tb.fs[iW]? = some lawWholeF) (tQ : tb.fs[iQ]? = some (isCubeF iW)) (k : Nat) (bs : List Bool) (cs : List (List Int)) (S : Store) (d : D)
    (hS : ∀ (rows : List (List Int)) (x : D) (S : Store) (L : Nat), S[L]? = some (.lst (rows.map tupI)) → stpOk S x → rowsOk bs.length rows → runK tb (k + 3) iS [.tup (bs.map D.bl), .bl false, .ref L, x] S = .ok (optT (stepW bs rows x)) S)
    (hb : bs.length ≤ 30) (hd : filOk S d) :
    runK tb (k + 4) i [.tup (bs.map D.bl), .tup (cs.map tupI), d] S = match fileD bs cs d with
      | none => .ok .non S
      | some rows => .ok (.ref S.length) (S ++ [.lst (rows.map tupI)]) := by
  rw [run_of h (k + 3) _ _ rfl]
  show finE S (exSs (cxK tb (k + 3)) (lawFileF iE iQ iS).body [some (.tup (bs.map D.bl)), some (.tup (cs.map tupI)), some d, none, none, none] S) = _
  have t1 := b_not (b_nd (show (den (cxK tb (k + 3)) (.nd (.isi (.b "tuple")) [(.var 2)])).e [some (.tup (bs.map D.bl)), some (.tup (cs.map tupI)), some d, none, none, none] S = .ok (.v (.bl (isTp d))) S by rw [nd_1 (var_v rfl), isiTup hd.1]))
  by_cases htp : ∃ ds, d = .tup ds
  case neg =>
    have e : isTp d = false := by
      cases d with
      | tup ds => exact absurd ⟨ds, rfl⟩ htp
      | _ => rfl
    have e2 : fileD bs cs d = none := by
      cases d with
      | tup ds => exact absurd ⟨ds, rfl⟩ htp
      | _ => rfl
    rw [e] at t1
    rw [e2]
    unfold lawFileF
    rw [rt_stm (d := .non) ((ite_yes t1).trans (ret_1 cst_v)), fin_rt, gc_same]
  obtain ⟨ds, rfl⟩ := htp
  have t1 : (den (cxK tb (k + 3)) (.not (.nd (.isi (.b "tuple")) [(.var 2)]))).b [some (.tup (bs.map D.bl)), some (.tup (cs.map tupI)), some (.tup ds), none, none, none] S = .ok false S := t1
  obtain ⟨hl, hds⟩ := hd.2 ds rfl
  unfold lawFileF
  have f2' := set_v (cx := cxK tb (k + 3)) (j := 3) (S := S) (σ := [some (.tup (bs.map D.bl)), some (.tup (cs.map tupI)), some (.tup ds), none, none, none]) lst_0 (by simp)
  rw [set_stm (ite_no t1), set_stm f2']
  show finE S (exSs (cxK tb (k + 3)) _ [some (.tup (bs.map D.bl)), some (.tup (cs.map tupI)), some (.tup ds), some (.ref S.length), none, none] (S ++ [.lst (([] : List (List Int)).map tupI)])) = _
  have L := file_loop (v := 4) (body := exSs (cxK tb (k + 3)) [.set (.var 5) (.cst (.non)), .ite (.and (.nd (.isi (.b "tuple")) [(.var 4)]) (.and (.nd (.cmp .eq) [(.nd (.bi .len) [(.var 4)]), (.cst (.int 2))]) (.na (.call iE) [(.nd .idx [(.var 4), (.cst (.int 0))]), (.cst (.str "given"))]))) [.ite (.and (.na (.call iQ) [(.nd .idx [(.var 4), (.cst (.int 1))]), (.nd (.bi .len) [(.var 0)])]) (.nd (.cmp .mem) [(.nd .idx [(.var 4), (.cst (.int 1))]), (.var 1)])) [.set (.var 5) (.nd .idx [(.var 4), (.cst (.int 1))])] []] [.set (.var 5) (.na (.call iS) [(.var 0), (.cst (.bl false)), (.var 3), (.var 4)])], .ite (.nd (.cmp .is) [(.var 5), (.cst (.non))]) [.ret (.cst (.non))] [], .ex (.meth .append (.var 3) [(.var 5)])]) (stpOk S) bs cs
    (fun a b => [some (.tup (bs.map D.bl)), some (.tup (cs.map tupI)), some (.tup ds), some (.ref S.length), a, b]) (fun rows => S ++ [.lst (rows.map tupI)]) (fun _ _ _ => rfl) (by
      intro rows x b hx0 hr
      have hx := hx0.app [O.lst (rows.map tupI)]
      clear hx0
      obtain ⟨S1, hS1⟩ : ∃ S1, S1 = S ++ [O.lst (rows.map tupI)] := ⟨_, rfl⟩
      have hL : S1[S.length]? = some (.lst (rows.map tupI)) := by rw [hS1]; simp
      rw [← hS1] at hx
      show exSs (cxK tb (k + 3)) _ [some (.tup (bs.map D.bl)), some (.tup (cs.map tupI)), some (.tup ds), some (.ref S.length), some x, b] (S ++ [.lst (rows.map tupI)]) = _
      rw [← hS1]
      have g0 := set_v (cx := cxK tb (k + 3)) (j := 5) (S := S1) (e := .cst .non) (σ := [some (.tup (bs.map D.bl)), some (.tup (cs.map tupI)), some (.tup ds), some (.ref S.length), some x, b]) cst_v (by simp)
      rw [set_stm g0]
      show exSs (cxK tb (k + 3)) _ [some (.tup (bs.map D.bl)), some (.tup (cs.map tupI)), some (.tup ds), some (.ref S.length), some x, some .non] S1 = _
      -- the clause is found
      have main : exS (cxK tb (k + 3)) (.ite (.and (.nd (.isi (.b "tuple")) [(.var 4)]) (.and (.nd (.cmp .eq) [(.nd (.bi .len) [(.var 4)]), (.cst (.int 2))]) (.na (.call iE) [(.nd .idx [(.var 4), (.cst (.int 0))]), (.cst (.str "given"))]))) [.ite (.and (.na (.call iQ) [(.nd .idx [(.var 4), (.cst (.int 1))]), (.nd (.bi .len) [(.var 0)])]) (.nd (.cmp .mem) [(.nd .idx [(.var 4), (.cst (.int 1))]), (.var 1)])) [.set (.var 5) (.nd .idx [(.var 4), (.cst (.int 1))])] []] [.set (.var 5) (.na (.call iS) [(.var 0), (.cst (.bl false)), (.var 3), (.var 4)])]) [some (.tup (bs.map D.bl)), some (.tup (cs.map tupI)), some (.tup ds), some (.ref S.length), some x, some .non] S1 =
          .ok (.nx [some (.tup (bs.map D.bl)), some (.tup (cs.map tupI)), some (.tup ds), some (.ref S.length), some x, some (optT (stepV bs cs rows x))]) S1 := by
        have u1 := b_nd (show (den (cxK tb (k + 3)) (.nd (.isi (.b "tuple")) [(.var 4)])).e [some (.tup (bs.map D.bl)), some (.tup (cs.map tupI)), some (.tup ds), some (.ref S.length), some x, some .non] S1 = .ok (.v (.bl (isTp x))) S1 by rw [nd_1 (var_v rfl), isiTup hx.kn.1])
        have no : toldB "given" 2 x = false → (den (cxK tb (k + 3)) (.and (.nd (.isi (.b "tuple")) [(.var 4)]) (.and (.nd (.cmp .eq) [(.nd (.bi .len) [(.var 4)]), (.cst (.int 2))]) (.na (.call iE) [(.nd .idx [(.var 4), (.cst (.int 0))]), (.cst (.str "given"))])))).b [some (.tup (bs.map D.bl)), some (.tup (cs.map tupI)), some (.tup ds), some (.ref S.length), some x, some .non] S1 = .ok false S1 →
            exS (cxK tb (k + 3)) (.ite (.and (.nd (.isi (.b "tuple")) [(.var 4)]) (.and (.nd (.cmp .eq) [(.nd (.bi .len) [(.var 4)]), (.cst (.int 2))]) (.na (.call iE) [(.nd .idx [(.var 4), (.cst (.int 0))]), (.cst (.str "given"))]))) [.ite (.and (.na (.call iQ) [(.nd .idx [(.var 4), (.cst (.int 1))]), (.nd (.bi .len) [(.var 0)])]) (.nd (.cmp .mem) [(.nd .idx [(.var 4), (.cst (.int 1))]), (.var 1)])) [.set (.var 5) (.nd .idx [(.var 4), (.cst (.int 1))])] []] [.set (.var 5) (.na (.call iS) [(.var 0), (.cst (.bl false)), (.var 3), (.var 4)])]) [some (.tup (bs.map D.bl)), some (.tup (cs.map tupI)), some (.tup ds), some (.ref S.length), some x, some .non] S1 =
              .ok (.nx [some (.tup (bs.map D.bl)), some (.tup (cs.map tupI)), some (.tup ds), some (.ref S.length), some x, some (optT (stepV bs cs rows x))]) S1 := by
          intro hg hc
          rw [ite_else hc, stepV_W hg]
          have q := hS rows x S1 S.length hL hx hr
          have g1 := set_v (cx := cxK tb (k + 3)) (j := 5) (call_d (f := iS) (ded_c (e := .var 0) (σ := [some (.tup (bs.map D.bl)), some (.tup (cs.map tupI)), some (.tup ds), some (.ref S.length), some x, some .non]) (var_v rfl) (ded_c (e := .cst (.bl false)) cst_v (ded_c (e := .var 3) (var_v rfl) (ded_1 (e := .var 4) (var_v rfl))))) q) (by simp)
          rw [set_stm g1, exs_nil]
          rfl
        by_cases hxt : ∃ ys, x = .tup ys
        case neg =>
          have e : isTp x = false := by
            cases x with
            | tup ys => exact absurd ⟨ys, rfl⟩ hxt
            | _ => rfl
          rw [e] at u1
          exact no (told_no fun r e => hxt ⟨_, e⟩) (b_and0 u1)
        obtain ⟨ys, rfl⟩ := hxt
        have u1 : (den (cxK tb (k + 3)) (.nd (.isi (.b "tuple")) [(.var 4)])).b [some (.tup (bs.map D.bl)), some (.tup (cs.map tupI)), some (.tup ds), some (.ref S.length), some (.tup ys), some .non] S1 = .ok true S1 := u1
        have u2 : (den (cxK tb (k + 3)) (.nd (.cmp .eq) [(.nd (.bi .len) [(.var 4)]), (.cst (.int 2))])).b [some (.tup (bs.map D.bl)), some (.tup (cs.map tupI)), some (.tup ds), some (.ref S.length), some (.tup ys), some .non] S1 = .ok (decide (ys.length = 2)) S1 := by
          refine b_nd (cmp_ii (y := 2) (cmEq ?_) (bi_1 (var_v rfl) (len_tup S1 ys)) cst_v)
          rw [eqE_int]
          congr 1
          rw [Bool.eq_iff_iff, decide_eq_true_eq, decide_eq_true_eq]
          omega
        by_cases hyl : ys.length = 2
        case neg =>
          rw [decide_eq_false hyl] at u2
          refine no ?_ (b_and u1 (b_and0 u2))
          unfold toldB
          split
          · rename_i z r e
            cases e
            rw [decide_eq_false (show ¬ r.length + 1 = 2 from hyl), Bool.false_and]
          · rfl
        obtain ⟨y0, y1, rfl⟩ : ∃ y0 y1, ys = [y0, y1] := by
          match ys, hyl with
          | [a, b], _ => exact ⟨a, b, rfl⟩
        have k0 := (hx.kn.2 _ rfl).2 y0 (by simp)
        have k1 := (hx.kn.2 _ rfl).2 y1 (by simp)
        have j0 : (den (cxK tb (k + 3)) (.nd .idx [(.var 4), (.cst (.int 0))])).e [some (.tup (bs.map D.bl)), some (.tup (cs.map tupI)), some (.tup ds), some (.ref S.length), some (.tup [y0, y1]), some .non] S1 = .ok (.v y0) S1 := idx_2 (var_v rfl) cst_v (atN (ds := [y0, y1]) (j := 0) (by simp))
        have j1 : (den (cxK tb (k + 3)) (.nd .idx [(.var 4), (.cst (.int 1))])).e [some (.tup (bs.map D.bl)), some (.tup (cs.map tupI)), some (.tup ds), some (.ref S.length), some (.tup [y0, y1]), some .non] S1 = .ok (.v y1) S1 := idx_2 (var_v rfl) cst_v (atN (ds := [y0, y1]) (j := 1) (by simp))
        have u3 := b_na (call_d (cx := cxK tb (k + 3)) (f := iE) (ded_c j0 (ded_1 (e := .cst (.str "given")) cst_v)) (sameStrS tE (k + 2) y0 "given" S1 k0.1 (fun z e => hx.st _ z rfl (by rw [← e]; simp)) (strOk_of "given")))
        have cg := b_and u1 (b_and u2 u3)
        by_cases hy0 : y0 = .str "given"
        case neg =>
          rw [decide_eq_false hy0] at cg
          refine no ?_ cg
          refine told_no fun r e => hy0 ?_
          have := D.tup.inj e
          exact (List.cons.inj this).1
        subst hy0
        rw [decide_eq_true rfl] at cg
        have htold : toldB "given" 2 (.tup [.str "given", y1]) = true := rfl
        rw [ite_yes cg, stepV_G htold]
        show _ = R.ok (Fl.nx [some (.tup (bs.map D.bl)), some (.tup (cs.map tupI)), some (.tup ds), some (.ref S.length), some (.tup [.str "given", y1]), some (optT (givV bs cs y1))]) S1
        have lenS : (den (cxK tb (k + 3)) (.nd (.bi .len) [(.var 0)])).e [some (.tup (bs.map D.bl)), some (.tup (cs.map tupI)), some (.tup ds), some (.ref S.length), some (.tup [.str "given", y1]), some .non] S1 = .ok (.v (.int bs.length)) S1 := bi_1 (var_v rfl) (by rw [len_tup, List.length_map])
        have v1 := b_na (call_d (cx := cxK tb (k + 3)) (f := iQ) (ded_c j1 (ded_1 lenS)) (isCubeS tW tQ (k + 1) y1 bs.length S1 k1))
        unfold givV
        cases hc : clauseB bs.length y1 with
        | false =>
          rw [hc] at v1
          rw [set_stm (ite_no (b_and0 v1)), exs_nil]
          rfl
        | true =>
          rw [hc] at v1
          obtain ⟨xs, rfl, _⟩ := clauseB_of hc
          have v2 := b_nd (cmp_2 (cx := cxK tb (k + 3)) (o := .mem) j1 (var_v (j := 1) rfl) (own_mem _ _ _ _) (show cmpE S1 .mem _ _ = _ from mem_CD S1 xs cs))
          rw [tIn_tupI, Bool.true_and]
          cases hq : decide (xs ∈ cs) with
          | true =>
            rw [hq] at v2
            have f3 := (ite_yes (b := []) (b_and v1 v2)).trans (set_stm (r := []) (set_v (cx := cxK tb (k + 3)) (j := 5) j1 (by simp)))
            rw [exs_nil] at f3
            rw [set_stm f3, exs_nil]
            rfl
          | false =>
            rw [hq] at v2
            rw [set_stm (ite_no (b_and v1 v2)), exs_nil]
            rfl
      rw [set_stm main]
      have c1 := is_non (cx := cxK tb (k + 3)) (j := 5) (σ := [some (.tup (bs.map D.bl)), some (.tup (cs.map tupI)), some (.tup ds), some (.ref S.length), some x, some (optT (stepV bs cs rows x))]) (S := S1) rfl
      rw [optT_non] at c1
      cases hs : stepV bs cs rows x with
      | none =>
        rw [hs] at c1
        rw [rt_stm ((ite_yes c1).trans (ret_1 cst_v)), hS1]
      | some cl =>
        rw [hs] at c1
        have g2 := app_stm (cx := cxK tb (k + 3)) (j := 3) (q := 5) (σ := [some (.tup (bs.map D.bl)), some (.tup (cs.map tupI)), some (.tup ds), some (.ref S.length), some x, some (optT (some cl))]) (S := S) (ds := rows.map tupI) (d := tupI cl) (by rw [List.length_map]; exact hr.1) rfl rfl
        rw [set_stm (ite_no c1), hS1, set_stm g2, exs_nil]
        have e : rows.map tupI ++ [tupI cl] = (rows ++ [cl]).map tupI := by rw [List.map_append]; rfl
        rw [e]
        rfl) hb ds [] none none (by simp; omega) (fun r h => absurd h (by simp)) hds
  show _ = match fileV bs cs [] ds with | none => R.ok D.non S | some rows => R.ok (D.ref S.length) (S ++ [O.lst (rows.map tupI)])
  cases hv : fileV bs cs [] ds with
  | none =>
    rw [hv] at L
    obtain ⟨rows', L⟩ := L
    rw [rt_stm (fr_rt (dens_1 (var_v (j := 2) rfl)) (iter_tup _ _) L), fin_rt, gc_app, if_pos (show noRef S.length .non = true from rfl)]
  | some rows =>
    rw [hv] at L
    obtain ⟨a', b', L⟩ := L
    rw [set_stm (fr_stm (dens_1 (var_v (j := 2) rfl)) (iter_tup _ _) L), ret_1 (var_v rfl), fin_rt, gc_app, if_neg (by simp [noRef])]
end
end Ev
set_option Elab.async false
set_option linter.all false
set_option maxRecDepth 100000
set_option autoImplicit false
set_option maxHeartbeats 8000000
/-! Sp, part Q: files drawn step by step. -/
namespace Ev
open PySem
section
variable {tb : Tb} {i i1 i2 i3 i4 i5 : Nat}
theorem stp_sm {S : Store} {d : D} (h : smD d = true) : stpOk S d := ⟨knTT_sm h, fun ds x e hx => by
  subst e
  rw [smD, Bool.and_eq_true] at h
  have := smDs_mem h.2 _ hx
  simpa [smD] using this⟩
theorem app_big (S : Store) (ds : List D) (d : D) (h : ds.length ≤ 1000000) : meE (S ++ [.lst ds]) .append (.v (.ref S.length)) [d] = .ok (.v .non) (S ++ [.lst (ds ++ [d])]) := by
  have hs : ds.length < PySem.sizeLine := by rw [size_line]; omega
  simp [meE, hs]
theorem app_ex {cx : Cxt} {j : Nat} {e : Ex} {σ : Env} {S : Store} {ds : List D} {d : D} (h : ds.length ≤ 1000000) (h1 : σ[j]? = some (some (.ref S.length))) (h2 : (den cx e).e σ (S ++ [.lst ds]) = .ok (.v d) (S ++ [.lst ds])) :
    exS cx (.ex (.meth .append (.var j) [e])) σ (S ++ [.lst ds]) = .ok (.nx σ) (S ++ [.lst (ds ++ [d])]) := by
  have e2 : meOk (S ++ [.lst ds]) .append (.v (.ref S.length)) = true := by simp [meOk, lstW, objW]
  rw [ex_ex, den_meth, var_v h1, bind_ok', met1_ap, if_pos e2, ded_1 h2, bind_ok', met2_ap, alloc_v, app_big S ds d h, cat_ok', exK_ap]
/-- append, wherever the list stands -/
theorem app_at_ {cx : Cxt} {j n : Nat} {e : Ex} {σ : Env} {S : Store} {ds : List D} {d : D} (hn : S[n]? = some (.lst ds)) (h : ds.length ≤ 1000000) (h1 : σ[j]? = some (some (.ref n))) (h2 : (den cx e).e σ S = .ok (.v d) S) :
    exS cx (.ex (.meth .append (.var j) [e])) σ S = .ok (.nx σ) (S.set n (.lst (ds ++ [d]))) := by
  have e2 : meOk S .append (.v (.ref n)) = true := by simp [meOk, lstW, objW, hn]
  have hs : ds.length < PySem.sizeLine := by rw [size_line]; omega
  have e3 : meE S .append (.v (.ref n)) [d] = .ok (.v .non) (S.set n (.lst (ds ++ [d]))) := by simp [meE, hn, hs]
  rw [ex_ex, den_meth, var_v h1, bind_ok', met1_ap, if_pos e2, ded_1 h2, bind_ok', met2_ap, alloc_v, e3, cat_ok', exK_ap]
/-- a loop that lets a list at the store's end grow -/
theorem frL_grow {v : Nat} {body : Env → Store → R Fl} (S : Store) (Gd : D → Prop) (E : Env → Prop) (q N : Nat) : ∀ (ds : List D)
    (_ : ∀ d ∈ ds, ∀ (σ : Env) (pairs : List D), E σ → (∀ p ∈ pairs, Gd p) → pairs.length + q ≤ N → v < σ.length ∧ ∃ σ2 more, E σ2 ∧ (∀ p ∈ more, Gd p) ∧ more.length ≤ q ∧ body (σ.set v (some d)) (S ++ [.lst pairs]) = .ok (.nx σ2) (S ++ [.lst (pairs ++ more)]))
    (σ : Env) (pairs : List D), E σ → (∀ p ∈ pairs, Gd p) → pairs.length + ds.length * q ≤ N → ∃ σ' more, E σ' ∧ (∀ p ∈ more, Gd p) ∧ more.length ≤ ds.length * q ∧ frL (bindT (.var v)) body (fun _ => true) ds σ (S ++ [.lst pairs]) = .ok (.nx σ') (S ++ [.lst (pairs ++ more)])
  | [], _, σ, pairs, hE, hp, hl => ⟨σ, [], hE, fun p h => absurd h (by simp), by simp, by rw [List.append_nil]; rfl⟩
  | d :: ds, turn, σ, pairs, hE, hp, hl => by
    rw [List.length_cons, Nat.add_mul, Nat.one_mul] at hl
    obtain ⟨hv, σ2, more, h1, h2, h3, h4⟩ := turn d List.mem_cons_self σ pairs hE hp (by omega)
    obtain ⟨σ', more', k1, k2, k3, k4⟩ := frL_grow S Gd E q N ds (fun d hd => turn d (List.mem_cons_of_mem _ hd)) σ2 (pairs ++ more) h1 (fun p h => by
      rcases List.mem_append.mp h with h | h
      · exact hp p h
      · exact h2 p h) (by rw [List.length_append]; omega)
    refine ⟨σ', more ++ more', k1, fun p h => ?_, ?_, ?_⟩
    · rcases List.mem_append.mp h with h | h
      · exact h2 p h
      · exact k2 p h
    · rw [List.length_append, List.length_cons, Nat.add_mul, Nat.one_mul]; omega
    · have e : bindT (.var v) d σ = some (σ.set v (some d)) := by
        show (if v < σ.length then some (σ.set v (some d)) else none) = _
        rw [if_pos hv]
      rw [frL, if_pos rfl, e]
      show (body (σ.set v (some d)) (S ++ [.lst pairs])).bind _ = _
      rw [h4, bind_ok']
      show frL (bindT (.var v)) body (fun _ => true) ds σ2 (S ++ [.lst (pairs ++ more)]) = _
      rw [k4, List.append_assoc]
/-- a good step -/
def gdS (d : D) : Prop := smD d = true ∧ dpD d ≤ 2
theorem gd_join (x y z : Nat) : gdS (.tup [.str "join", .int x, .int y, .int z]) := by
  have h : PyData.strOk "join" = true := strOk_of "join"
  exact ⟨by simp [smD, smDs, h], by simp [dpD, dpDs]⟩
theorem gd_drop (x : Nat) : gdS (.tup [.str "drop", .int x]) := by
  have h : PyData.strOk "drop" = true := strOk_of "drop"
  exact ⟨by simp [smD, smDs, h], by simp [dpD, dpDs]⟩
theorem gd_given (c : List Int) (hc : c.length ≤ 1000000) : gdS (.tup [.str "given", tupI c]) := by
  have h : PyData.strOk "given" = true := strOk_of "given"
  have h2 : smD (tupI c) = true := by rw [tupI, smD, sm_ints, List.length_map, decide_eq_true hc]; rfl
  have h3 := dp_tupI c
  refine ⟨by simp [smD, smDs, h, h2], ?_⟩
  simp only [dpD, dpDs]
  omega
theorem gt0 {cx : Cxt} {e : Ex} {σ : Env} {S : Store} {n : Nat} (h : (den cx e).e σ S = .ok (.v (.int n)) S) : (den cx (.nd (.cmp .gt) [e, (.cst (.int 0))])).b σ S = .ok (decide (0 < n)) S := by
  refine b_nd (cmp_ii ?_ h cst_v)
  show some (decide ((0 : Int) < (n : Int))) = _
  congr 1
  rw [Bool.eq_iff_iff, decide_eq_true_eq, decide_eq_true_eq]
  omega
theorem gtI {cx : Cxt} {e : Ex} {σ : Env} {S : Store} {z : Int} (h : (den cx e).e σ S = .ok (.v (.int z)) S) : (den cx (.nd (.cmp .gt) [e, (.cst (.int 0))])).b σ S = .ok (decide (0 < z)) S := b_nd (cmp_ii rfl h cst_v)
/-- one of a list, by a number -/
theorem pick {cx : Cxt} {e en el : Ex} {σ : Env} {S : Store} {t : T} {z : Int} {ds : List D} (he : (den cx e).e σ S = .ok t S) (hz : (den cx en).e σ S = .ok (.v (.int z)) S) (hl : (den cx el).e σ S = .ok (.v (.int ds.length)) S) (h0 : 0 < ds.length) (hi : ∀ (j : Nat) (h : j < ds.length), idxE S t (.v (.int j)) = some ds[j]) :
    ∃ d ∈ ds, (den cx (.nd .idx [e, (.nd (.op .mod) [en, el])])).e σ S = .ok (.v d) S := by
  obtain ⟨m, hm⟩ : ∃ m : Nat, z % (ds.length : Int) = m := ⟨(z % (ds.length : Int)).toNat, by have := Int.emod_nonneg z (show (ds.length : Int) ≠ 0 by omega); omega⟩
  have hlt : m < ds.length := by
    have := Int.emod_lt_of_pos z (show 0 < (ds.length : Int) by omega)
    omega
  have hq : (den cx (.nd (.op .mod) [en, el])).e σ S = .ok (.v (.int m)) S := op_2 hz hl (by rw [opE_int, opI_mod (by omega), hm]; rfl)
  exact ⟨ds[m], List.getElem_mem hlt, idx_2 he hq (hi m hlt)⟩
def pairLp (iJ : Nat) : List Sx := [.ite (.and (.nd .idx [(.var 1), (.var 12)]) (.nd (.cmp .nis) [(.na (.call iJ) [(.nd .idx [(.var 5), (.var 10)]), (.nd .idx [(.var 5), (.var 11)]), (.var 12)]), (.cst (.non))])) [.ex (.meth .append (.var 9) [(.na .tup [(.cst (.str "join")), (.var 10), (.var 11), (.var 12)])])] []]
def pairL (iJ : Nat) : Sx := .fr (.var 10) .rng [(.nd (.bi .len) [(.var 5)])] [.fr (.var 11) .rng [(.nd (.bi .len) [(.var 5)])] [.fr (.var 12) .rng [(.nd (.bi .len) [(.var 1)])] (pairLp iJ)]]
def dropE (iD : Nat) : Ex := .lc (.var 10) .rng [(.nd (.bi .len) [(.var 5)])] [(.nd (.cmp .ne) [(.na (.call iD) [(.var 1), (.cst (.bl false)), (.nd .idx [(.var 5), (.var 10)])]), (.nd .idx [(.var 5), (.var 10)])])] (.na .tup [(.cst (.str "drop")), (.var 10)]) [10]
def choose : Sx := .ite (.and (.nd (.cmp .eq) [(.nd .idx [(.var 7), (.cst (.int 0))]), (.cst (.int 1))]) (.nd (.cmp .gt) [(.nd (.bi .len) [(.var 13)]), (.cst (.int 0))])) [.set (.var 8) (.nd .idx [(.var 13), (.nd (.op .mod) [(.nd .idx [(.var 7), (.cst (.int 1))]), (.nd (.bi .len) [(.var 13)])])])] [.ite (.nd (.cmp .gt) [(.nd (.bi .len) [(.var 9)]), (.cst (.int 0))]) [.set (.var 8) (.nd .idx [(.var 9), (.nd (.op .mod) [(.nd (.op .add) [(.nd (.op .mul) [(.cst (.int 20)), (.nd .idx [(.var 7), (.cst (.int 1))])]), (.nd .idx [(.var 7), (.cst (.int 2))])]), (.nd (.bi .len) [(.var 9)])])])] []]
def stepB (iJ iD iF : Nat) : List Sx := [.set (.var 7) (.sl (.var 3) (.nd (.op .add) [(.cst (.int 1)), (.nd (.op .mul) [(.cst (.int 4)), (.var 6)])]) (.nd (.op .add) [(.cst (.int 5)), (.nd (.op .mul) [(.cst (.int 4)), (.var 6)])])), .set (.var 8) (.na .tup [(.cst (.str "given")), (.na .tup [])]), .ite (.nd (.cmp .gt) [(.nd (.bi .len) [(.var 2)]), (.cst (.int 0))]) [.set (.var 8) (.na .tup [(.cst (.str "given")), (.nd .idx [(.var 2), (.nd (.op .mod) [(.nd .idx [(.var 7), (.cst (.int 1))]), (.nd (.bi .len) [(.var 2)])])])])] [], .ite (.and (.nd (.cmp .gt) [(.nd .idx [(.var 7), (.cst (.int 0))]), (.cst (.int 0))]) (.nd (.cmp .gt) [(.nd (.bi .len) [(.var 5)]), (.cst (.int 0))])) [.set (.var 9) (.na .lst []), pairL iJ, .set (.var 13) (dropE iD), choose] [], .set (.var 14) (.na (.call iF) [(.var 1), (.var 2), (.nd (.op .add) [(.nd (.bi .tuple) [(.var 4)]), (.na .tup [(.var 8)])])]), .ite (.nd (.cmp .nis) [(.var 14), (.cst (.non))]) [.ex (.meth .append (.var 4) [(.var 8)]), .set (.var 5) (.var 14)] []]
def stepsF (iR iJ iD iF : Nat) : Fd := ⟨3, 15, [.set (.var 3) (.na (.call iR) [(.var 0), (.nd (.op .add) [(.na .lst [(.cst (.int 13))]), (.nd (.op .mul) [(.na .lst [(.cst (.int 4)), (.cst (.int 20)), (.cst (.int 20)), (.cst (.int 10))]), (.cst (.int 12))])])]), .set (.var 4) (.na .lst []), .set (.var 5) (.na .lst []), .fr (.var 6) .rng [(.nd .idx [(.var 3), (.cst (.int 0))])] (stepB iJ iD iF), .ret (.nd (.bi .tuple) [(.var 4)])]⟩
section
variable {cx : Cxt} {bs : List Bool} {rows : List (List Int)} {S : Store} {Q : Nat}
/-- all pairs that can be joined -/
theorem pairS {iJ : Nat} (hJ : ∀ (xs ys : List Int) (f : Int) (S : Store), xs.length + ys.length ≤ 60 → cx.call iJ [tupI xs, tupI ys, .int f] S = .ok (optT (lawJ xs ys f)) S) (hr : rowsOk bs.length rows) (hb : bs.length ≤ 30) (hl : rows.length ≤ 30) (hQ : S[Q]? = some (.lst (rows.map tupI))) (x0 x2 x3 x4 x6 x7 x8 x10 x11 x12 x13 x14 : Option D) :
    ∃ (y10 y11 y12 : Option D) (pairs : List D), (∀ p ∈ pairs, gdS p) ∧ pairs.length ≤ 100000 ∧ exS cx (pairL iJ) [x0, some (.tup (bs.map D.bl)), x2, x3, x4, some (.ref Q), x6, x7, x8, some (.ref S.length), x10, x11, x12, x13, x14] (S ++ [.lst []]) =
      .ok (.nx [x0, some (.tup (bs.map D.bl)), x2, x3, x4, some (.ref Q), x6, x7, x8, some (.ref S.length), y10, y11, y12, x13, x14]) (S ++ [.lst pairs]) := by
  have hQ' : ∀ pairs : List D, (S ++ [O.lst pairs])[Q]? = some (.lst (rows.map tupI)) := fun pairs => app_at hQ _
  have lenQ : ∀ (pairs : List D) (σ : Env), σ[5]? = some (some (.ref Q)) → dens cx [(.nd (.bi .len) [(.var 5)])] σ (S ++ [.lst pairs]) = .ok [.v (.int rows.length)] (S ++ [.lst pairs]) := fun pairs σ h => dens_1 (bi_1 (var_v h) (by rw [len_ref (hQ' pairs), List.length_map]))
  have lenB : ∀ (pairs : List D) (σ : Env), σ[1]? = some (some (.tup (bs.map D.bl))) → dens cx [(.nd (.bi .len) [(.var 1)])] σ (S ++ [.lst pairs]) = .ok [.v (.int bs.length)] (S ++ [.lst pairs]) := fun pairs σ h => dens_1 (bi_1 (var_v h) (by rw [len_tup, List.length_map]))
  -- the innermost turn
  have turn3 : ∀ (a b f : Nat), a < rows.length → b < rows.length → f < bs.length → ∀ (pairs : List D), pairs.length ≤ 100000 → ∃ more : List D, (∀ p ∈ more, gdS p) ∧ more.length ≤ 1 ∧
      exSs cx (pairLp iJ) [x0, some (.tup (bs.map D.bl)), x2, x3, x4, some (.ref Q), x6, x7, x8, some (.ref S.length), some (.int a), some (.int b), some (.int f), x13, x14] (S ++ [.lst pairs]) = .ok (.nx [x0, some (.tup (bs.map D.bl)), x2, x3, x4, some (.ref Q), x6, x7, x8, some (.ref S.length), some (.int a), some (.int b), some (.int f), x13, x14]) (S ++ [.lst (pairs ++ more)]) := by
    intro a b f ha hb' hf pairs hp
    have c1 : (den cx (.nd .idx [(.var 1), (.var 12)])).b [x0, some (.tup (bs.map D.bl)), x2, x3, x4, some (.ref Q), x6, x7, x8, some (.ref S.length), some (.int a), some (.int b), some (.int f), x13, x14] (S ++ [.lst pairs]) = .ok (bs.getD f false) (S ++ [.lst pairs]) := by
      refine b_nd (idx_2 (var_v rfl) (var_v rfl) ?_)
      rw [atN (ds := bs.map D.bl) (by rw [List.length_map]; exact hf), List.getElem_map, List.getD_eq_getElem?_getD, List.getElem?_eq_getElem hf]
      rfl
    have r1 := hr.2 _ (List.getElem_mem ha)
    have r2 := hr.2 _ (List.getElem_mem hb')
    have q := hJ (rowD rows (.int a)) (rowD rows (.int b)) (f : Int) (S ++ [.lst pairs]) (by rw [rowD_at ha, rowD_at hb']; omega)
    have c2 := call_d (cx := cx) (f := iJ) (σ := [x0, some (.tup (bs.map D.bl)), x2, x3, x4, some (.ref Q), x6, x7, x8, some (.ref S.length), some (.int a), some (.int b), some (.int f), x13, x14]) (es := [(.nd .idx [(.var 5), (.var 10)]), (.nd .idx [(.var 5), (.var 11)]), (.var 12)]) (ded_c (idx_2 (var_v rfl) (var_v rfl) (row_idx (hQ' pairs) ha)) (ded_c (idx_2 (var_v rfl) (var_v rfl) (row_idx (hQ' pairs) hb')) (ded_1 (var_v rfl)))) q
    have c3 := b_nd (cmp_2 (cx := cx) (o := .nis) c2 (cst_v (d := .non)) (own_nis _ _ _ _) (c := (lawJ (rowD rows (.int a)) (rowD rows (.int b)) (f : Int)).isSome) (by
      have e := optT_non (lawJ (rowD rows (.int a)) (rowD rows (.int b)) (f : Int))
      show (isE (.v _) (.v .non)).map (!·) = _
      have e2 : isE (.v (optT (lawJ (rowD rows (.int a)) (rowD rows (.int b)) (f : Int)))) (.v .non) = some (decide (optT (lawJ (rowD rows (.int a)) (rowD rows (.int b)) (f : Int)) = .non)) := by
        unfold isE
        have e : ∀ d : D, decide ((T.v d) = T.v .non) = decide (d = .non) := fun d => by
          rw [Bool.eq_iff_iff, decide_eq_true_eq, decide_eq_true_eq]
          exact ⟨fun h => T.v.inj h, fun h => by rw [h]⟩
        simp only [e]
      rw [e2, e]
      cases lawJ (rowD rows (.int a)) (rowD rows (.int b)) (f : Int) <;> rfl))
    have c := b_and2 c1 (fun _ => c3) rfl
    unfold pairLp
    cases hc : (bs.getD f false && (lawJ (rowD rows (.int a)) (rowD rows (.int b)) (f : Int)).isSome) with
    | false =>
      rw [hc] at c
      exact ⟨[], fun p h => absurd h (by simp), by simp, by rw [set_stm (ite_no c), exs_nil, List.append_nil]⟩
    | true =>
      rw [hc] at c
      refine ⟨[.tup [.str "join", .int a, .int b, .int f]], fun p h => ?_, by simp, ?_⟩
      · rw [List.mem_singleton.mp h]; exact gd_join a b f
      · have e := app_ex (cx := cx) (j := 9) (e := (.na .tup [(.cst (.str "join")), (.var 10), (.var 11), (.var 12)])) (σ := [x0, some (.tup (bs.map D.bl)), x2, x3, x4, some (.ref Q), x6, x7, x8, some (.ref S.length), some (.int a), some (.int b), some (.int f), x13, x14]) (S := S) (ds := pairs) (d := .tup [.str "join", .int a, .int b, .int f]) (by omega) rfl (tup_1 (ded_c cst_v (ded_c (var_v rfl) (ded_c (var_v rfl) (ded_1 (var_v rfl))))) (by simp))
        have f2 := (ite_yes (b := []) c).trans (set_stm (r := []) e)
        rw [exs_nil] at f2
        rw [set_stm f2, exs_nil]
  -- over the flags
  have turn2 : ∀ (a b : Nat), a < rows.length → b < rows.length → ∀ (x12 : Option D) (pairs : List D), (∀ p ∈ pairs, gdS p) → pairs.length + 30 ≤ 100000 → ∃ (y12 : Option D) (more : List D), (∀ p ∈ more, gdS p) ∧ more.length ≤ 30 ∧
      exSs cx [.fr (.var 12) .rng [(.nd (.bi .len) [(.var 1)])] (pairLp iJ)] [x0, some (.tup (bs.map D.bl)), x2, x3, x4, some (.ref Q), x6, x7, x8, some (.ref S.length), some (.int a), some (.int b), x12, x13, x14] (S ++ [.lst pairs]) = .ok (.nx [x0, some (.tup (bs.map D.bl)), x2, x3, x4, some (.ref Q), x6, x7, x8, some (.ref S.length), some (.int a), some (.int b), y12, x13, x14]) (S ++ [.lst (pairs ++ more)]) := by
    intro a b ha hb' x12 pairs hp hpl
    obtain ⟨σ', more, ⟨y12, rfl⟩, h2, h3, h4⟩ := frL_grow (v := 12) (body := exSs cx (pairLp iJ)) S gdS (fun σ => ∃ z : Option D, σ = [x0, some (.tup (bs.map D.bl)), x2, x3, x4, some (.ref Q), x6, x7, x8, some (.ref S.length), some (.int a), some (.int b), z, x13, x14]) 1 100000 ((List.range bs.length).map fun (m : Nat) => D.int (m : Int)) (by
      intro d hd σ ps hE hg hl'
      obtain ⟨f, hf, rfl⟩ := List.mem_map.mp hd
      obtain ⟨z, rfl⟩ := hE
      obtain ⟨more, m1, m2, m3⟩ := turn3 a b f ha hb' (List.mem_range.mp hf) ps (by omega)
      exact ⟨by simp, _, more, ⟨_, rfl⟩, m1, m2, m3⟩) _ pairs ⟨x12, rfl⟩ hp (by simp; omega)
    rw [List.length_map, List.length_range] at h3
    refine ⟨y12, more, h2, by omega, ?_⟩
    rw [set_stm (fr_stm (lenB pairs _ rfl) (iter_len1 _ bs.length (by omega)) h4), exs_nil]
  -- over the second row
  have turn1 : ∀ (a : Nat), a < rows.length → ∀ (x11 x12 : Option D) (pairs : List D), (∀ p ∈ pairs, gdS p) → pairs.length + 900 ≤ 100000 → ∃ (y11 y12 : Option D) (more : List D), (∀ p ∈ more, gdS p) ∧ more.length ≤ 900 ∧
      exSs cx [.fr (.var 11) .rng [(.nd (.bi .len) [(.var 5)])] [.fr (.var 12) .rng [(.nd (.bi .len) [(.var 1)])] (pairLp iJ)]] [x0, some (.tup (bs.map D.bl)), x2, x3, x4, some (.ref Q), x6, x7, x8, some (.ref S.length), some (.int a), x11, x12, x13, x14] (S ++ [.lst pairs]) = .ok (.nx [x0, some (.tup (bs.map D.bl)), x2, x3, x4, some (.ref Q), x6, x7, x8, some (.ref S.length), some (.int a), y11, y12, x13, x14]) (S ++ [.lst (pairs ++ more)]) := by
    intro a ha x11 x12 pairs hp hpl
    obtain ⟨σ', more, ⟨y11, y12, rfl⟩, h2, h3, h4⟩ := frL_grow (v := 11) (body := exSs cx [.fr (.var 12) .rng [(.nd (.bi .len) [(.var 1)])] (pairLp iJ)]) S gdS (fun σ => ∃ z w : Option D, σ = [x0, some (.tup (bs.map D.bl)), x2, x3, x4, some (.ref Q), x6, x7, x8, some (.ref S.length), some (.int a), z, w, x13, x14]) 30 100000 ((List.range rows.length).map fun (m : Nat) => D.int (m : Int)) (by
      intro d hd σ ps hE hg hl'
      obtain ⟨b, hb', rfl⟩ := List.mem_map.mp hd
      obtain ⟨z, w, rfl⟩ := hE
      obtain ⟨w', more, m1, m2, m3⟩ := turn2 a b ha (List.mem_range.mp hb') w ps hg hl'
      exact ⟨by simp, _, more, ⟨_, w', rfl⟩, m1, m2, m3⟩) _ pairs ⟨x11, x12, rfl⟩ hp (by simp; omega)
    rw [List.length_map, List.length_range] at h3
    refine ⟨y11, y12, more, h2, by omega, ?_⟩
    rw [set_stm (fr_stm (lenQ pairs _ rfl) (iter_len1 _ rows.length (by omega)) h4), exs_nil]
  obtain ⟨σ', more, ⟨y10, y11, y12, rfl⟩, h2, h3, h4⟩ := frL_grow (v := 10) (body := exSs cx [.fr (.var 11) .rng [(.nd (.bi .len) [(.var 5)])] [.fr (.var 12) .rng [(.nd (.bi .len) [(.var 1)])] (pairLp iJ)]]) S gdS (fun σ => ∃ z w u : Option D, σ = [x0, some (.tup (bs.map D.bl)), x2, x3, x4, some (.ref Q), x6, x7, x8, some (.ref S.length), z, w, u, x13, x14]) 900 100000 ((List.range rows.length).map fun (m : Nat) => D.int (m : Int)) (by
    intro d hd σ ps hE hg hl'
    obtain ⟨a, ha, rfl⟩ := List.mem_map.mp hd
    obtain ⟨z, w, u, rfl⟩ := hE
    obtain ⟨w', u', more, m1, m2, m3⟩ := turn1 a (List.mem_range.mp ha) w u ps hg hl'
    exact ⟨by simp, _, more, ⟨_, w', u', rfl⟩, m1, m2, m3⟩) _ [] ⟨x10, x11, x12, rfl⟩ (fun p h => absurd h (by simp)) (by simp; omega)
  rw [List.length_map, List.length_range] at h3
  exact ⟨y10, y11, y12, more, h2, by omega, fr_stm (lenQ [] _ rfl) (iter_len1 _ rows.length (by omega)) h4⟩
/-- all that can be dropped -/
theorem dropsS {iD : Nat} (hD : ∀ (xs : List Int) (S : Store), (∀ x ∈ xs, 0 ≤ x ∧ x / 2 < (bs.length : Int)) → xs.length ≤ 60 → cx.call iD [.tup (bs.map D.bl), .bl false, tupI xs] S = .ok (tupI (dropC bs xs)) S) (hr : rowsOk bs.length rows) (hl : rows.length ≤ 30) (hQ : S[Q]? = some (.lst (rows.map tupI))) (x0 x2 x3 x4 x6 x7 x8 x9 x10 x11 x12 x13 x14 : Option D) :
    ∃ drops : List D, (∀ p ∈ drops, gdS p) ∧ drops.length ≤ 30 ∧ (den cx (dropE iD)).e [x0, some (.tup (bs.map D.bl)), x2, x3, x4, some (.ref Q), x6, x7, x8, x9, x10, x11, x12, x13, x14] S = .ok (.t (.lst drops)) S := by
  have e1 := lcf_gen (cx := cx) (σ := [x0, some (.tup (bs.map D.bl)), x2, x3, x4, some (.ref Q), x6, x7, x8, x9, x10, x11, x12, x13, x14]) (σ' := [x0, some (.tup (bs.map D.bl)), x2, x3, x4, some (.ref Q), x6, x7, x8, x9, none, x11, x12, x13, x14]) (S := S) (v := 10) (ik := .rng) (ia := [(.nd (.bi .len) [(.var 5)])]) (own := [10]) (c := (.nd (.cmp .ne) [(.na (.call iD) [(.var 1), (.cst (.bl false)), (.nd .idx [(.var 5), (.var 10)])]), (.nd .idx [(.var 5), (.var 10)])])) (el := (.na .tup [(.cst (.str "drop")), (.var 10)])) (ds := (List.range rows.length).map fun (m : Nat) => D.int (m : Int)) (g := fun _ => true)
    (fun d => match d with | .int z => !decide (dropC bs (rowD rows (.int z)) = rowD rows (.int z)) | _ => false) (fun d => .tup [.str "drop", d]) (dens_1 (bi_1 (var_v rfl) (by rw [len_ref hQ, List.length_map]))) (iter_len1 S rows.length (by omega)) rfl rfl (by simp) (by
      intro d hd
      obtain ⟨a, ha, rfl⟩ := List.mem_map.mp hd
      have ha := List.mem_range.mp ha
      have r1 := hr.2 _ (List.getElem_mem ha)
      rw [← rowD_at ha] at r1
      have ir : (den cx (.nd .idx [(.var 5), (.var 10)])).e [x0, some (.tup (bs.map D.bl)), x2, x3, x4, some (.ref Q), x6, x7, x8, x9, some (.int a), x11, x12, x13, x14] S = .ok (.v (tupI (rowD rows (.int a)))) S := idx_2 (var_v rfl) (var_v rfl) (row_idx hQ ha)
      have c1 := call_d (cx := cx) (f := iD) (ded_c (e := .var 1) (var_v rfl) (ded_c (e := .cst (.bl false)) cst_v (ded_1 ir))) (hD (rowD rows (.int a)) S (bound_half r1.1) (by omega))
      exact b_nd (cmp_2 (cx := cx) (o := .ne) c1 ir (own_tup _ _ _ _ _) (cmNeE (eqE_tupI S _ _)))) (by
      intro d hd _
      obtain ⟨a, ha, rfl⟩ := List.mem_map.mp hd
      rw [tup_1 (ded_c cst_v (ded_1 (var_v rfl))) (by simp)]
      rfl)
  refine ⟨_, ?_, ?_, e1⟩
  · intro p hp
    obtain ⟨d, hd, rfl⟩ := List.mem_map.mp hp
    obtain ⟨a, _, rfl⟩ := List.mem_map.mp (List.mem_filter.mp hd).1
    exact gd_drop a
  · rw [List.length_map]
    refine Nat.le_trans (List.length_filter_le _ _) ?_
    rw [List.length_map, List.length_range]
    exact hl
end
end
end Ev
set_option Elab.async false
set_option linter.all false
set_option maxRecDepth 100000
set_option autoImplicit false
set_option maxHeartbeats 8000000
/-! Sp, part R: files drawn step by step (2). -/
namespace Ev
open PySem
section
variable {tb : Tb} {i i1 i2 i3 i4 i5 : Nat}
section
variable {cx : Cxt} {bs : List Bool} {cs rows : List (List Int)} {S : Store} {Q : Nat}
/-- the row of a list -/
theorem at4 {S : Store} {n j : Nat} {z : Int} {l : List Int} (hn : S[n]? = some (.lst (l.map D.int))) (h : l[j]? = some z) : idxE S (.v (.ref n)) (.v (.int (j : Int))) = some (.int z) := by
  obtain ⟨h1, h2⟩ := List.getElem?_eq_some_iff.mp h
  exact idx_lst hn (by rw [atI_get _ j (by rw [List.length_map]; exact h1), List.getElem_map, h2])
/-- a step is chosen -/
theorem chooseS (r7 r9 r13 : Nat) (z0 z1 z2 : Int) (l : List Int) (pairs drops : List D) (d0 : D) (hl : l = z0 :: z1 :: z2 :: l.drop 3) (h7 : S[r7]? = some (.lst (l.map D.int))) (h9 : S[r9]? = some (.lst pairs)) (h13 : S[r13]? = some (.lst drops)) (hp : ∀ p ∈ pairs, gdS p) (hd : ∀ p ∈ drops, gdS p) (hd0 : gdS d0) (x0 x1 x2 x3 x4 x5 x6 x10 x11 x12 x14 : Option D) :
    ∃ d, gdS d ∧ exS cx choose [x0, x1, x2, x3, x4, x5, x6, some (.ref r7), some d0, some (.ref r9), x10, x11, x12, some (.ref r13), x14] S = .ok (.nx [x0, x1, x2, x3, x4, x5, x6, some (.ref r7), some d, some (.ref r9), x10, x11, x12, some (.ref r13), x14]) S := by
  have g0 : l[0]? = some z0 := by rw [hl]; rfl
  have g1 : l[1]? = some z1 := by rw [hl]; rfl
  have g2 : l[2]? = some z2 := by rw [hl]; rfl
  have i0 : (den cx (.nd .idx [(.var 7), (.cst (.int 0))])).e [x0, x1, x2, x3, x4, x5, x6, some (.ref r7), some d0, some (.ref r9), x10, x11, x12, some (.ref r13), x14] S = .ok (.v (.int z0)) S := idx_2 (var_v rfl) cst_v (at4 (j := 0) h7 g0)
  have i1 : (den cx (.nd .idx [(.var 7), (.cst (.int 1))])).e [x0, x1, x2, x3, x4, x5, x6, some (.ref r7), some d0, some (.ref r9), x10, x11, x12, some (.ref r13), x14] S = .ok (.v (.int z1)) S := idx_2 (var_v rfl) cst_v (at4 (j := 1) h7 g1)
  have i2 : (den cx (.nd .idx [(.var 7), (.cst (.int 2))])).e [x0, x1, x2, x3, x4, x5, x6, some (.ref r7), some d0, some (.ref r9), x10, x11, x12, some (.ref r13), x14] S = .ok (.v (.int z2)) S := idx_2 (var_v rfl) cst_v (at4 (j := 2) h7 g2)
  have l13 : (den cx (.nd (.bi .len) [(.var 13)])).e [x0, x1, x2, x3, x4, x5, x6, some (.ref r7), some d0, some (.ref r9), x10, x11, x12, some (.ref r13), x14] S = .ok (.v (.int drops.length)) S := bi_1 (var_v rfl) (len_ref h13)
  have l9 : (den cx (.nd (.bi .len) [(.var 9)])).e [x0, x1, x2, x3, x4, x5, x6, some (.ref r7), some d0, some (.ref r9), x10, x11, x12, some (.ref r13), x14] S = .ok (.v (.int pairs.length)) S := bi_1 (var_v rfl) (len_ref h9)
  have c1 : (den cx (.nd (.cmp .eq) [(.nd .idx [(.var 7), (.cst (.int 0))]), (.cst (.int 1))])).b [x0, x1, x2, x3, x4, x5, x6, some (.ref r7), some d0, some (.ref r9), x10, x11, x12, some (.ref r13), x14] S = .ok (decide (z0 = 1)) S := b_nd (cmp_ii (cmEq (eqE_int S _ _)) i0 cst_v)
  have c2 := gt0 l13
  have c := b_and2 c1 (fun _ => c2) rfl
  unfold choose
  cases hc : (decide (z0 = 1) && decide (0 < drops.length)) with
  | true =>
    rw [hc] at c
    rw [Bool.and_eq_true, decide_eq_true_eq, decide_eq_true_eq] at hc
    obtain ⟨d, hm, e⟩ := pick (cx := cx) (e := .var 13) (en := (.nd .idx [(.var 7), (.cst (.int 1))])) (el := (.nd (.bi .len) [(.var 13)])) (var_v rfl) i1 l13 hc.2 (fun j h => idx_lst h13 (atI_get _ j h))
    refine ⟨d, hd d hm, ?_⟩
    have f := (ite_yes (b := [.ite (.nd (.cmp .gt) [(.nd (.bi .len) [(.var 9)]), (.cst (.int 0))]) [.set (.var 8) (.nd .idx [(.var 9), (.nd (.op .mod) [(.nd (.op .add) [(.nd (.op .mul) [(.cst (.int 20)), (.nd .idx [(.var 7), (.cst (.int 1))])]), (.nd .idx [(.var 7), (.cst (.int 2))])]), (.nd (.bi .len) [(.var 9)])])])] []]) c).trans (set_stm (r := []) (set_v (j := 8) e (by simp)))
    rw [exs_nil] at f
    exact f
  | false =>
    rw [hc] at c
    have c3 := gt0 l9
    by_cases h : 0 < pairs.length
    · rw [decide_eq_true h] at c3
      have em : (den cx (.nd (.op .add) [(.nd (.op .mul) [(.cst (.int 20)), (.nd .idx [(.var 7), (.cst (.int 1))])]), (.nd .idx [(.var 7), (.cst (.int 2))])])).e [x0, x1, x2, x3, x4, x5, x6, some (.ref r7), some d0, some (.ref r9), x10, x11, x12, some (.ref r13), x14] S = .ok (.v (.int (20 * z1 + z2))) S :=
        op_2 (op_2 cst_v i1 (r := .v (.int (20 * z1))) (by rw [opE_int, opI_mulL _ _ (B64_s 20 (by decide) (by decide))]; rfl)) i2 (by rw [opE_int, opI_add]; rfl)
      obtain ⟨d, hm, e⟩ := pick (cx := cx) (e := .var 9) (el := (.nd (.bi .len) [(.var 9)])) (var_v rfl) em l9 h (fun j h => idx_lst h9 (atI_get _ j h))
      refine ⟨d, hp d hm, ?_⟩
      have f := (ite_yes (b := []) c3).trans (set_stm (r := []) (set_v (j := 8) e (by simp)))
      rw [exs_nil] at f
      rw [ite_else c, set_stm f, exs_nil]
      rfl
    · rw [decide_eq_false h] at c3
      refine ⟨d0, hd0, ?_⟩
      rw [ite_else c, set_stm (ite_no c3), exs_nil]
/-- what stands in the store between two turns -/
structure StI (S0 : Store) (bs : List Bool) (dg : Nat) (l : List Int) (S : Store) (P Q : Nat) (steps : List D) (rows : List (List Int)) : Prop where
  pre : S.take S0.length = S0
  hdg : S[dg]? = some (.lst (l.map D.int))
  hP : S[P]? = some (.lst steps)
  hQ : S[Q]? = some (.lst (rows.map tupI))
  nePQ : P ≠ Q
  nePd : P ≠ dg
  leP : S0.length ≤ P
  st : ∀ d ∈ steps, gdS d
  ln : rows.length = steps.length
  ro : ∀ r ∈ rows, clauseI bs.length r = true
theorem take_app {α : Type} {S S0 T : List α} (h : S.take S0.length = S0) : (S ++ T).take S0.length = S0 := by
  have hl : S0.length ≤ S.length := by
    have := congrArg List.length h
    rw [List.length_take] at this
    omega
  rw [List.take_append_of_le_length hl, h]
theorem take_set' {α : Type} {S S0 : List α} {n : Nat} {o : α} (h : S.take S0.length = S0) (hn : S0.length ≤ n) : (S.set n o).take S0.length = S0 := by
  refine Eq.trans (List.ext_getElem? fun j => ?_) h
  rw [List.getElem?_take, List.getElem?_take]
  split
  · rw [List.getElem?_set_ne (by omega)]
  · rfl
theorem mul_v {cx : Cxt} {σ : Env} {S : Store} {j : Nat} {a c : Int} {x : Nat} (hv : σ[j]? = some (some (.int (x : Int)))) (hc : B64 c = true) : (den cx (.nd (.op .add) [(.cst (.int a)), (.nd (.op .mul) [(.cst (.int c)), (.var j)])])).e σ S = .ok (.v (.int (a + c * (x : Int)))) S :=
  op_2 cst_v (op_2 cst_v (var_v hv) (r := .v (.int (c * (x : Int)))) (by rw [opE_int, opI_mulL _ _ hc]; rfl)) (by rw [opE_int, opI_add]; rfl)
theorem cut_nat (xs : List D) (a b : Nat) (ha : a ≤ b) (hb : b ≤ xs.length) : cut xs (some ((a : Nat) : Int)) (some ((b : Nat) : Int)) = (xs.drop a).take (b - a) := by
  unfold cut
  rw [HT.sIx_nat, HT.sIx_nat, Nat.min_eq_left hb, Nat.min_eq_left (Nat.le_trans ha hb)]
theorem row4 (l : List Int) (j : Nat) (hl : l.length = 49) (hj : j < 12) : ∃ z0 z1 z2 z3, (l.drop (1 + 4 * j)).take 4 = [z0, z1, z2, z3] := by
  have h : ((l.drop (1 + 4 * j)).take 4).length = 4 := by
    rw [List.length_take, List.length_drop]
    omega
  match (l.drop (1 + 4 * j)).take 4, h with
  | [a, b, c, d], _ => exact ⟨a, b, c, d, rfl⟩
/-- one turn -/
theorem turnS {iJ iD iF : Nat} {S0 : Store} {dg P Q j : Nat} {l : List Int} {steps : List D} (hJ : ∀ (xs ys : List Int) (f : Int) (S : Store), xs.length + ys.length ≤ 60 → cx.call iJ [tupI xs, tupI ys, .int f] S = .ok (optT (lawJ xs ys f)) S)
    (hD : ∀ (xs : List Int) (S : Store), (∀ x ∈ xs, 0 ≤ x ∧ x / 2 < (bs.length : Int)) → xs.length ≤ 60 → cx.call iD [.tup (bs.map D.bl), .bl false, tupI xs] S = .ok (tupI (dropC bs xs)) S)
    (hF : ∀ (S : Store) (d : D), filOk S d → cx.call iF [.tup (bs.map D.bl), .tup (cs.map tupI), d] S = match fileD bs cs d with
      | none => .ok .non S
      | some rows => .ok (.ref S.length) (S ++ [.lst (rows.map tupI)]))
    (hb : bs.length ≤ 30) (hcs : ∀ c ∈ cs, c.length ≤ 1000) (I : StI S0 bs dg l S P Q steps rows) (hl : l.length = 49) (hj : j < 12) (hs : steps.length ≤ j) (x0 x7 x8 x9 x10 x11 x12 x13 x14 : Option D) :
    ∃ (Q' : Nat) (S' : Store) (steps' : List D) (rows' : List (List Int)) (y7 y8 y9 y10 y11 y12 y13 y14 : Option D), StI S0 bs dg l S' P Q' steps' rows' ∧ steps'.length ≤ j + 1 ∧
      exSs cx (stepB iJ iD iF) [x0, some (.tup (bs.map D.bl)), some (.tup (cs.map tupI)), some (.ref dg), some (.ref P), some (.ref Q), some (.int (j : Int)), x7, x8, x9, x10, x11, x12, x13, x14] S =
        .ok (.nx [x0, some (.tup (bs.map D.bl)), some (.tup (cs.map tupI)), some (.ref dg), some (.ref P), some (.ref Q'), some (.int (j : Int)), y7, y8, y9, y10, y11, y12, y13, y14]) S' := by
  obtain ⟨z0, z1, z2, z3, hz⟩ := row4 l j hl hj
  -- the row
  have e1 : (den cx (.sl (.var 3) (.nd (.op .add) [(.cst (.int 1)), (.nd (.op .mul) [(.cst (.int 4)), (.var 6)])]) (.nd (.op .add) [(.cst (.int 5)), (.nd (.op .mul) [(.cst (.int 4)), (.var 6)])]))).e [x0, some (.tup (bs.map D.bl)), some (.tup (cs.map tupI)), some (.ref dg), some (.ref P), some (.ref Q), some (.int (j : Int)), x7, x8, x9, x10, x11, x12, x13, x14] S = .ok (.t (.lst (([z0, z1, z2, z3] : List Int).map D.int))) S := by
    have b4 : B64 4 = true := B64_s 4 (by decide) (by decide)
    rw [den_sl, var_v rfl, bind_ok', sl1_ap, mul_v (j := 6) (a := 1) (c := 4) rfl b4, bind_ok', sl2_ap, mul_v (j := 6) (a := 5) (c := 4) rfl b4, bind_ok', sl3_ap]
    have e0 : lstR S (.v (.ref dg)) = some (l.map D.int) := by simp [lstR, objR, unlk, I.hdg]
    have a1 : (1 + 4 * (j : Int)) = ((1 + 4 * j : Nat) : Int) := by omega
    have a2 : (5 + 4 * (j : Int)) = ((5 + 4 * j : Nat) : Int) := by omega
    show ofO S ((lstR S (.v (.ref dg))).map fun ds => T.t (.lst (cut ds (some (1 + 4 * (j : Int))) (some (5 + 4 * (j : Int)))))) = _
    rw [e0, Option.map_some, a1, a2, cut_nat _ _ _ (by omega) (by rw [List.length_map]; omega), show 5 + 4 * j - (1 + 4 * j) = 4 by omega, ← List.map_drop, ← List.map_take, hz]
    rfl
  have f1 := set_v (cx := cx) (j := 7) e1 (by simp)
  have hlt : ∀ {n : Nat} {o : O}, S[n]? = some o → n < S.length := fun h => (List.getElem?_eq_some_iff.mp h).1
  obtain ⟨S1, hS1⟩ : ∃ S1, S1 = S ++ [O.lst (([z0, z1, z2, z3] : List Int).map D.int)] := ⟨_, rfl⟩
  have h7 : S1[S.length]? = some (.lst (([z0, z1, z2, z3] : List Int).map D.int)) := by rw [hS1]; simp
  have I1 : StI S0 bs dg l S1 P Q steps rows := by
    rw [hS1]
    exact ⟨take_app I.pre, app_at I.hdg _, app_at I.hP _, app_at I.hQ _, I.nePQ, I.nePd, I.leP, I.st, I.ln, I.ro⟩
  have g7 : ∀ (x8 : Option D) , (den cx (.nd .idx [(.var 7), (.cst (.int 1))])).e [x0, some (.tup (bs.map D.bl)), some (.tup (cs.map tupI)), some (.ref dg), some (.ref P), some (.ref Q), some (.int (j : Int)), some (.ref S.length), x8, x9, x10, x11, x12, x13, x14] S1 = .ok (.v (.int z1)) S1 := fun x8 => idx_2 (var_v rfl) cst_v (at4 (j := 1) (l := [z0, z1, z2, z3]) h7 rfl)
  unfold stepB
  rw [set_stm f1]
  show ∃ (Q' : Nat) (S' : Store) (steps' : List D) (rows' : List (List Int)) (y7 y8 y9 y10 y11 y12 y13 y14 : Option D), StI S0 bs dg l S' P Q' steps' rows' ∧ steps'.length ≤ j + 1 ∧ exSs cx _ [x0, some (.tup (bs.map D.bl)), some (.tup (cs.map tupI)), some (.ref dg), some (.ref P), some (.ref Q), some (.int (j : Int)), some (.ref S.length), x8, x9, x10, x11, x12, x13, x14] (S ++ [O.lst (([z0, z1, z2, z3] : List Int).map D.int)]) = _
  rw [← hS1]
  -- the given step
  have f2 := set_v (cx := cx) (j := 8) (e := (.na .tup [(.cst (.str "given")), (.na .tup [])])) (σ := [x0, some (.tup (bs.map D.bl)), some (.tup (cs.map tupI)), some (.ref dg), some (.ref P), some (.ref Q), some (.int (j : Int)), some (.ref S.length), x8, x9, x10, x11, x12, x13, x14]) (S := S1) (tup_1 (ded_c cst_v (ded_1 (tup_1 (ds := []) (ded_nil' ..) (by simp)))) (by simp)) (by simp)
  rw [set_stm f2]
  show ∃ (Q' : Nat) (S' : Store) (steps' : List D) (rows' : List (List Int)) (y7 y8 y9 y10 y11 y12 y13 y14 : Option D), StI S0 bs dg l S' P Q' steps' rows' ∧ steps'.length ≤ j + 1 ∧ exSs cx _ [x0, some (.tup (bs.map D.bl)), some (.tup (cs.map tupI)), some (.ref dg), some (.ref P), some (.ref Q), some (.int (j : Int)), some (.ref S.length), some (.tup [.str "given", .tup []]), x9, x10, x11, x12, x13, x14] S1 = _
  have f3 : ∃ d, gdS d ∧ exS cx (.ite (.nd (.cmp .gt) [(.nd (.bi .len) [(.var 2)]), (.cst (.int 0))]) [.set (.var 8) (.na .tup [(.cst (.str "given")), (.nd .idx [(.var 2), (.nd (.op .mod) [(.nd .idx [(.var 7), (.cst (.int 1))]), (.nd (.bi .len) [(.var 2)])])])])] []) [x0, some (.tup (bs.map D.bl)), some (.tup (cs.map tupI)), some (.ref dg), some (.ref P), some (.ref Q), some (.int (j : Int)), some (.ref S.length), some (.tup [.str "given", .tup []]), x9, x10, x11, x12, x13, x14] S1 =
      .ok (.nx [x0, some (.tup (bs.map D.bl)), some (.tup (cs.map tupI)), some (.ref dg), some (.ref P), some (.ref Q), some (.int (j : Int)), some (.ref S.length), some d, x9, x10, x11, x12, x13, x14]) S1 := by
    have lc : (den cx (.nd (.bi .len) [(.var 2)])).e [x0, some (.tup (bs.map D.bl)), some (.tup (cs.map tupI)), some (.ref dg), some (.ref P), some (.ref Q), some (.int (j : Int)), some (.ref S.length), some (.tup [.str "given", .tup []]), x9, x10, x11, x12, x13, x14] S1 = .ok (.v (.int (cs.map tupI).length)) S1 := bi_1 (var_v rfl) (len_tup S1 _)
    have c := gt0 lc
    by_cases h : 0 < (cs.map tupI).length
    · rw [decide_eq_true h] at c
      obtain ⟨d, hm, e⟩ := pick (cx := cx) (e := .var 2) (var_v rfl) (g7 (some (.tup [.str "given", .tup []]))) lc h (fun q hq => atN hq)
      obtain ⟨cl, hcl, rfl⟩ := List.mem_map.mp hm
      refine ⟨.tup [.str "given", tupI cl], gd_given cl (by have := hcs cl hcl; omega), ?_⟩
      have f := (ite_yes (b := []) c).trans (set_stm (r := []) (set_v (j := 8) (tup_1 (ded_c (cst_v (d := .str "given")) (ded_1 e)) (by simp)) (by simp)))
      rw [exs_nil] at f
      exact f
    · rw [decide_eq_false h] at c
      exact ⟨.tup [.str "given", .tup []], gd_given [] (by simp), ite_no c⟩
  obtain ⟨d0, hd0, f3⟩ := f3
  rw [set_stm f3]
  -- a join or a drop
  have f4 : ∃ (d : D) (T : List O) (y9 y10 y11 y12 y13 : Option D), gdS d ∧ exS cx (.ite (.and (.nd (.cmp .gt) [(.nd .idx [(.var 7), (.cst (.int 0))]), (.cst (.int 0))]) (.nd (.cmp .gt) [(.nd (.bi .len) [(.var 5)]), (.cst (.int 0))])) [.set (.var 9) (.na .lst []), pairL iJ, .set (.var 13) (dropE iD), choose] []) [x0, some (.tup (bs.map D.bl)), some (.tup (cs.map tupI)), some (.ref dg), some (.ref P), some (.ref Q), some (.int (j : Int)), some (.ref S.length), some d0, x9, x10, x11, x12, x13, x14] S1 =
      .ok (.nx [x0, some (.tup (bs.map D.bl)), some (.tup (cs.map tupI)), some (.ref dg), some (.ref P), some (.ref Q), some (.int (j : Int)), some (.ref S.length), some d, y9, y10, y11, y12, y13, x14]) (S1 ++ T) := by
    have c1 := gtI (cx := cx) (e := (.nd .idx [(.var 7), (.cst (.int 0))])) (σ := [x0, some (.tup (bs.map D.bl)), some (.tup (cs.map tupI)), some (.ref dg), some (.ref P), some (.ref Q), some (.int (j : Int)), some (.ref S.length), some d0, x9, x10, x11, x12, x13, x14]) (idx_2 (var_v rfl) cst_v (at4 (j := 0) (l := [z0, z1, z2, z3]) h7 rfl))
    have lr : (den cx (.nd (.bi .len) [(.var 5)])).e [x0, some (.tup (bs.map D.bl)), some (.tup (cs.map tupI)), some (.ref dg), some (.ref P), some (.ref Q), some (.int (j : Int)), some (.ref S.length), some d0, x9, x10, x11, x12, x13, x14] S1 = .ok (.v (.int rows.length)) S1 := bi_1 (var_v rfl) (by rw [len_ref I1.hQ, List.length_map])
    have c := b_and2 c1 (fun _ => gt0 lr) rfl
    cases hc : (decide (0 < z0) && decide (0 < rows.length)) with
    | false =>
      rw [hc] at c
      exact ⟨d0, [], x9, x10, x11, x12, x13, hd0, by rw [List.append_nil]; exact ite_no c⟩
    | true =>
      rw [hc] at c
      have hrl : rows.length ≤ 30 := by rw [I.ln]; omega
      have hro : rowsOk bs.length rows := ⟨by omega, fun r h => ⟨I.ro r h, by have := clause_len (I.ro r h); omega⟩⟩
      have k1 := set_v (cx := cx) (j := 9) (S := S1) (σ := [x0, some (.tup (bs.map D.bl)), some (.tup (cs.map tupI)), some (.ref dg), some (.ref P), some (.ref Q), some (.int (j : Int)), some (.ref S.length), some d0, x9, x10, x11, x12, x13, x14]) lst_0 (by simp)
      obtain ⟨y10, y11, y12, pairs, hp, hpl, k2⟩ := pairS (cx := cx) (iJ := iJ) hJ hro hb hrl I1.hQ x0 (some (.tup (cs.map tupI))) (some (.ref dg)) (some (.ref P)) (some (.int (j : Int))) (some (.ref S.length)) (some d0) x10 x11 x12 x13 x14
      obtain ⟨drops, hdp, hdl, k3⟩ := dropsS (cx := cx) (iD := iD) (bs := bs) (S := S1 ++ [.lst pairs]) hD hro hrl (app_at I1.hQ _) x0 (some (.tup (cs.map tupI))) (some (.ref dg)) (some (.ref P)) (some (.int (j : Int))) (some (.ref S.length)) (some d0) (some (.ref S1.length)) y10 y11 y12 x13 x14
      have k4 := set_v (cx := cx) (j := 13) k3 (by simp)
      have h9 : ((S1 ++ [O.lst pairs]) ++ [O.lst drops])[S1.length]? = some (.lst pairs) := by simp
      have h13 : ((S1 ++ [O.lst pairs]) ++ [O.lst drops])[(S1 ++ [O.lst pairs]).length]? = some (.lst drops) := by simp
      obtain ⟨d, hd, k5⟩ := chooseS (cx := cx) (S := (S1 ++ [O.lst pairs]) ++ [O.lst drops]) S.length S1.length (S1 ++ [O.lst pairs]).length z0 z1 z2 [z0, z1, z2, z3] pairs drops d0 rfl (app_at (app_at h7 _) _) h9 h13 hp hdp hd0 x0 (some (.tup (bs.map D.bl))) (some (.tup (cs.map tupI))) (some (.ref dg)) (some (.ref P)) (some (.ref Q)) (some (.int (j : Int))) y10 y11 y12 x14
      refine ⟨d, [O.lst pairs, O.lst drops], some (.ref S1.length), y10, y11, y12, some (.ref (S1 ++ [O.lst pairs]).length), hd, ?_⟩
      rw [ite_yes c, set_stm k1]
      show exSs cx _ [x0, some (.tup (bs.map D.bl)), some (.tup (cs.map tupI)), some (.ref dg), some (.ref P), some (.ref Q), some (.int (j : Int)), some (.ref S.length), some d0, some (.ref S1.length), x10, x11, x12, x13, x14] (S1 ++ [.lst []]) = _
      rw [set_stm k2, set_stm k4]
      show exSs cx _ [x0, some (.tup (bs.map D.bl)), some (.tup (cs.map tupI)), some (.ref dg), some (.ref P), some (.ref Q), some (.int (j : Int)), some (.ref S.length), some d0, some (.ref S1.length), y10, y11, y12, some (.ref (S1 ++ [O.lst pairs]).length), x14] ((S1 ++ [O.lst pairs]) ++ [O.lst drops]) = _
      rw [set_stm k5, exs_nil, List.append_assoc]
      rfl
  obtain ⟨d, TT, y9, y10, y11, y12, y13, hd, f4⟩ := f4
  rw [set_stm f4]
  obtain ⟨S2, hS2⟩ : ∃ S2, S2 = S1 ++ TT := ⟨_, rfl⟩
  rw [← hS2]
  have I2 : StI S0 bs dg l S2 P Q steps rows := by
    rw [hS2]
    exact ⟨take_app I1.pre, app_at I1.hdg _, app_at I1.hP _, app_at I1.hQ _, I.nePQ, I.nePd, I.leP, I.st, I.ln, I.ro⟩
  -- is it told
  have e5 : (den cx (.nd (.op .add) [(.nd (.bi .tuple) [(.var 4)]), (.na .tup [(.var 8)])])).e [x0, some (.tup (bs.map D.bl)), some (.tup (cs.map tupI)), some (.ref dg), some (.ref P), some (.ref Q), some (.int (j : Int)), some (.ref S.length), some d, y9, y10, y11, y12, y13, x14] S2 = .ok (.v (.tup (steps ++ [d]))) S2 := by
    have g : seqR S2 (.v (.ref P)) = some steps := by simp [seqR, lstR, objR, unlk, I2.hP]
    have t1 := bi_1 (cx := cx) (b := .tuple) (e := .var 4) (σ := [x0, some (.tup (bs.map D.bl)), some (.tup (cs.map tupI)), some (.ref dg), some (.ref P), some (.ref Q), some (.int (j : Int)), some (.ref S.length), some d, y9, y10, y11, y12, y13, x14]) (S := S2) (r := .v (.tup steps)) (var_v rfl) (by show (seqR S2 _).map _ = _; rw [g]; rfl)
    refine op_2 t1 (tup_1 (ded_1 (var_v rfl)) (by simp)) ?_
    show (if steps.length + [d].length ≤ sizeLine then some (T.v (.tup (steps ++ [d]))) else none) = _
    rw [if_pos (by rw [size_line]; simp; omega)]
  have hfo : filOk S2 (.tup (steps ++ [d])) := ⟨trivial, fun ds e => by
    cases e
    refine ⟨by simp; omega, fun x hx => ?_⟩
    rcases List.mem_append.mp hx with hx | hx
    · exact stp_sm (I.st x hx).1
    · rw [List.mem_singleton.mp hx]; exact stp_sm hd.1⟩
  have hF' := hF S2 (.tup (steps ++ [d])) hfo
  have e6 : cx.call iF [.tup (bs.map D.bl), .tup (cs.map tupI), .tup (steps ++ [d])] S2 = match fileV bs cs [] (steps ++ [d]) with
      | none => .ok .non S2
      | some rows => .ok (.ref S2.length) (S2 ++ [.lst (rows.map tupI)]) := hF'
  cases hv : fileV bs cs [] (steps ++ [d]) with
  | none =>
    rw [hv] at e6
    have f5 := set_v (cx := cx) (j := 14) (call_d (f := iF) (ded_c (e := .var 1) (var_v rfl) (ded_c (e := .var 2) (var_v rfl) (ded_1 e5))) e6) (by simp)
    rw [set_stm f5]
    have c6 := b_nd (cmp_2 (cx := cx) (o := .nis) (e := .var 14) (σ := [x0, some (.tup (bs.map D.bl)), some (.tup (cs.map tupI)), some (.ref dg), some (.ref P), some (.ref Q), some (.int (j : Int)), some (.ref S.length), some d, y9, y10, y11, y12, y13, some .non]) (S := S2) (var_v rfl) (cst_v (d := .non)) (own_nis _ _ _ _) (c := false) rfl)
    exact ⟨Q, S2, steps, rows, _, _, _, _, _, _, _, _, I2, by omega, by
      show exSs cx _ [x0, some (.tup (bs.map D.bl)), some (.tup (cs.map tupI)), some (.ref dg), some (.ref P), some (.ref Q), some (.int (j : Int)), some (.ref S.length), some d, y9, y10, y11, y12, y13, some .non] S2 = _
      rw [set_stm (ite_no c6), exs_nil]⟩
  | some rows' =>
    rw [hv] at e6
    obtain ⟨ro', ln'⟩ := fileV_ok hb (steps ++ [d]) [] rows' (fun r h => absurd h (by simp)) hv
    have f5 := set_v (cx := cx) (j := 14) (call_d (f := iF) (ded_c (e := .var 1) (var_v rfl) (ded_c (e := .var 2) (var_v rfl) (ded_1 e5))) e6) (by simp)
    rw [set_stm f5]
    obtain ⟨S3, hS3⟩ : ∃ S3, S3 = S2 ++ [O.lst (rows'.map tupI)] := ⟨_, rfl⟩
    have hQ' : S3[S2.length]? = some (.lst (rows'.map tupI)) := by rw [hS3]; simp
    have hP3 : S3[P]? = some (.lst steps) := by rw [hS3]; exact app_at I2.hP _
    have hPl : P < S2.length := (List.getElem?_eq_some_iff.mp I2.hP).1
    have c6 := b_nd (cmp_2 (cx := cx) (o := .nis) (e := .var 14) (σ := [x0, some (.tup (bs.map D.bl)), some (.tup (cs.map tupI)), some (.ref dg), some (.ref P), some (.ref Q), some (.int (j : Int)), some (.ref S.length), some d, y9, y10, y11, y12, y13, some (.ref S2.length)]) (S := S3) (var_v rfl) (cst_v (d := .non)) (own_nis _ _ _ _) (c := true) rfl)
    have f7 := app_at_ (cx := cx) (j := 4) (e := .var 8) (σ := [x0, some (.tup (bs.map D.bl)), some (.tup (cs.map tupI)), some (.ref dg), some (.ref P), some (.ref Q), some (.int (j : Int)), some (.ref S.length), some d, y9, y10, y11, y12, y13, some (.ref S2.length)]) hP3 (by omega) rfl (var_v rfl)
    have f8 := set_v (cx := cx) (j := 5) (e := .var 14) (σ := [x0, some (.tup (bs.map D.bl)), some (.tup (cs.map tupI)), some (.ref dg), some (.ref P), some (.ref Q), some (.int (j : Int)), some (.ref S.length), some d, y9, y10, y11, y12, y13, some (.ref S2.length)]) (S := S3.set P (.lst (steps ++ [d]))) (var_v rfl) (by simp)
    have f6 := (ite_yes (b := []) c6).trans ((set_stm (r := [.set (.var 5) (.var 14)]) f7).trans (set_stm (r := []) f8))
    rw [exs_nil] at f6
    refine ⟨S2.length, S3.set P (.lst (steps ++ [d])), steps ++ [d], rows', some (.ref S.length), some d, y9, y10, y11, y12, y13, some (.ref S2.length), ⟨?_, ?_, ?_, ?_, by omega, I.nePd, I.leP, fun x hx => ?_, by rw [ln']; simp, ro'⟩, by simp; omega, ?_⟩
    · exact take_set' (by rw [hS3]; exact take_app I2.pre) I.leP
    · rw [List.getElem?_set_ne I.nePd, hS3]
      exact app_at I2.hdg _
    · rw [List.getElem?_set_self (by rw [hS3, List.length_append]; omega)]
    · rw [List.getElem?_set_ne (by omega), hQ']
    · rcases List.mem_append.mp hx with hx | hx
      · exact I.st x hx
      · rw [List.mem_singleton.mp hx]; exact hd
    · show exSs cx _ [x0, some (.tup (bs.map D.bl)), some (.tup (cs.map tupI)), some (.ref dg), some (.ref P), some (.ref Q), some (.int (j : Int)), some (.ref S.length), some d, y9, y10, y11, y12, y13, some (.ref S2.length)] (S2 ++ [O.lst (rows'.map tupI)]) = _
      rw [← hS3, set_stm f6, exs_nil]
      rfl
end
end
end Ev
set_option Elab.async false
set_option linter.all false
set_option maxRecDepth 100000
set_option autoImplicit false
set_option maxHeartbeats 8000000
/-! Sp, part S: files drawn step by step (3). -/
namespace Ev
open PySem
section
variable {tb : Tb} {i i1 i2 i3 i4 i5 : Nat}
theorem rep_lst (S : Store) (ds : List D) (n : Nat) (h : ds.length * n ≤ 1000) (hn : n ≤ 900) : opE S .mul (.t (.lst ds)) (.v (.int n)) = some (.t (.lst (List.replicate n ds).flatten)) := by
  show (match lstW S (.t (.lst ds)) with
    | some xs => if -(2 ^ 63) ≤ (n : Int) ∧ (n : Int) < 2 ^ 63 ∧ xs.length * (n : Int).toNat ≤ sizeLine then some (T.t (.lst (List.replicate (n : Int).toNat xs).flatten)) else none
    | _ => none) = _
  have e : lstW S (.t (.lst ds)) = some ds := rfl
  rw [e]
  dsimp only
  rw [if_pos ⟨by omega, by omega, by rw [size_line]; simp; omega⟩]
  simp
/-- the bounds of a file's digits -/
def bnd49 : List Int := 13 :: (List.replicate 12 [4, 20, 20, 10]).flatten
theorem bnd49_len : bnd49.length = 49 := by decide
theorem bnd49_pos : ∀ x ∈ bnd49, 0 < x ∧ x < 1073741824 := by decide
theorem gd_noRefs (n : Nat) (ds : List D) (h : ∀ d ∈ ds, gdS d) : noRef n (.tup ds) = true := by
  rw [noRef]
  induction ds with
  | nil => rfl
  | cons d ds ih =>
    rw [noRefs, ih fun x hx => h x (List.mem_cons_of_mem _ hx), Bool.and_true]
    exact noRef_of n d (sm_pl d (h d List.mem_cons_self).1)
theorem stepsS {iR iJ iD iF : Nat} (hR : tb.fs[iR]? = some rowF) (h : tb.fs[i]? = some (stepsF iR iJ iD iF)) (k : Nat) (bs : List Bool) (cs : List (List Int)) (cell : Int) (S : Store)
    (hJ : ∀ (xs ys : List Int) (f : Int) (S : Store), xs.length + ys.length ≤ 60 → runK tb (k + 1) iJ [tupI xs, tupI ys, .int f] S = .ok (optT (lawJ xs ys f)) S)
    (hD : ∀ (xs : List Int) (S : Store), (∀ x ∈ xs, 0 ≤ x ∧ x / 2 < (bs.length : Int)) → xs.length ≤ 60 → runK tb (k + 1) iD [.tup (bs.map D.bl), .bl false, tupI xs] S = .ok (tupI (dropC bs xs)) S)
    (hF : ∀ (S : Store) (d : D), filOk S d → runK tb (k + 1) iF [.tup (bs.map D.bl), .tup (cs.map tupI), d] S = match fileD bs cs d with
      | none => .ok .non S
      | some rows => .ok (.ref S.length) (S ++ [.lst (rows.map tupI)]))
    (hb : bs.length ≤ 30) (hcs : ∀ c ∈ cs, c.length ≤ 1000) :
    ∃ ds : List D, (∀ d ∈ ds, gdS d) ∧ ds.length ≤ 12 ∧ runK tb (k + 2) i [.int cell, .tup (bs.map D.bl), .tup (cs.map tupI)] S = .ok (.tup ds) S := by
  rw [run_of h (k + 1) _ _ rfl]
  obtain ⟨S1, hS1⟩ : ∃ S1, S1 = S ++ [O.lst (bnd49.map D.int)] := ⟨_, rfl⟩
  have hb1 : S1[S.length]? = some (.lst (bnd49.map D.int)) := by rw [hS1]; simp
  obtain ⟨row, hrow, eR⟩ := rowS hR k cell S.length bnd49 S1 hb1 bnd49_pos (by rw [bnd49_len]; omega)
  have hl : row.length = 49 := by rw [hrow.len, bnd49_len]
  obtain ⟨r0, rest, hr⟩ : ∃ r0 rest, row = r0 :: rest := by
    cases row with
    | nil => simp at hl
    | cons a b => exact ⟨a, b, rfl⟩
  have hr0 : 0 ≤ r0 ∧ r0 < 13 := by
    subst hr
    exact hrow.1
  obtain ⟨S2, hS2⟩ : ∃ S2, S2 = S1 ++ [O.lst (row.map D.int)] := ⟨_, rfl⟩
  have f1 : exS (cxK tb (k + 1)) (.set (.var 3) (.na (.call iR) [(.var 0), (.nd (.op .add) [(.na .lst [(.cst (.int 13))]), (.nd (.op .mul) [(.na .lst [(.cst (.int 4)), (.cst (.int 20)), (.cst (.int 20)), (.cst (.int 10))]), (.cst (.int 12))])])])) [some (.int cell), some (.tup (bs.map D.bl)), some (.tup (cs.map tupI)), none, none, none, none, none, none, none, none, none, none, none, none] S = .ok (.nx [some (.int cell), some (.tup (bs.map D.bl)), some (.tup (cs.map tupI)), some (.ref S1.length), none, none, none, none, none, none, none, none, none, none, none]) S2 := by
    have t1 := lst_1 (cx := cxK tb (k + 1)) (σ := [some (.int cell), some (.tup (bs.map D.bl)), some (.tup (cs.map tupI)), none, none, none, none, none, none, none, none, none, none, none, none]) (S := S) (ded_1 (cst_v (d := .int 13))) (by simp)
    have t2 := lst_1 (cx := cxK tb (k + 1)) (σ := [some (.int cell), some (.tup (bs.map D.bl)), some (.tup (cs.map tupI)), none, none, none, none, none, none, none, none, none, none, none, none]) (S := S) (ded_c (cst_v (d := .int 4)) (ded_c (cst_v (d := .int 20)) (ded_c (cst_v (d := .int 20)) (ded_1 (cst_v (d := .int 10)))))) (by simp)
    have e1 := rep_lst S [D.int 4, D.int 20, D.int 20, D.int 10] 12 (by decide) (by decide)
    have e2 := cat_lst S [D.int 13] (List.replicate 12 [D.int 4, D.int 20, D.int 20, D.int 10]).flatten (by decide)
    have t3 := op_2 t1 (op_2 t2 (cst_v (d := .int 12)) e1) e2
    have t4 := ded_c (cx := cxK tb (k + 1)) (var_v (j := 0) (σ := [some (.int cell), some (.tup (bs.map D.bl)), some (.tup (cs.map tupI)), none, none, none, none, none, none, none, none, none, none, none, none]) rfl) (ded_1 t3)
    refine set_v (call_d (d := .ref S1.length) (S2 := S2) t4 ?_) (by simp)
    rw [hS2]
    rw [hS1] at eR ⊢
    exact eR
  have f2 : exS (cxK tb (k + 1)) (.set (.var 4) (.na .lst [])) [some (.int cell), some (.tup (bs.map D.bl)), some (.tup (cs.map tupI)), some (.ref S1.length), none, none, none, none, none, none, none, none, none, none, none] S2 = .ok (.nx [some (.int cell), some (.tup (bs.map D.bl)), some (.tup (cs.map tupI)), some (.ref S1.length), some (.ref S2.length), none, none, none, none, none, none, none, none, none, none]) (S2 ++ [.lst []]) := set_v lst_0 (by simp)
  obtain ⟨S3, hS3⟩ : ∃ S3, S3 = S2 ++ [O.lst []] := ⟨_, rfl⟩
  have f3 : exS (cxK tb (k + 1)) (.set (.var 5) (.na .lst [])) [some (.int cell), some (.tup (bs.map D.bl)), some (.tup (cs.map tupI)), some (.ref S1.length), some (.ref S2.length), none, none, none, none, none, none, none, none, none, none] S3 = .ok (.nx [some (.int cell), some (.tup (bs.map D.bl)), some (.tup (cs.map tupI)), some (.ref S1.length), some (.ref S2.length), some (.ref S3.length), none, none, none, none, none, none, none, none, none]) (S3 ++ [.lst []]) := set_v lst_0 (by simp)
  have l1 : S1.length = S.length + 1 := by rw [hS1]; simp
  have l2 : S2.length = S1.length + 1 := by rw [hS2]; simp
  have l3 : S3.length = S2.length + 1 := by rw [hS3]; simp
  have I0 : StI S bs S1.length row (S3 ++ [O.lst []]) S2.length S3.length [] [] := by
    refine ⟨?_, ?_, ?_, ?_, by omega, by omega, by omega, fun d h => absurd h (by simp), rfl, fun r h => absurd h (by simp)⟩
    · rw [hS3, hS2, hS1]
      simp
    · rw [hS3]
      exact app_at (app_at (by rw [hS2]; simp) _) _
    · exact app_at (by rw [hS3]; simp) _
    · simp
  obtain ⟨n0, hn0⟩ : ∃ n0 : Nat, r0 = (n0 : Int) := ⟨r0.toNat, by omega⟩
  have hat : (row.map D.int)[0]? = some (.int n0) := by rw [hr, hn0]; rfl
  have e3 : dens (cxK tb (k + 1)) [(.nd .idx [(.var 3), (.cst (.int 0))])] [some (.int cell), some (.tup (bs.map D.bl)), some (.tup (cs.map tupI)), some (.ref S1.length), some (.ref S2.length), some (.ref S3.length), none, none, none, none, none, none, none, none, none] (S3 ++ [O.lst []]) = .ok [.v (.int n0)] (S3 ++ [O.lst []]) :=
    dens_1 (idx_2 (var_v rfl) cst_v (at4 (j := 0) I0.hdg (by rw [hr, hn0]; rfl)))
  obtain ⟨σ', S', e7, Q, steps, rows, x6, y7, y8, y9, y10, y11, y12, y13, y14, q1, q2, q3⟩ := frL_rng (v := 6) (body := exSs (cxK tb (k + 1)) (stepB iJ iD iF)) n0 (fun j σ S' => ∃ (Q : Nat) (steps : List D) (rows : List (List Int)) (x6 y7 y8 y9 y10 y11 y12 y13 y14 : Option D), StI S bs S1.length row S' S2.length Q steps rows ∧ steps.length ≤ j ∧ σ = [some (.int cell), some (.tup (bs.map D.bl)), some (.tup (cs.map tupI)), some (.ref S1.length), some (.ref S2.length), some (.ref Q), x6, y7, y8, y9, y10, y11, y12, y13, y14]) (by
    rintro j hj σ S' ⟨Q, steps, rows, x6, y7, y8, y9, y10, y11, y12, y13, y14, q1, q2, rfl⟩
    obtain ⟨Q', S'', steps', rows', z7, z8, z9, z10, z11, z12, z13, z14, I', hl', e⟩ := turnS (cx := cxK tb (k + 1)) (iJ := iJ) (iD := iD) (iF := iF) (bs := bs) (cs := cs) (l := row) hJ hD hF hb hcs q1 hl (j := j) (by omega) q2 (some (.int cell)) y7 y8 y9 y10 y11 y12 y13 y14
    exact ⟨by simp, _, _, .inl e, Q', steps', rows', _, _, _, _, _, _, _, _, _, I', hl', rfl⟩) [some (.int cell), some (.tup (bs.map D.bl)), some (.tup (cs.map tupI)), some (.ref S1.length), some (.ref S2.length), some (.ref S3.length), none, none, none, none, none, none, none, none, none] (S3 ++ [O.lst []]) ⟨S3.length, [], [], none, none, none, none, none, none, none, none, none, I0, by simp, rfl⟩
  subst q3
  refine ⟨steps, q1.st, by omega, ?_⟩
  show finE S (exSs (cxK tb (k + 1)) (stepsF iR iJ iD iF).body [some (.int cell), some (.tup (bs.map D.bl)), some (.tup (cs.map tupI)), none, none, none, none, none, none, none, none, none, none, none, none] S) = _
  have g : seqR S' (.v (.ref S2.length)) = some steps := by simp [seqR, lstR, objR, unlk, q1.hP]
  have e8 := bi_1 (cx := cxK tb (k + 1)) (b := .tuple) (e := .var 4) (σ := [some (.int cell), some (.tup (bs.map D.bl)), some (.tup (cs.map tupI)), some (.ref S1.length), some (.ref S2.length), some (.ref Q), x6, y7, y8, y9, y10, y11, y12, y13, y14]) (S := S') (r := .v (.tup steps)) (var_v rfl) (by show (seqR S' _).map _ = _; rw [g]; rfl)
  simp only [stepsF]
  rw [set_stm f1, set_stm f2, ← hS3, set_stm f3, set_stm (fr_stm e3 (iter_len1 _ n0 (by omega)) e7), ret_1 e8, fin_rt]
  unfold gc
  rw [if_pos ⟨q1.pre, gd_noRefs _ _ q1.st⟩]
end
end Ev
set_option Elab.async false
set_option linter.all false
set_option maxRecDepth 100000
set_option autoImplicit false
set_option maxHeartbeats 8000000
namespace Lk55
open Ev PySem
theorem t0 : tb.fs[0]? = some wholeF := by simp only [tb]; rfl
theorem t1 : tb.fs[1]? = some (belowF 0) := by simp only [tb]; rfl
theorem t2 : tb.fs[2]? = some (areBelowF 1) := by simp only [tb]; rfl
theorem t3 : tb.fs[3]? = some areFlagsF := by simp only [tb]; rfl
theorem t4 : tb.fs[4]? = some toldF := by simp only [tb]; rfl
theorem t5 : tb.fs[5]? = some ascF := by simp only [tb]; rfl
theorem t6 : tb.fs[6]? = some (clauseF 2 5) := by simp only [tb]; rfl
theorem t7 : tb.fs[7]? = some (clausesF 6 5) := by simp only [tb]; rfl
theorem t8 : tb.fs[8]? = some (cbIniF 3 7 1 0 1) := by simp only [tb]; rfl
theorem t10 : tb.fs[10]? = some (askedF 2 1) := by simp only [tb]; rfl
theorem t11 : tb.fs[11]? = some madeF := by simp only [tb]; rfl
theorem t12 : tb.fs[12]? = some (joinedF 11) := by simp only [tb]; rfl
theorem t13 : tb.fs[13]? = some droppedF := by simp only [tb]; rfl
theorem t14 : tb.fs[14]? = some (stepF 4 6 1 12 13) := by simp only [tb]; rfl
theorem t15 : tb.fs[15]? = some (fileF 14 0 1) := by simp only [tb]; rfl
theorem t16 : tb.fs[16]? = some (toldFileF 10 15) := by simp only [tb]; rfl
theorem t17 : tb.fs[17]? = some cellF := by simp only [tb]; rfl
theorem t18 : tb.fs[18]? = some rowF := by simp only [tb]; rfl
theorem t19 : tb.fs[19]? = some (sameF 19) := by simp only [tb]; rfl
theorem t20 : tb.fs[20]? = some lawWholeF := by simp only [tb]; rfl
theorem t21 : tb.fs[21]? = some d21 := by simp only [tb]; rfl
theorem t22 : tb.fs[22]? = some bitsF := by simp only [tb]; rfl
theorem t23 : tb.fs[23]? = some (isCubeF 20) := by simp only [tb]; rfl
theorem t24 : tb.fs[24]? = some lawJoinedF := by simp only [tb]; rfl
theorem t25 : tb.fs[25]? = some lawDroppedF := by simp only [tb]; rfl
theorem t26 : tb.fs[26]? = some (lawStepF 20 25 24) := by simp only [tb]; rfl
theorem t27 : tb.fs[27]? = some (lawFileF 19 23 26) := by simp only [tb]; rfl
theorem t28 : tb.fs[28]? = some (clF 18) := by simp only [tb]; rfl
theorem t29 : tb.fs[29]? = some (csF 18 28) := by simp only [tb]; rfl
theorem t30 : tb.fs[30]? = some (cbkF 18 22 29) := by simp only [tb]; rfl
theorem t31 : tb.fs[31]? = some (stepsF 18 24 25 27) := by simp only [tb]; rfl
theorem t32 : tb.fs[32]? = some d32 := by simp only [tb]; rfl
theorem B : CbT tb 0 1 5 2 6 3 7 8 1 0 1 2 where
  h1 := t0
  h2 := t1
  h4 := t2
  h3 := t5
  h5 := t6
  hF := t3
  hC := t7
  hI := t8
  ini := by simp only [tb]; rfl
  at0 := by simp only [tb]; rfl
  at1 := by simp only [tb]; rfl
  rs := by simp only [tb]; rfl
  ff := by decide
theorem h_ic : tb.ic 2 = true := by simp only [tb]; rfl
theorem h_sb : tb.sb 2 2 = true := by simp only [tb]; rfl
theorem h_rs : tb.rs 1 = true := by simp only [tb]; rfl
theorem h_xi : tb.xi 0 = true := by simp only [tb]; rfl
theorem h_s10 : tb.sb 1 0 = true := by simp only [tb]; rfl
theorem h_s11 : tb.sb 1 1 = true := by simp only [tb]; rfl
/-! the spoiled things -/
def spl (L : Nat) : List D := [.non, .bl true, .int (-1), .str "0", .tup [], .ref L, .tup [.int 0, .bl true], .ref (L + 1), .tup [.tup []], .str "and", .int 1000000000000000000000000000000, .tup [.ref (L + 3)], .tup [.non], .tup [.tup [.int 0]]]
def splT (L : Nat) : List O := [.lst [], .dK [], .lst ((spl L).take 8), .lst [], .lst (spl L)]
theorem spoiled (k : Nat) (b : Nat) (S : Store) (hb : b < 14) : runK tb (k + 1) 21 [.int b] S = .ok ((spl S.length)[b]'hb) (gc S ((spl S.length)[b]'hb) (S ++ splT S.length)) := by
  rw [run_of t21 k _ _ rfl]
  have m1 : opI .mod (b : Int) 14 = some (b : Int) := by
    rw [opI_mod (by omega), Int.emod_eq_of_lt (by omega) (by omega)]
  have m2 : opI .pow 10 30 = some 1000000000000000000000000000000 := by
    rw [opI_pow (by omega) (by omega) (by decide)]
    rfl
  have a1 : L2.atI (spl S.length) (b : Int) = some ((spl S.length)[b]'hb) := atI_get (spl S.length) b hb
  generalize (spl S.length)[b]'hb = d at a1
  show finE S (exSs (cxK tb k) d21.body [some (.int b), none] S) = _
  have f1 : exSs (cxK tb k) d21.body [some (.int b), none] S = .ok (.rt d) (S ++ splT S.length) := by
    have e1 : opE (S ++ [.lst [], .dK [], .lst ((spl S.length).take 8), .lst []]) .add (.v (.ref (S.length + 2))) (.t (.lst ((spl S.length).drop 8))) = some (.t (.lst (spl S.length))) := by
      have g1 : lstW (S ++ [.lst [], .dK [], .lst ((spl S.length).take 8), .lst []]) (.v (.ref (S.length + 2))) = some ((spl S.length).take 8) := by simp [lstW, objW, List.getElem?_append]
      have g2 : lstW (S ++ [.lst [], .dK [], .lst ((spl S.length).take 8), .lst []]) (.t (.lst ((spl S.length).drop 8))) = some ((spl S.length).drop 8) := rfl
      show (match lstW _ _, lstW _ _ with
        | some xs, some ys => if xs.length + ys.length ≤ sizeLine then some (T.t (.lst (xs ++ ys))) else none
        | _, _ => none) = _
      rw [g1, g2]
      dsimp only
      rw [List.take_append_drop, if_pos (by rw [size_line]; simp [spl])]
    have e2 : idxE (S ++ splT S.length) (.v (.ref (S.length + 4))) (.v (.int b)) = some d := idx_lst (by simp [splT, List.getElem?_append]) a1
    have e3 : biE (S ++ splT S.length) .len (.v (.ref (S.length + 4))) = some (.v (.int 14)) := by
      simp [biE, seqR, lstR, objR, unlk, splT, List.getElem?_append, spl]
    have x1 : (den (cxK tb k) (.na .lst [(.cst (.non)), (.cst (.bl true)), (.nd .neg [(.cst (.int 1))]), (.cst (.str "0")), (.na .tup []), (.na .lst []), (.na .tup [(.cst (.int 0)), (.cst (.bl true))]), (.nd .dct [])])).e [some (.int b), none] S = .ok (.t (.lst ((spl S.length).take 8))) (S ++ [.lst [], .dK []]) := by
      simp [size_line, spl]
    have x2 : (den (cxK tb k) (.na .lst [(.na .tup [(.na .tup [])]), (.cst (.str "and")), (.nd (.op .pow) [(.cst (.int 10)), (.cst (.int 30))]), (.na .tup [(.na .lst [])]), (.na .tup [(.cst (.non))]), (.na .tup [(.na .tup [(.cst (.int 0))])])])).e [some (.int b), some (.ref (S.length + 2))] (S ++ [.lst [], .dK [], .lst ((spl S.length).take 8)]) = .ok (.t (.lst ((spl S.length).drop 8))) (S ++ [.lst [], .dK [], .lst ((spl S.length).take 8), .lst []]) := by
      simp [size_line, spl, m2]
    have s1 := set_v (j := 1) x1 (by simp)
    have s2 := set_v (j := 1) (op_2 (e := .var 1) (var_v rfl) x2 e1) (by simp)
    have s3 : (den (cxK tb k) (.nd .idx [(.var 1), (.nd (.op .mod) [(.nd (.bi .int) [(.var 0)]), (.nd (.bi .len) [(.var 1)])])])).e [some (.int b), some (.ref (S.length + 4))] (S ++ splT S.length) = .ok (.v d) (S ++ splT S.length) :=
      idx_2 (var_v rfl) (op_2 (bi_1 (var_v rfl) (bi_int _ _)) (bi_1 (var_v rfl) e3) (r := .v (.int b)) (by rw [opE_int, m1]; rfl)) e2
    have n1 : (S ++ [O.lst [], .dK []]).length = S.length + 2 := by simp
    have n2 : (S ++ [O.lst [], .dK [], .lst ((spl S.length).take 8), .lst []]).length = S.length + 4 := by simp
    have c1 : (S ++ [O.lst [], .dK []]) ++ [.lst ((spl S.length).take 8)] = S ++ [O.lst [], .dK [], .lst ((spl S.length).take 8)] := by simp
    have c2 : (S ++ [O.lst [], .dK [], .lst ((spl S.length).take 8), .lst []]) ++ [.lst (spl S.length)] = S ++ splT S.length := by simp [splT]
    rw [alloc_t] at s1 s2
    dsimp only at s1 s2
    rw [n1, c1] at s1
    rw [n2, c2] at s2
    simp only [d21]
    rw [set_stm s1]
    show exSs _ _ [some (D.int b), some (.ref (S.length + 2))] _ = _
    rw [set_stm s2]
    show exSs _ _ [some (D.int b), some (.ref (S.length + 4))] _ = _
    rw [ret_1 s3]
  rw [f1, fin_rt]
/-! the program's file and the law's -/
section
variable (k : Nat) (bs : List Bool) (cs : List (List Int)) (S : Store) (d : D)
theorem told_ (hb : bs.length ≤ 30) (hc : cs.Nodup) (hcl : cs.length ≤ 1000) (n : Nat) (hn : S[n]? = some (.ins 2 [(0, .tup (bs.map D.bl)), (1, .tup (cs.map tupI))])) (hd : filOk S d) : runK tb (k + 7) 16 [.ref n, d] S = .ok (optTs (fileD bs cs d)) S :=
  toldFileS t16 (k + 6) cs (fileD bs cs d) S d (askedS t10 h_ic h_sb (k + 5) n _ S hn)
    (fileS k bs cs S n d t15 B.at0 B.at1 (by decide) (fun rows x S g L hg hL hx hr => stepS t0 t1 t2 t5 t6 t4 t11 t12 t13 t14 k bs cs rows x S g L hg hL hx hr) hn hb hc hcl hd)
theorem due_ (hb : bs.length ≤ 30) (hd : filOk S d) : runK tb (k + 4) 27 [.tup (bs.map D.bl), .tup (cs.map tupI), d] S = match fileD bs cs d with
      | none => .ok .non S
      | some rows => .ok (.ref S.length) (S ++ [.lst (rows.map tupI)]) :=
  lawFileS t27 t19 t20 t23 k bs cs S d (fun rows x S L hL hx hr => lawStepS t20 t24 t25 t26 (k + 1) bs rows x S L hL hx hr (by omega)) hb hd
theorem asked_x (ds : List D) : runK tb (k + 1) 10 [.tup ds] S = .ex 1 [] S := by
  rw [run_of t10 k _ _ rfl]
  show finE S (exSs (cxK tb k) (askedF 2 1).body [some (.tup ds)] S) = _
  have t1 : (den (cxK tb k) (.nd (.isi (.c 2)) [(.var 0)])).e [some (.tup ds)] S = .ok (.v (.bl false)) S := by
    rw [nd_1 (var_v rfl)]
    rfl
  have c := b_not (b_nd t1)
  have er : exS (cxK tb k) (.rse 1 []) [some (.tup ds)] S = .ok (.xc [some (.tup ds)] 1 []) S := by
    simp only [exS]
    rw [if_pos (show (cxK tb k).rs 1 = true from h_rs)]
    rfl
  have q : exSs (cxK tb k) (askedF 2 1).body [some (.tup ds)] S = .ok (.xc [some (.tup ds)] 1 []) S := by
    simp only [askedF]
    rw [exs_cons, ite_yes c, exs_cons, er]
    rfl
  rw [q, fin_xc]
  have egx : gcX S [] S = S := by unfold gcX; split <;> rfl
  rw [egx]
theorem told_x (ds es : List D) : runK tb (k + 2) 16 [.tup ds, .tup es] S = .ex 1 [] S := by
  rw [run_of t16 (k + 1) _ _ rfl]
  show finE S (exSs (cxK tb (k + 1)) (toldFileF 10 15).body [some (.tup ds), some (.tup es), none] S) = _
  have g : (den (cxK tb (k + 1)) (.na (.call 10) [(.var 0)])).e [some (.tup ds), some (.tup es), none] S = .ex 1 [] S := by
    have z : ded (cxK tb (k + 1)) [(.var 0)] [some (.tup ds), some (.tup es), none] S = .ok [.tup ds] S := ded_1 (var_v rfl)
    rw [den_na, z, bind_ok', kNa_ap]
    have q := asked_x k S ds
    rw [appA_call, show (cxK tb (k + 1)).call 10 [.tup ds] S = _ from q]
    rfl
  simp only [toldFileF]
  rw [exs_cons, ex_ex, g, cat_ex', bind_ok', seqK_xc, fin_xc]
  have egx : gcX S [] S = S := by unfold gcX; split <;> rfl
  rw [egx]
end
end Lk55
set_option Elab.async false
set_option linter.all false
set_option maxRecDepth 100000
set_option autoImplicit false
set_option maxHeartbeats 8000000
namespace Lk55
open Ev PySem
abbrev SD (bs : List Bool) : D := .tup (bs.map D.bl)
abbrev CD (cs : List (List Int)) : D := .tup (cs.map tupI)
theorem idx_t {S : Store} {ds : List D} {j : Int} {d : D} (h : L2.atI ds j = some d) : idxE S (.t (.lst ds)) (.v (.int j)) = some d := by
  show (match seqR S (.t (.lst ds)) with
    | some ds => L2.atI ds j
    | none => match objR S (.t (.lst ds)) with
      | some (.dK kvs) => valK (Sum.inl j : L2.Key) kvs
      | _ => none) = _
  exact h
theorem sm_SD (bs : List Bool) (h : bs.length ≤ 1000) : smD (SD bs) = true := by
  rw [smD, sm_bls, List.length_map, decide_eq_true (by omega)]
  rfl
theorem sm_CD (cs : List (List Int)) (h : cs.length ≤ 1000) (h2 : ∀ x ∈ cs, x.length ≤ 1000) : smD (CD cs) = true := by
  rw [smD, sm_tups _ fun x hx => by have := h2 x hx; omega, List.length_map, decide_eq_true (by omega)]
  rfl
theorem dp_SD (bs : List Bool) : dpD (SD bs) = 1 := by rw [dpD, dp_bls]
theorem dp_CD (cs : List (List Int)) : dpD (CD cs) ≤ 2 := by
  rw [dpD]
  have := dp_tups cs
  omega
theorem tup_add (S : Store) (xs ys : List D) (h : xs.length + ys.length ≤ 1000) : opE S .add (.v (.tup xs)) (.v (.tup ys)) = some (.v (.tup (xs ++ ys))) := by
  show (if xs.length + ys.length ≤ sizeLine then some (T.v (.tup (xs ++ ys))) else none) = _
  rw [if_pos (by rw [size_line]; omega)]
theorem cbB_ok (bs : List Bool) (xs : List (List Int)) (h1 : bs.length ≤ 500) (h2 : clausesL bs.length xs = true) (h3 : xs.length ≤ 1000000) : cbB (.tup (bs.map D.bl)) (.tup (xs.map tupI)) = true := by
  unfold cbB
  have e : lenD (.tup (bs.map D.bl)) = bs.length := by simp [lenD]
  rw [areFlags_bls, e, decide_eq_true h1, clausesB_tups _ _ h3, h2]
  rfl
theorem knT_ref {S : Store} {n : Nat} {o : O} (h : S[n]? = some o) (ho : (∃ ds, o = .lst ds) ∨ ∃ k, o = .dK k) : knT S (.ref n) := by
  refine ⟨?_, fun ds e => by cases e⟩
  rcases ho with ⟨ds, rfl⟩ | ⟨kv, rfl⟩
  · refine .inl ?_
    unfold tyB objR
    dsimp only
    rw [h]
    rfl
  · refine .inr ?_
    unfold tyB objR
    dsimp only
    rw [h]
    rfl
theorem knTT_ref {S : Store} {n : Nat} (h : knT S (.ref n)) : knTT S (.ref n) := ⟨h.1, fun ds e => by cases e⟩

theorem fil_sm {S : Store} {d : D} (h : smD d = true) (hl : ∀ ds, d = .tup ds → ds.length ≤ 500) : filOk S d := ⟨knw_pl (sm_pl d h), fun ds e => ⟨hl ds e, fun x hx => by
  subst e
  rw [smD, Bool.and_eq_true] at h
  exact stp_sm (smDs_mem h.2 x hx)⟩⟩
theorem fil_app {S : Store} {d : D} (T : List O) (h : filOk S d) : filOk (S ++ T) d := ⟨knw_app T h.1, fun ds e => ⟨(h.2 ds e).1, fun x hx => ((h.2 ds e).2 x hx).app T⟩⟩
theorem fil_ref {S : Store} {n : Nat} (h : knT S (.ref n)) : filOk S (.ref n) := ⟨h.1, fun ds e => by cases e⟩
theorem stp_ref {S : Store} {n : Nat} (h : knT S (.ref n)) : stpOk S (.ref n) := ⟨knTT_ref h, fun ds x e => by cases e⟩
theorem fil_tup {S : Store} {ds : List D} (hl : ds.length ≤ 500) (h : ∀ x ∈ ds, stpOk S x) : filOk S (.tup ds) := ⟨trivial, fun es e => by
  cases e
  exact ⟨hl, h⟩⟩
theorem splFil (b : Nat) (hb : b < 14) (S : Store) : ∃ T, gc S ((spl S.length)[b]'hb) (S ++ splT S.length) = S ++ T ∧ filOk (S ++ T) ((spl S.length)[b]'hb) := by
  have pl : ∀ d : D, smD d = true → (∀ ds, d = .tup ds → ds.length ≤ 500) → ∃ T, gc S d (S ++ splT S.length) = S ++ T ∧ filOk (S ++ T) d := by
    intro d h1 h2
    refine ⟨[], ?_, fil_sm h1 h2⟩
    rw [gc_app, if_pos (noRef_of _ _ (sm_pl d h1)), List.append_nil]
  have big : ∀ d : D, noRef S.length d = false → gc S d (S ++ splT S.length) = S ++ splT S.length := fun d h => by
    rw [gc_app, if_neg (by rw [h]; simp)]
  have o0 : (S ++ splT S.length)[S.length]? = some (.lst []) := by simp [splT]
  have o1 : (S ++ splT S.length)[S.length + 1]? = some (.dK []) := by simp [splT, List.getElem?_append]
  have o3 : (S ++ splT S.length)[S.length + 3]? = some (.lst []) := by simp [splT, List.getElem?_append]
  have hs0 : PyData.strOk "0" = true := strOk_of "0"
  have hs1 : PyData.strOk "and" = true := strOk_of "and"
  have ht : ∀ (es : List D), es.length ≤ 500 → ∀ ds, D.tup es = .tup ds → ds.length ≤ 500 := fun es h ds e => by cases e; exact h
  match b, hb with
  | 0, _ => exact pl .non rfl (fun _ e => by cases e)
  | 1, _ => exact pl (.bl true) rfl (fun _ e => by cases e)
  | 2, _ => exact pl (.int (-1)) rfl (fun _ e => by cases e)
  | 3, _ => exact pl (.str "0") (by simp [smD, hs0]) (fun _ e => by cases e)
  | 4, _ => exact pl (.tup []) (by simp [smD, smDs]) (ht _ (by simp))
  | 5, _ => exact ⟨splT S.length, big _ (by simp [spl, noRef]), fil_ref (knT_ref o0 (.inl ⟨_, rfl⟩))⟩
  | 6, _ => exact pl (.tup [.int 0, .bl true]) (by simp [smD, smDs]) (ht _ (by simp))
  | 7, _ => exact ⟨splT S.length, big _ (by simp [spl, noRef]), fil_ref (knT_ref o1 (.inr ⟨_, rfl⟩))⟩
  | 8, _ => exact pl (.tup [.tup []]) (by simp [smD, smDs]) (ht _ (by simp))
  | 9, _ => exact pl (.str "and") (by simp [smD, hs1]) (fun _ e => by cases e)
  | 10, _ => exact pl (.int 1000000000000000000000000000000) rfl (fun _ e => by cases e)
  | 11, _ => exact ⟨splT S.length, big _ (by simp [spl, noRef, noRefs]), fil_tup (by simp) fun x hx => by
      rw [List.mem_singleton.mp hx]
      exact stp_ref (knT_ref o3 (.inl ⟨_, rfl⟩))⟩
  | 12, _ => exact pl (.tup [.non]) (by simp [smD, smDs]) (ht _ (by simp))
  | 13, _ => exact pl (.tup [.tup [.int 0]]) (by simp [smD, smDs]) (ht _ (by simp))
  | n + 14, h => omega
/-! the law, statement by statement -/
abbrev fls : List Sx := [.ret (.cst (.bl false))]
def w1 : Sx := .set (.var 1) (.na (.call 18) [(.na (.call 17) [(.var 0), (.cst (.int 0))]), (.na .lst [(.cst (.int 8)), (.cst (.int 14)), (.cst (.int 13)), (.cst (.int 10))])])
def w2 : Sx := .set (.tup [(.var 2), (.var 3)]) (.na (.call 30) [(.na (.call 17) [(.var 0), (.cst (.int 1))]), (.nd (.op .add) [(.cst (.int 1)), (.nd .idx [(.var 1), (.cst (.int 0))])]), (.cst (.int 12)), (.cst (.int 3))])
def w3 : Sx := .set (.var 4) (.na (.mk 2) [(.var 2), (.var 3)])
def w4 : Sx := .set (.var 5) (.na (.call 31) [(.na (.call 17) [(.var 0), (.cst (.int 2))]), (.var 2), (.var 3)])
def w5 : Sx := .set (.var 6) (.nd (.op .mod) [(.nd .idx [(.var 1), (.cst (.int 2))]), (.nd (.op .add) [(.nd (.bi .len) [(.var 5)]), (.cst (.int 1))])])
def w6e : Ex := .na .lst [(.na .tup [(.cst (.str "given")), (.na .tup [(.cst (.int 0)), (.cst (.int 1))])]), (.na .tup [(.cst (.str "join")), (.cst (.int 0)), (.cst (.int 0)), (.cst (.int 0))]), (.na .tup [(.cst (.str "drop")), (.cst (.int 0))]), (.na .tup [(.cst (.str "drop")), (.cst (.int 99))]), (.na .tup [(.cst (.str "join")), (.cst (.int 0)), (.cst (.int 1)), (.cst (.int 99))]), (.na .tup [(.cst (.str "leaf")), (.na .tup [])])]
def w7e : Ex := .na .lst [(.na .tup [(.cst (.str "given"))]), (.na .lst [(.cst (.str "drop")), (.cst (.int 0))]), (.na .tup [(.cst (.str "drop")), (.cst (.bl true))]), (.na .tup [(.cst (.str "join")), (.cst (.int 0)), (.cst (.int 1))])]
def w6 : Sx := .set (.var 7) w6e
def w7 : Sx := .set (.var 7) (.nd (.op .add) [(.var 7), w7e])
def w8e : Ex := .nd (.op .add) [(.nd (.op .add) [(.nd (.slc 2) [(.var 5), (.var 6)]), (.na .tup [(.nd .idx [(.var 7), (.nd .idx [(.var 1), (.cst (.int 3))])])])]), (.nd (.slc 1) [(.var 5), (.var 6)])]
def w8 : Sx := .set (.var 8) (.na .lst [(.var 5), (.nd (.bi .list) [(.var 5)]), (.nd (.slc 1) [(.var 5), (.cst (.int 1))]), w8e, (.na (.call 21) [(.nd .idx [(.var 1), (.cst (.int 1))])])])
def w9b : List Sx := [.set (.var 10) (.na (.call 27) [(.var 2), (.var 3), (.var 9)]), .ite (.nd (.cmp .nis) [(.var 10), (.cst (.non))]) [.set (.var 10) (.nd (.bi .tuple) [(.var 10)])] [], .ite (.not (.na (.call 19) [(.na (.call 16) [(.var 4), (.var 9)]), (.var 10)])) fls []]
def w9 : Sx := .fr (.var 9) .seq [(.nd (.op .add) [(.var 8), (.na .lst [(.nd (.op .add) [(.var 5), (.nd (.slc 1) [(.var 5), (.nd .neg [(.cst (.int 1))])])]), (.nd .bk [(.var 5)])])])] w9b
def w10 : Sx := .tr [.ex (.na (.call 16) [(.var 5), (.var 5)])] 0 11 [1]
theorem lawB : d32.body = [w1, w2, w3, w4, w5, w6, w7, w8, w9, w10, .ret (.cst (.bl false))] := rfl
noncomputable abbrev C (k : Nat) : Cxt := cxK tb (k + 10)
/-- w1, w2: sides and clauses -/
theorem begin_ (k : Nat) (ns : List Int) : ∃ (a b c d : Nat) (bs : List Bool) (cs : List (List Int)) (S : Store), a < 8 ∧ b < 14 ∧ c < 13 ∧ d < 10 ∧ bs.length = a + 1 ∧ clausesL (a + 1 : Nat) cs = true ∧ cs.length ≤ 12 ∧ (∀ x ∈ cs, x.length ≤ 3) ∧ S[2]? = some (.lst [.int a, .int b, .int c, .int d]) ∧ S[0]? = some (.lk (.lst (ns.map D.int))) ∧
    ∀ r, exSs (C k) (w1 :: w2 :: r) [some (.ref 0), none, none, none, none, none, none, none, none, none, none, none] (scr ns) =
      exSs (C k) r [some (.ref 0), some (.ref 2), some (SD bs), some (CD cs), none, none, none, none, none, none, none, none] S := by
  have c0 : runK tb (k + 10) 17 [.ref 0, .int 0] (scr ns) = .ok (.int (ns.getD 0 0)) (scr ns) := cellS t17 (k + 9) ns 0 0 (scr ns) rfl
  obtain ⟨row, hB, eR⟩ := rowS t18 (k + 9) (ns.getD 0 0) 1 [8, 14, 13, 10] (scr ns ++ [.lst (([8, 14, 13, 10] : List Int).map D.int)]) rfl (fun x hx => by
    simp at hx
    rcases hx with rfl | rfl | rfl | rfl <;> omega) (by simp)
  match row, hB with
  | [a, b, c, d], ⟨h0, h1, h2, h3, _⟩ =>
    obtain ⟨a, rfl⟩ : ∃ n : Nat, a = (n : Int) := ⟨a.toNat, by omega⟩
    obtain ⟨b, rfl⟩ : ∃ n : Nat, b = (n : Int) := ⟨b.toNat, by omega⟩
    obtain ⟨c, rfl⟩ : ∃ n : Nat, c = (n : Int) := ⟨c.toNat, by omega⟩
    obtain ⟨d, rfl⟩ : ∃ n : Nat, d = (n : Int) := ⟨d.toNat, by omega⟩
    obtain ⟨S, hS⟩ : ∃ S, S = scr ns ++ [O.lst (([8, 14, 13, 10] : List Int).map D.int)] ++ [.lst (([(a : Int), b, c, d] : List Int).map D.int)] := ⟨_, rfl⟩
    have hS2 : S[2]? = some (.lst [.int a, .int b, .int c, .int d]) := by rw [hS]; rfl
    have hS0 : S[0]? = some (.lk (.lst (ns.map D.int))) := by rw [hS]; rfl
    have c1 : runK tb (k + 10) 17 [.ref 0, .int 1] S = .ok (.int (ns.getD 1 0)) S := cellS t17 (k + 9) ns 0 1 S hS0
    obtain ⟨bs, cs, q1, q2, q3, q4, q5⟩ := cbkS t18 t28 t22 t29 t30 (k + 6) (ns.getD 1 0) (a + 1) 12 3 S (by omega) (by omega) (by omega)
    have f1 : exS (C k) w1 [some (.ref 0), none, none, none, none, none, none, none, none, none, none, none] (scr ns) = .ok (.nx [some (.ref 0), some (.ref 2), none, none, none, none, none, none, none, none, none, none]) S := by
      have x1 := lst_1 (cx := C k) (es := [(.cst (.int 8)), (.cst (.int 14)), (.cst (.int 13)), (.cst (.int 10))]) (σ := [some (.ref 0), none, none, none, none, none, none, none, none, none, none, none]) (S := scr ns) (ded_c cst_v (ded_c cst_v (ded_c cst_v (ded_1 cst_v)))) (by simp)
      have x2 := call_d (cx := C k) (f := 17) (es := [(.var 0), (.cst (.int 0))]) (σ := [some (.ref 0), none, none, none, none, none, none, none, none, none, none, none]) (ded_c (var_v rfl) (ded_1 cst_v)) c0
      have hlen : (scr ns ++ [O.lst (([8, 14, 13, 10] : List Int).map D.int)]).length = 2 := rfl
      rw [hlen, ← hS] at eR
      exact set_v (call_d (cx := C k) (f := 18) (ds := [.int (ns.getD 0 0), .ref 1]) (S1 := scr ns ++ [O.lst (([8, 14, 13, 10] : List Int).map D.int)]) (d := .ref 2) (S2 := S) (ded_c x2 (ded_1 x1)) eR) (by simp)
    have f3 : exS (C k) w2 [some (.ref 0), some (.ref 2), none, none, none, none, none, none, none, none, none, none] S = .ok (.nx [some (.ref 0), some (.ref 2), some (SD bs), some (CD cs), none, none, none, none, none, none, none, none]) S := by
      have x2 := call_d (cx := C k) (f := 17) (es := [(.var 0), (.cst (.int 1))]) (σ := [some (.ref 0), some (.ref 2), none, none, none, none, none, none, none, none, none, none]) (ded_c (var_v rfl) (ded_1 cst_v)) c1
      have x3 : (den (C k) (.nd (.op .add) [(.cst (.int 1)), (.nd .idx [(.var 1), (.cst (.int 0))])])).e [some (.ref 0), some (.ref 2), none, none, none, none, none, none, none, none, none, none] S = .ok (.v (.int ((a + 1 : Nat) : Int))) S := by
        refine op_2 cst_v (idx_2 (var_v rfl) cst_v (idx_lst hS2 (atI_get [D.int a, .int b, .int c, .int d] 0 (by simp)))) ?_
        have : (1 : Int) + (a : Int) = ((a + 1 : Nat) : Int) := by omega
        show opE S .add (.v (.int 1)) (.v (.int (a : Int))) = _
        rw [opE_int, opI_add, this]
        rfl
      have x4 := call_d (d := .tup [SD bs, CD cs]) (S2 := S) (cx := C k) (f := 30) (ded_c x2 (ded_c x3 (ded_c (cst_v (d := .int 12)) (ded_1 (cst_v (d := .int 3)))))) q5
      simp only [w2, exS]
      rw [x4]
      rfl
    refine ⟨a, b, c, d, bs, cs, S, by omega, by omega, by omega, by omega, q1, q2, q3, q4, hS2, hS0, fun r => ?_⟩
    rw [set_stm f1, set_stm f3]
section
variable {k a b c d : Nat} {bs : List Bool} {cs : List (List Int)} {S : Store}
theorem pw3 (hb : bs.length ≤ 400) (h1 : clausesL bs.length cs = true) (h2 : cs.length ≤ 12) (h3 : ∀ x ∈ cs, x.length ≤ 3) (x0 x1 x4 x5 x6 x7 x8 x9 x10 x11 : Option D) :
    exS (C k) w3 [x0, x1, some (SD bs), some (CD cs), x4, x5, x6, x7, x8, x9, x10, x11] S = .ok (.nx [x0, x1, some (SD bs), some (CD cs), some (.ref S.length), x5, x6, x7, x8, x9, x10, x11]) (S ++ [.ins 2 [(0, SD bs), (1, CD cs)]]) := by
  have e := cbMakS B (k + 3) (SD bs) (CD cs) S (knT_sm (sm_SD bs (by omega))) (knTT_sm (sm_CD cs (by omega) fun x hx => by have := h3 x hx; omega))
  rw [cbB_ok bs cs (by omega) h1 (by omega), if_pos rfl] at e
  exact set_v (mk_d (cx := C k) (c := 2) (ded_c (var_v rfl) (ded_1 (var_v rfl))) e) (by simp)
theorem pw4 (ns : List Int) (hn : S[0]? = some (.lk (.lst (ns.map D.int)))) (hb : bs.length ≤ 30) (h3 : ∀ x ∈ cs, x.length ≤ 3) (x1 x4 x5 x6 x7 x8 x9 x10 x11 : Option D) :
    ∃ ds : List D, (∀ d ∈ ds, gdS d) ∧ ds.length ≤ 12 ∧ exS (C k) w4 [some (.ref 0), x1, some (SD bs), some (CD cs), x4, x5, x6, x7, x8, x9, x10, x11] S = .ok (.nx [some (.ref 0), x1, some (SD bs), some (CD cs), x4, some (.tup ds), x6, x7, x8, x9, x10, x11]) S := by
  obtain ⟨ds, g1, g2, g3⟩ := stepsS t18 t31 (k + 8) bs cs (ns.getD 2 0) S (fun xs ys f S hl => lawJoinedS t24 (k + 8) xs ys f S hl) (fun xs S hx hl => lawDroppedS t25 (k + 8) bs xs S hx hl)
    (fun S d hd => due_ (k + 5) bs cs S d hb hd) hb (fun x hx => by have := h3 x hx; omega)
  have c0 : runK tb (k + 10) 17 [.ref 0, .int 2] S = .ok (.int (ns.getD 2 0)) S := cellS t17 (k + 9) ns 0 2 S hn
  have x2 := call_d (cx := C k) (f := 17) (es := [(.var 0), (.cst (.int 2))]) (σ := [some (.ref 0), x1, some (SD bs), some (CD cs), x4, x5, x6, x7, x8, x9, x10, x11]) (ded_c (var_v rfl) (ded_1 cst_v)) c0
  exact ⟨ds, g1, g2, set_v (call_d (cx := C k) (f := 31) (ded_c x2 (ded_c (e := .var 2) (var_v rfl) (ded_1 (e := .var 3) (var_v rfl)))) g3) (by simp)⟩
theorem pw5 (ds : List D) (h1 : S[2]? = some (.lst [.int a, .int b, .int c, .int d])) (x0 x2 x3 x4 x6 x7 x8 x9 x10 x11 : Option D) :
    exS (C k) w5 [x0, some (.ref 2), x2, x3, x4, some (.tup ds), x6, x7, x8, x9, x10, x11] S = .ok (.nx [x0, some (.ref 2), x2, x3, x4, some (.tup ds), some (.int ((c % (ds.length + 1) : Nat) : Int)), x7, x8, x9, x10, x11]) S := by
  have e1 := idx_2 (cx := C k) (e := .var 1) (e' := .cst (.int 2)) (σ := [x0, some (.ref 2), x2, x3, x4, some (.tup ds), x6, x7, x8, x9, x10, x11]) (var_v rfl) cst_v (idx_lst h1 (atI_get [D.int a, .int b, .int c, .int d] 2 (by simp)))
  have e2 : (den (C k) (.nd (.op .add) [(.nd (.bi .len) [(.var 5)]), (.cst (.int 1))])).e [x0, some (.ref 2), x2, x3, x4, some (.tup ds), x6, x7, x8, x9, x10, x11] S = .ok (.v (.int ((ds.length + 1 : Nat) : Int))) S := op_2 (bi_1 (var_v rfl) (len_tup S ds)) cst_v (by
    show opE S .add (.v (.int (ds.length : Int))) (.v (.int 1)) = _
    rw [opE_int, opI_add]
    rfl)
  refine set_v (op_2 e1 e2 (r := .v (.int ((c % (ds.length + 1) : Nat) : Int))) ?_) (by simp)
  show opE S .mod (.v (.int (c : Int))) (.v (.int ((ds.length + 1 : Nat) : Int))) = _
  rw [opE_int, opI_mod (by omega), Int.natCast_emod]
  rfl
def bd6 : List D := [.tup [.str "given", .tup [.int 0, .int 1]], .tup [.str "join", .int 0, .int 0, .int 0], .tup [.str "drop", .int 0], .tup [.str "drop", .int 99], .tup [.str "join", .int 0, .int 1, .int 99], .tup [.str "leaf", .tup []]]
def bd4 (L : Nat) : List D := [.tup [.str "given"], .ref L, .tup [.str "drop", .bl true], .tup [.str "join", .int 0, .int 1]]
def drp0 : O := .lst [.str "drop", .int 0]
theorem pw6 (x0 x1 x2 x3 x4 x5 x6 x7 x8 x9 x10 x11 : Option D) :
    exS (C k) w6 [x0, x1, x2, x3, x4, x5, x6, x7, x8, x9, x10, x11] S = .ok (.nx [x0, x1, x2, x3, x4, x5, x6, some (.ref S.length), x8, x9, x10, x11]) (S ++ [.lst bd6]) := by
  have e : (den (C k) w6e).e [x0, x1, x2, x3, x4, x5, x6, x7, x8, x9, x10, x11] S = .ok (.t (.lst bd6)) S := by
    simp [w6e, size_line, bd6]
  exact set_v e (by simp)
theorem pw7 (n : Nat) (hn : S[n]? = some (.lst bd6)) (x0 x1 x2 x3 x4 x5 x6 x8 x9 x10 x11 : Option D) :
    exS (C k) w7 [x0, x1, x2, x3, x4, x5, x6, some (.ref n), x8, x9, x10, x11] S = .ok (.nx [x0, x1, x2, x3, x4, x5, x6, some (.ref (S.length + 1)), x8, x9, x10, x11]) (S ++ [drp0, .lst (bd6 ++ bd4 S.length)]) := by
  have e : (den (C k) w7e).e [x0, x1, x2, x3, x4, x5, x6, some (.ref n), x8, x9, x10, x11] S = .ok (.t (.lst (bd4 S.length))) (S ++ [drp0]) := by
    simp [w7e, size_line, bd4, drp0]
  have e1 : opE (S ++ [drp0]) .add (.v (.ref n)) (.t (.lst (bd4 S.length))) = some (.t (.lst (bd6 ++ bd4 S.length))) := by
    have g1 : lstW (S ++ [drp0]) (.v (.ref n)) = some bd6 := by
      have := app_at hn [drp0]
      simp [lstW, objW, this]
    have g2 : lstW (S ++ [drp0]) (.t (.lst (bd4 S.length))) = some (bd4 S.length) := rfl
    show (match lstW _ _, lstW _ _ with
      | some xs, some ys => if xs.length + ys.length ≤ sizeLine then some (T.t (.lst (xs ++ ys))) else none
      | _, _ => none) = _
    rw [g1, g2]
    dsimp only
    rw [if_pos (by rw [size_line]; simp [bd6, bd4])]
  have f := set_v (cx := C k) (j := 7) (op_2 (e := .var 7) (var_v rfl) e e1) (by simp)
  rw [alloc_t] at f
  have n1 : (S ++ [drp0]).length = S.length + 1 := by simp
  have n2 : S ++ [drp0] ++ [O.lst (bd6 ++ bd4 S.length)] = S ++ [drp0, .lst (bd6 ++ bd4 S.length)] := by simp
  dsimp only at f
  rw [n1, n2] at f
  exact f
end
end Lk55
set_option Elab.async false
set_option linter.all false
set_option maxRecDepth 100000
set_option autoImplicit false
set_option maxHeartbeats 8000000
namespace Lk55
open Ev PySem
theorem asc_pws : ∀ xs : List (List Int), asc HT.lexLt xs = true → xs.Pairwise (fun a b => HT.lexLt a b = true)
  | [], _ => .nil
  | [a], _ => List.pairwise_singleton _ _
  | a :: b :: r, h => by
    rw [asc, Bool.and_eq_true] at h
    have ih := asc_pws (b :: r) h.2
    have O := NtL.swo_lexL (fun z : List Int => z)
    refine List.pairwise_cons.mpr ⟨fun c hc => ?_, ih⟩
    rcases List.mem_cons.mp hc with rfl | hc
    · exact h.1
    · exact O.ltle h.1 (O.asym _ _ ((List.pairwise_cons.mp ih).1 c hc))
theorem clausesL_nodup {m : Int} {xs : List (List Int)} (h : clausesL m xs = true) : xs.Nodup := by
  rw [clausesL, Bool.and_eq_true] at h
  refine (asc_pws xs h.2).imp fun {a b} z e => ?_
  subst e
  have := (NtL.swo_lexL (fun z : List Int => z)).refl a
  rw [this] at z
  cases z
theorem cut_mem {xs : List D} {lo hi : Option Int} {x : D} (h : x ∈ cut xs lo hi) : x ∈ xs := List.mem_of_mem_drop (List.mem_of_mem_take h)
theorem cut_len (xs : List D) (lo hi : Option Int) : (cut xs lo hi).length ≤ xs.length := by
  unfold cut
  rw [List.length_take, List.length_drop]
  omega
theorem lst_add {S : Store} {n : Nat} {xs : List D} (ys : List D) (hn : S[n]? = some (.lst xs)) (h : xs.length + ys.length ≤ 1000) : opE S .add (.v (.ref n)) (.t (.lst ys)) = some (.t (.lst (xs ++ ys))) := by
  have g1 : lstW S (.v (.ref n)) = some xs := by simp [lstW, objW, hn]
  have g2 : lstW S (.t (.lst ys)) = some ys := rfl
  show (match lstW _ _, lstW _ _ with
    | some xs, some ys => if xs.length + ys.length ≤ sizeLine then some (T.t (.lst (xs ++ ys))) else none
    | _, _ => none) = _
  rw [g1, g2]
  dsimp only
  rw [if_pos (by rw [size_line]; omega)]
theorem bd_ok {S : Store} {L : Nat} (hL : S[L]? = some drp0) : ∀ x ∈ bd6 ++ bd4 L, stpOk S x := by
  intro x hx
  have s1 : PyData.strOk "given" = true := strOk_of "given"
  have s2 : PyData.strOk "join" = true := strOk_of "join"
  have s3 : PyData.strOk "drop" = true := strOk_of "drop"
  have s4 : PyData.strOk "leaf" = true := strOk_of "leaf"
  simp only [bd6, bd4, List.cons_append, List.nil_append, List.mem_cons, List.not_mem_nil, or_false] at hx
  rcases hx with rfl | rfl | rfl | rfl | rfl | rfl | rfl | rfl | rfl | rfl
  case inr.inr.inr.inr.inr.inr.inr.inl => exact stp_ref (knT_ref hL (.inl ⟨_, rfl⟩))
  all_goals exact stp_sm (by simp [smD, smDs, s1, s2, s3, s4])
section
variable {k a b c d : Nat} {bs : List Bool} {cs : List (List Int)} {S : Store}
def thg (ds : List D) (L m : Nat) (x z : D) : List D := [.tup ds, .ref L, .tup (cut ds (some 1) none), .tup (cut ds none (some (m : Int)) ++ [x] ++ cut ds (some (m : Int)) none), z]
theorem pw8 (ds : List D) (hl : ds.length ≤ 12) (m n L : Nat) (hn : S[n]? = some (.lst (bd6 ++ bd4 L))) (h1 : S[2]? = some (.lst [.int a, .int b, .int c, .int d])) (hb : b < 14) (hd : d < 10) (x0 x2 x3 x4 x8 x9 x10 x11 : Option D) :
    ∃ (x z : D) (T : List O), x ∈ bd6 ++ bd4 L ∧ filOk (S ++ [O.lst ds] ++ T) z ∧ exS (C k) w8 [x0, some (.ref 2), x2, x3, x4, some (.tup ds), some (.int m), some (.ref n), x8, x9, x10, x11] S = .ok (.nx [x0, some (.ref 2), x2, x3, x4, some (.tup ds), some (.int m), some (.ref n), some (.ref (S ++ [O.lst ds] ++ T).length), x9, x10, x11]) (S ++ [O.lst ds] ++ T ++ [O.lst (thg ds S.length m x z)]) := by
  obtain ⟨S1, hS1⟩ : ∃ S1, S1 = S ++ [O.lst ds] := ⟨_, rfl⟩
  obtain ⟨T, e9, f9⟩ := splFil b hb S1
  have hlen : (bd6 ++ bd4 L).length = 10 := rfl
  have hx : (bd6 ++ bd4 L)[d]'(by omega) ∈ bd6 ++ bd4 L := List.getElem_mem _
  have hat := atI_get (bd6 ++ bd4 L) d (by omega)
  have r : runK tb (k + 10) 21 [.int b] S1 = _ := spoiled (k + 9) b S1 hb
  rw [e9] at r
  generalize (spl S1.length)[b]'hb = z at r f9
  generalize (bd6 ++ bd4 L)[d]'(by omega) = x at hx hat
  refine ⟨x, z, T, hx, by rw [← hS1]; exact f9, ?_⟩
  have h1' : S1[2]? = some (.lst [.int a, .int b, .int c, .int d]) := by rw [hS1]; exact app_at h1 _
  have hn' : S1[n]? = some (.lst (bd6 ++ bd4 L)) := by rw [hS1]; exact app_at hn _
  have i2 : (den (C k) (.nd (.bi .list) [(.var 5)])).e [x0, some (.ref 2), x2, x3, x4, some (.tup ds), some (.int m), some (.ref n), x8, x9, x10, x11] S = .ok (.t (.lst ds)) S := bi_1 (var_v rfl) rfl
  have i3 : (den (C k) (.nd (.slc 1) [(.var 5), (.cst (.int 1))])).e [x0, some (.ref 2), x2, x3, x4, some (.tup ds), some (.int m), some (.ref n), x8, x9, x10, x11] S1 = .ok (.v (.tup (cut ds (some 1) none))) S1 := by
    rw [nd_2 (var_v rfl) cst_v, app_slc1]
    rfl
  have j1 : (den (C k) (.nd (.slc 2) [(.var 5), (.var 6)])).e [x0, some (.ref 2), x2, x3, x4, some (.tup ds), some (.int m), some (.ref n), x8, x9, x10, x11] S1 = .ok (.v (.tup (cut ds none (some (m : Int))))) S1 := by
    rw [nd_2 (var_v rfl) (var_v rfl), app_slc2]
    rfl
  have j3 : (den (C k) (.nd (.slc 1) [(.var 5), (.var 6)])).e [x0, some (.ref 2), x2, x3, x4, some (.tup ds), some (.int m), some (.ref n), x8, x9, x10, x11] S1 = .ok (.v (.tup (cut ds (some (m : Int)) none))) S1 := by
    rw [nd_2 (var_v rfl) (var_v rfl), app_slc1]
    rfl
  have j2 : (den (C k) (.nd .idx [(.var 7), (.nd .idx [(.var 1), (.cst (.int 3))])])).e [x0, some (.ref 2), x2, x3, x4, some (.tup ds), some (.int m), some (.ref n), x8, x9, x10, x11] S1 = .ok (.v x) S1 :=
    idx_2 (var_v rfl) (idx_2 (var_v rfl) cst_v (idx_lst h1' (atI_get [D.int a, .int b, .int c, .int d] 3 (by simp)))) (idx_lst hn' hat)
  have l1 := cut_len ds none (some (m : Int))
  have l2 := cut_len ds (some (m : Int)) none
  have i4 : (den (C k) w8e).e [x0, some (.ref 2), x2, x3, x4, some (.tup ds), some (.int m), some (.ref n), x8, x9, x10, x11] S1 = .ok (.v (.tup (cut ds none (some (m : Int)) ++ [x] ++ cut ds (some (m : Int)) none))) S1 :=
    op_2 (op_2 j1 (tup_1 (ded_1 j2) (by simp)) (tup_add S1 _ [x] (by rw [List.length_singleton]; omega))) j3 (tup_add S1 _ _ (by rw [List.length_append, List.length_singleton]; omega))
  have i5 := call_d (cx := C k) (f := 21) (ded_1 (idx_2 (cx := C k) (e := .var 1) (e' := .cst (.int 1)) (σ := [x0, some (.ref 2), x2, x3, x4, some (.tup ds), some (.int m), some (.ref n), x8, x9, x10, x11]) (var_v rfl) cst_v (idx_lst h1' (atI_get [D.int a, .int b, .int c, .int d] 1 (by simp))))) r
  rw [hS1] at i3 i4 i5
  have q := lst_1 (cx := C k) (ded_c (e := .var 5) (σ := [x0, some (.ref 2), x2, x3, x4, some (.tup ds), some (.int m), some (.ref n), x8, x9, x10, x11]) (S := S) (var_v rfl) (ded_c i2 (ded_c i3 (ded_c i4 (ded_1 i5))))) (by simp)
  exact set_v q (by simp)
theorem same_ (k : Nat) (d : D) (S : Store) (h1 : smD d = true) (h2 : dpD d ≤ 2) : runK tb (k + 10) 19 [d, d] S = .ok (.bl true) S := sameS t19 2 (k + 7) d S h1 h2
theorem fileD_sm (hb : bs.length ≤ 30) {z : D} (hz : filOk S z) {rows : List (List Int)} (h : fileD bs cs z = some rows) : smD (CD rows) = true := by
  cases z with
  | tup ds =>
    obtain ⟨r1, r2⟩ := fileV_ok hb ds [] rows (fun r h => absurd h (by simp)) h
    have := (hz.2 ds rfl).1
    refine sm_CD rows (by rw [r2]; simp; omega) fun x hx => ?_
    have := clause_len (r1 x hx)
    omega
  | _ => cases h
theorem turn_ (n : Nat) (hn : S[n]? = some (.ins 2 [(0, SD bs), (1, CD cs)])) (hb : bs.length ≤ 30) (hc : cs.Nodup) (hcl : cs.length ≤ 1000) (z : D) (hz : filOk S z) (x0 x1 x5 x6 x7 x8 x10 x11 : Option D) :
    ∃ (T : List O) (y10 : Option D), exSs (C k) w9b [x0, x1, some (SD bs), some (CD cs), some (.ref n), x5, x6, x7, x8, some z, x10, x11] S = .ok (.nx [x0, x1, some (SD bs), some (CD cs), some (.ref n), x5, x6, x7, x8, some z, y10, x11]) (S ++ T) := by
  have e1 := due_ (k + 6) bs cs S z hb hz
  have e1' : (C k).call 27 [SD bs, CD cs, z] S = match fileD bs cs z with
      | none => .ok .non S
      | some rows => .ok (.ref S.length) (S ++ [.lst (rows.map tupI)]) := e1
  unfold w9b
  cases hv : fileD bs cs z with
  | none =>
    rw [hv] at e1'
    have f1 := set_v (cx := C k) (j := 10) (call_d (f := 27) (ded_c (e := .var 2) (σ := [x0, x1, some (SD bs), some (CD cs), some (.ref n), x5, x6, x7, x8, some z, x10, x11]) (S := S) (var_v rfl) (ded_c (e := .var 3) (var_v rfl) (ded_1 (e := .var 9) (var_v rfl)))) e1') (by simp)
    have c2 := b_nd (cmp_2 (cx := C k) (o := .nis) (e := .var 10) (σ := [x0, x1, some (SD bs), some (CD cs), some (.ref n), x5, x6, x7, x8, some z, some .non, x11]) (S := S) (var_v rfl) (cst_v (d := .non)) (own_nis _ _ _ _) (c := false) rfl)
    have e3 := told_ (k + 3) bs cs S z hb hc hcl n hn hz
    rw [hv] at e3
    have g3 := call_d (cx := C k) (f := 16) (ded_c (e := .var 4) (σ := [x0, x1, some (SD bs), some (CD cs), some (.ref n), x5, x6, x7, x8, some z, some .non, x11]) (var_v rfl) (ded_1 (e := .var 9) (var_v rfl))) e3
    have c3 := b_not (b_na (call_d (cx := C k) (f := 19) (ded_c g3 (ded_1 (e := .var 10) (var_v rfl))) (same_ k .non S rfl (by simp [dpD]))))
    refine ⟨[], some .non, ?_⟩
    rw [set_stm f1]
    show exSs (C k) _ [x0, x1, some (SD bs), some (CD cs), some (.ref n), x5, x6, x7, x8, some z, some .non, x11] S = _
    rw [set_stm (ite_no c2), set_stm (ite_no c3), exs_nil, List.append_nil]
  | some rows =>
    rw [hv] at e1'
    have f1 := set_v (cx := C k) (j := 10) (call_d (f := 27) (ded_c (e := .var 2) (σ := [x0, x1, some (SD bs), some (CD cs), some (.ref n), x5, x6, x7, x8, some z, x10, x11]) (S := S) (var_v rfl) (ded_c (e := .var 3) (var_v rfl) (ded_1 (e := .var 9) (var_v rfl)))) e1') (by simp)
    obtain ⟨S1, hS1⟩ : ∃ S1, S1 = S ++ [O.lst (rows.map tupI)] := ⟨_, rfl⟩
    have hR : S1[S.length]? = some (.lst (rows.map tupI)) := by rw [hS1]; simp
    have c2 := b_nd (cmp_2 (cx := C k) (o := .nis) (e := .var 10) (σ := [x0, x1, some (SD bs), some (CD cs), some (.ref n), x5, x6, x7, x8, some z, some (.ref S.length), x11]) (S := S1) (var_v rfl) (cst_v (d := .non)) (own_nis _ _ _ _) (c := true) rfl)
    have t2 := bi_1 (cx := C k) (b := .tuple) (e := .var 10) (σ := [x0, x1, some (SD bs), some (CD cs), some (.ref n), x5, x6, x7, x8, some z, some (.ref S.length), x11]) (S := S1) (r := .v (CD rows)) (var_v rfl) (by
      have g : seqR S1 (.v (.ref S.length)) = some (rows.map tupI) := by simp [seqR, lstR, objR, unlk, hR]
      show (seqR S1 _).map _ = _
      rw [g]
      rfl)
    have f2 := (ite_yes (b := []) c2).trans (set_stm (r := []) (set_v (j := 10) t2 (by simp)))
    rw [exs_nil] at f2
    have hz1 : filOk S1 z := by rw [hS1]; exact fil_app _ hz
    have hn1 : S1[n]? = some (.ins 2 [(0, SD bs), (1, CD cs)]) := by rw [hS1]; exact app_at hn _
    have e3 := told_ (k + 3) bs cs S1 z hb hc hcl n hn1 hz1
    rw [hv] at e3
    have g3 := call_d (cx := C k) (f := 16) (ded_c (e := .var 4) (σ := [x0, x1, some (SD bs), some (CD cs), some (.ref n), x5, x6, x7, x8, some z, some (CD rows), x11]) (var_v rfl) (ded_1 (e := .var 9) (var_v rfl))) e3
    have c3 := b_not (b_na (call_d (cx := C k) (f := 19) (ded_c g3 (ded_1 (e := .var 10) (var_v rfl))) (same_ k (CD rows) S1 (fileD_sm hb hz hv) (dp_CD rows))))
    refine ⟨[.lst (rows.map tupI)], some (CD rows), ?_⟩
    rw [set_stm f1]
    show exSs (C k) _ [x0, x1, some (SD bs), some (CD cs), some (.ref n), x5, x6, x7, x8, some z, some (.ref S.length), x11] (S ++ [O.lst (rows.map tupI)]) = _
    rw [← hS1, set_stm f2]
    show exSs (C k) _ [x0, x1, some (SD bs), some (CD cs), some (.ref n), x5, x6, x7, x8, some z, some (CD rows), x11] S1 = _
    rw [set_stm (ite_no c3), exs_nil]
theorem pw9 (ds ts : List D) (hl : ds.length ≤ 12) (ht : ts.length ≤ 900) (n8 n : Nat) (h8 : S[n8]? = some (.lst ts)) (hn : S[n]? = some (.ins 2 [(0, SD bs), (1, CD cs)])) (hb : bs.length ≤ 30) (hc : cs.Nodup) (hcl : cs.length ≤ 1000) (hts : ∀ z ∈ ts, filOk S z) (hds : ∀ d ∈ ds, gdS d) (x0 x1 x6 x7 x9 x10 x11 : Option D) :
    ∃ (S' : Store) (y9 y10 : Option D), exS (C k) w9 [x0, x1, some (SD bs), some (CD cs), some (.ref n), some (.tup ds), x6, x7, some (.ref n8), x9, x10, x11] S = .ok (.nx [x0, x1, some (SD bs), some (CD cs), some (.ref n), some (.tup ds), x6, x7, some (.ref n8), y9, y10, x11]) S' := by
  have i1 : (den (C k) (.nd (.slc 1) [(.var 5), (.nd .neg [(.cst (.int 1))])])).e [x0, x1, some (SD bs), some (CD cs), some (.ref n), some (.tup ds), x6, x7, some (.ref n8), x9, x10, x11] S = .ok (.v (.tup (cut ds (some (-1)) none))) S := by
    have q : (den (C k) (.nd .neg [(.cst (.int 1))])).e [x0, x1, some (SD bs), some (CD cs), some (.ref n), some (.tup ds), x6, x7, some (.ref n8), x9, x10, x11] S = .ok (.v (.int (-1))) S := by
      rw [nd_1 cst_v]
      rfl
    rw [nd_2 (var_v rfl) q, app_slc1]
    rfl
  have l1 := cut_len ds (some (-1)) none
  have i2 : (den (C k) (.nd .bk [(.var 5)])).e [x0, x1, some (SD bs), some (CD cs), some (.ref n), some (.tup ds), x6, x7, some (.ref n8), x9, x10, x11] S = .ok (.v (.tup ds.reverse)) S := by
    rw [nd_1 (var_v rfl), app_bk]
    rfl
  have i3 := lst_1 (cx := C k) (ded_c (op_2 (e := .var 5) (σ := [x0, x1, some (SD bs), some (CD cs), some (.ref n), some (.tup ds), x6, x7, some (.ref n8), x9, x10, x11]) (var_v rfl) i1 (tup_add S ds (cut ds (some (-1)) none) (by omega))) (ded_1 i2)) (by simp)
  have i4 := op_2 (cx := C k) (e := .var 8) (var_v rfl) i3 (lst_add _ h8 (by simp; omega))
  obtain ⟨zs, hzs⟩ : ∃ zs, zs = ts ++ [D.tup (ds ++ cut ds (some (-1)) none), .tup ds.reverse] := ⟨_, rfl⟩
  have hok : ∀ z ∈ zs, filOk S z := by
    intro z hz
    rw [hzs] at hz
    have hs : ∀ x ∈ ds, stpOk S x := fun x hx => stp_sm (hds x hx).1
    rcases List.mem_append.mp hz with hz | hz
    · exact hts z hz
    · simp only [List.mem_cons, List.not_mem_nil, or_false] at hz
      rcases hz with rfl | rfl
      · refine fil_tup (by rw [List.length_append]; omega) fun x hx => ?_
        rcases List.mem_append.mp hx with hx | hx
        · exact hs x hx
        · exact hs x (cut_mem hx)
      · exact fil_tup (by simp; omega) fun x hx => hs x (List.mem_reverse.mp hx)
  obtain ⟨σ', S', e7, T, y9, y10, rfl, rfl⟩ := frL_ix (v := 9) (body := exSs (C k) w9b) (g := fun _ => true) zs (fun j σ S' => ∃ (T : List O) (y9 y10 : Option D), S' = S ++ T ∧ σ = [x0, x1, some (SD bs), some (CD cs), some (.ref n), some (.tup ds), x6, x7, some (.ref n8), y9, y10, x11]) (by
    rintro j hj σ S' ⟨T, y9, y10, rfl, rfl⟩
    obtain ⟨T', z10, e⟩ := turn_ (k := k) (S := S ++ T) n (app_at hn T) hb hc hcl zs[j] (fil_app T (hok _ (List.getElem_mem hj))) x0 x1 (some (.tup ds)) x6 x7 (some (.ref n8)) y10 x11
    exact ⟨rfl, by simp, _, _, .inl e, T ++ T', _, _, by rw [List.append_assoc], rfl⟩) (fun _ _ _ => rfl) _ S ⟨[], x9, x10, by rw [List.append_nil], rfl⟩
  refine ⟨S ++ T, y9, y10, fr_stm (g := fun _ => true) (ds := zs) (dens_1 i4) ?_ e7⟩
  rw [iter_t, hzs]
  rfl
theorem pw10 (ds : List D) (x0 x1 x2 x3 x4 x6 x7 x8 x9 x10 x11 : Option D) : exS (C k) w10 [x0, x1, x2, x3, x4, some (.tup ds), x6, x7, x8, x9, x10, x11] S = .ok (.rt (.bl true)) S := by
  have q1 : exSs (C k) [.ex (.na (.call 16) [(.var 5), (.var 5)])] [x0, x1, x2, x3, x4, some (.tup ds), x6, x7, x8, x9, x10, x11] S = .ok (.xc [x0, x1, x2, x3, x4, some (.tup ds), x6, x7, x8, x9, x10, x11] 1 []) S := by
    have g : (den (C k) (.na (.call 16) [(.var 5), (.var 5)])).e [x0, x1, x2, x3, x4, some (.tup ds), x6, x7, x8, x9, x10, x11] S = .ex 1 [] S := by
      have z : ded (C k) [(.var 5), (.var 5)] [x0, x1, x2, x3, x4, some (.tup ds), x6, x7, x8, x9, x10, x11] S = .ok [.tup ds, .tup ds] S := ded_c (var_v rfl) (ded_1 (var_v rfl))
      have q := told_x (k + 8) S ds ds
      rw [den_na, z, bind_ok', kNa_ap]
      rw [appA_call, show (C k).call 16 [.tup ds, .tup ds] S = _ from q]
      rfl
    rw [exs_cons, ex_ex, g, cat_ex', bind_ok', seqK_xc]
  have z : ¬ ((C k).rs 1 = false ∨ (C k).xi 0 = false ∨ ([x0, x1, x2, x3, x4, some (.tup ds), x6, x7, x8, x9, x10, x11] : Ev.Env).length ≤ 11) := by
    rw [cxK_rs, cxK_xi, h_rs, h_xi]
    simp
  simp only [w10, exS]
  rw [q1]
  dsimp only
  rw [if_neg z, if_pos (by rw [cxK_sb]; exact h_s10)]
  simp [h_s11]
end
theorem spec (ns : List Int) (h1 : ns.length ≤ 63) (h2 : ∀ z ∈ ns, PySem.Builtin.Int.intBits z ≤ 1048576) : ∃ S', runK tb 20 32 [.ref 0] (scr ns) = .ok (.bl true) S' := by
  obtain ⟨a, b, c, d, bs, cs, S, ha, hb, hc, hd, q1, q2, q3, q4, q5, q6, q7⟩ := begin_ 9 ns
  rw [run_of t32 19 _ _ rfl]
  show ∃ S', finE (scr ns) (exSs (C 9) d32.body [some (.ref 0), none, none, none, none, none, none, none, none, none, none, none] (scr ns)) = .ok (.bl true) S'
  rw [lawB, q7]
  have lb : bs.length ≤ 30 := by omega
  have hnd : cs.Nodup := clausesL_nodup q2
  have q2' : clausesL bs.length cs = true := by rw [q1]; exact q2
  rw [set_stm (pw3 (k := 9) (by omega) q2' q3 q4 _ _ _ _ _ _ _ _ _ _)]
  have n3 : (S ++ [O.ins 2 [(0, SD bs), (1, CD cs)]])[S.length]? = some (.ins 2 [(0, SD bs), (1, CD cs)]) := by simp
  have m3 := app_at q5 [O.ins 2 [(0, SD bs), (1, CD cs)]]
  have s3 := app_at q6 [O.ins 2 [(0, SD bs), (1, CD cs)]]
  generalize S ++ [O.ins 2 [(0, SD bs), (1, CD cs)]] = S3 at n3 m3 s3
  obtain ⟨ds, g1, g2, g3⟩ := pw4 (k := 9) (bs := bs) (cs := cs) (S := S3) ns s3 lb q4 (some (.ref 2)) (some (.ref S.length)) none none none none none none none
  rw [set_stm g3, set_stm (pw5 (k := 9) ds m3 _ _ _ _ _ _ _ _ _ _)]
  generalize c % (ds.length + 1) = m
  rw [set_stm (pw6 (k := 9) _ _ _ _ _ _ _ _ _ _ _ _)]
  have n6 := app_at n3 [O.lst bd6]
  have m6 := app_at m3 [O.lst bd6]
  have o6 : (S3 ++ [O.lst bd6])[S3.length]? = some (.lst bd6) := by simp
  generalize S3 ++ [O.lst bd6] = S6 at n6 m6 o6
  rw [set_stm (pw7 (k := 9) S3.length o6 _ _ _ _ _ _ _ _ _ _ _)]
  have n7 := app_at n6 [drp0, .lst (bd6 ++ bd4 S6.length)]
  have m7 := app_at m6 [drp0, .lst (bd6 ++ bd4 S6.length)]
  have o7 : (S6 ++ [drp0, .lst (bd6 ++ bd4 S6.length)])[S6.length + 1]? = some (.lst (bd6 ++ bd4 S6.length)) := by simp
  have p7 : (S6 ++ [drp0, .lst (bd6 ++ bd4 S6.length)])[S6.length]? = some drp0 := by simp
  generalize S6 ++ [drp0, .lst (bd6 ++ bd4 S6.length)] = S7 at n7 m7 o7 p7
  obtain ⟨x, z, T, hx, hz, e8⟩ := pw8 (k := 9) ds g2 m _ _ o7 m7 hb hd (some (.ref 0)) (some (SD bs)) (some (CD cs)) (some (.ref S.length)) none none none none
  rw [set_stm e8]
  obtain ⟨S8, hS8⟩ : ∃ S8, S8 = S7 ++ [O.lst ds] ++ T ++ [.lst (thg ds S7.length m x z)] := ⟨_, rfl⟩
  have n8 : S8[S.length]? = some (.ins 2 [(0, SD bs), (1, CD cs)]) := by rw [hS8]; exact app_at (app_at (app_at n7 _) _) _
  have p8 : S8[S6.length]? = some drp0 := by rw [hS8]; exact app_at (app_at (app_at p7 _) _) _
  have o8 : S8[(S7 ++ [O.lst ds] ++ T).length]? = some (.lst (thg ds S7.length m x z)) := by rw [hS8]; simp
  have r8 : S8[S7.length]? = some (.lst ds) := by rw [hS8]; exact app_at (app_at (by simp) _) _
  have hs : ∀ y ∈ ds, stpOk S8 y := fun y hy => stp_sm (g1 y hy).1
  have hok : ∀ y ∈ thg ds S7.length m x z, filOk S8 y := by
    intro y hy
    simp only [thg, List.mem_cons, List.not_mem_nil, or_false] at hy
    rcases hy with rfl | rfl | rfl | rfl | rfl
    · exact fil_tup (by omega) hs
    · exact fil_ref (knT_ref r8 (.inl ⟨_, rfl⟩))
    · exact fil_tup (by have := cut_len ds (some 1) none; omega) fun y hy => hs y (cut_mem hy)
    · refine fil_tup (by
        have := cut_len ds none (some (m : Int))
        have := cut_len ds (some (m : Int)) none
        rw [List.length_append, List.length_append, List.length_singleton]
        omega) fun y hy => ?_
      rcases List.mem_append.mp hy with hy | hy
      · rcases List.mem_append.mp hy with hy | hy
        · exact hs y (cut_mem hy)
        · rw [List.mem_singleton.mp hy]
          exact bd_ok p8 x hx
      · exact hs y (cut_mem hy)
    · rw [hS8]
      exact fil_app _ hz
  rw [← hS8]
  obtain ⟨S9, y9, y10, e9⟩ := pw9 (k := 9) (S := S8) ds _ g2 (by simp [thg]) _ _ o8 n8 lb hnd (by omega) hok g1 (some (.ref 0)) (some (.ref 2)) (some (.int m)) (some (.ref (S6.length + 1))) none none none
  rw [set_stm e9, exs_cons, pw10 (k := 9) ds _ _ _ _ _ _ _ _ _ _ _, bind_ok', seqK_rt, fin_rt]
  exact ⟨_, rfl⟩
end Lk55
theorem walkk55 {l : PySem.W.OpenLaw} {q : PySem.Program} {loose : List PySem.Str} {XP : (PySem.Str → Option PySem.Value) → PySem.Heap → Prop} {YP : PySem.World → PySem.Heap → Prop} {d : PySem.DefRec} {K : PySem.Params → PySem.W.Frag} (hn : l.most = some 63) (hdf : d.params.defaults = []) (hY : ∀ (w : PySem.World) (h : PySem.Heap), YP w h → (K w.params).In h)
    (F : ∀ (w : PySem.World) (mg : PySem.Str → Option PySem.Value) (fa : PySem.Addr) (h : PySem.Heap), (K w.params).In h → h.Ns PySem.mainGlobals mg → mg d.name = some (.ref fa) →
      ∃ fd : PySem.FuncData, (∀ (s : PySem.Shared) (u : PySem.Value), PySem.BindsTo s fd ⟨[u], []⟩ [("script", u)]) ∧ ∀ base : PySem.Heap, (K w.params).In base → base.Ns PySem.mainGlobals mg → L2.FnOk l.prog w (K w.params) mg base (L2.CX l.prog w) 20 fa fd ["script"] (Ev.spI (K w.params) 63)) :
    PySem.W.WalkO q loose XP YP l.row.toRowW d [] (fun f vs => PySem.call f vs) :=
  L2.walk_ofB (n := 63) (k := 20) (x := "script") (CX := fun w => L2.CX l.prog w) (sp := fun w => Ev.spI (K w.params) 63) hn (by decide) hdf ⟨rfl, by decide, by decide⟩ hY F (fun w H a ns hl hb hO hS => ⟨a, ns, rfl, hl, hb, hO, hS, fun _ => rfl⟩) fun w H s e s' z => by
    obtain ⟨_, _, _, _, _, _, _, _, _, _, _, _, z⟩ := z
    exact z
open PySem PySem.W PyProof.Rows
set_option maxRecDepth 100000 in
set_option maxHeartbeats 0 in
theorem PySem.Challenge.cw_everyreply_k55_whole_files_of_clauses_holds : PySem.Challenge.rw_everyreply_k55_whole_files_of_clauses.Holds := by
  w_on; o_law; k_head; (case hw => w_witness2)
  k_fill
  refine walkk55 (l := PySem.Challenge.rw_everyreply_k55_whole_files_of_clauses) rfl rfl (fun w h Y => PySem.W.kIn_of Y) ?F
  case F =>
    intro w mg fa h KX G hmg
    refine' Lk55.all_mk KX G hmg Lk55.spec ?aC0 ?aC1 ?aC2 ?a0 ?l0 ?c0_ ?k0 ?a1 ?l1 ?c1_ ?k1 ?a2 ?l2 ?c2_ ?k2 ?a3 ?l3 ?c3_ ?k3 ?a4 ?l4 ?c4_ ?k4 ?a5 ?l5 ?c5_ ?k5 ?a6 ?l6 ?c6_ ?k6 ?a7 ?l7 ?c7_ ?k7 ?a8 ?if8 ?mk8 ?l8 ?c8_ ?k8 ?a9 ?if9 ?ne9 ?mo9 ?nt9 ?nc9_2 ?l9 ?c9_ ?k9 ?a10 ?l10 ?c10_ ?k10 ?a11 ?l11 ?c11_ ?k11 ?a12 ?l12 ?c12_ ?k12 ?a13 ?l13 ?c13_ ?k13 ?a14 ?l14 ?c14_ ?k14 ?a15 ?l15 ?c15_ ?k15 ?a16 ?l16 ?c16_ ?k16 ?a17 ?l17 ?c17_ ?k17 ?a18 ?l18 ?c18_ ?k18 ?a19 ?l19 ?c19_ ?k19 ?a20 ?l20 ?c20_ ?k20 ?a21 ?l21 ?c21_ ?k21 ?a22 ?l22 ?c22_ ?k22 ?a23 ?l23 ?c23_ ?k23 ?a24 ?l24 ?c24_ ?k24 ?a25 ?l25 ?c25_ ?k25 ?a26 ?l26 ?c26_ ?k26 ?a27 ?l27 ?c27_ ?k27 ?a28 ?l28 ?c28_ ?k28 ?a29 ?l29 ?c29_ ?k29 ?a30 ?l30 ?c30_ ?k30 ?a31 ?l31 ?c31_ ?k31 ?a32 ?l32 ?c32_ ?k32 ?kC0 ?kC1 ?kC2 ?b_len ?b_all ?b_any ?b_tuple ?b_list ?b_int ?b_abs ?b_sorted ?b_sum ?b_bool ?b_isinstance ?b_str ?b_dict ?b_max ?b_min ?b_range ?b_enumerate ?b_zip ?b_reversed ?b_ValueError ?v_MOST_CLAUSE_FLAGS ?v_MOST_CLAUSES ?B1 ?B2 ?B3 ?B4 ?R0 ?R1 ?t2 ?I2 ?cc2_0 ?cc2_1 ?cc2_2
    (case aC0 => k_is)
    (case aC1 => k_is)
    (case aC2 => k_is)
    (case a0 => k_is)
    (case l0 => k_is)
    (case c0_ => k_is)
    (case k0 => k_is)
    (case a1 => k_is)
    (case l1 => k_is)
    (case c1_ => k_is)
    (case k1 => k_is)
    (case a2 => k_is)
    (case l2 => k_is)
    (case c2_ => k_is)
    (case k2 => k_is)
    (case a3 => k_is)
    (case l3 => k_is)
    (case c3_ => k_is)
    (case k3 => k_is)
    (case a4 => k_is)
    (case l4 => k_is)
    (case c4_ => k_is)
    (case k4 => k_is)
    (case a5 => k_is)
    (case l5 => k_is)
    (case c5_ => k_is)
    (case k5 => k_is)
    (case a6 => k_is)
    (case l6 => k_is)
    (case c6_ => k_is)
    (case k6 => k_is)
    (case a7 => k_is)
    (case l7 => k_is)
    (case c7_ => k_is)
    (case k7 => k_is)
    (case a8 => k_is)
    (case if8 => k_is)
    (case mk8 => k_is)
    (case l8 => k_is)
    (case c8_ => k_is)
    (case k8 => k_is)
    (case a9 => k_is)
    (case if9 => k_is)
    (case ne9 => k_is)
    (case mo9 => k_is)
    (case nt9 => kernel_rfl)
    (case nc9_2 => k_is)
    (case l9 => k_is)
    (case c9_ => k_is)
    (case k9 => k_is)
    (case a10 => k_is)
    (case l10 => k_is)
    (case c10_ => k_is)
    (case k10 => k_is)
    (case a11 => k_is)
    (case l11 => k_is)
    (case c11_ => k_is)
    (case k11 => k_is)
    (case a12 => k_is)
    (case l12 => k_is)
    (case c12_ => k_is)
    (case k12 => k_is)
    (case a13 => k_is)
    (case l13 => k_is)
    (case c13_ => k_is)
    (case k13 => k_is)
    (case a14 => k_is)
    (case l14 => k_is)
    (case c14_ => k_is)
    (case k14 => k_is)
    (case a15 => k_is)
    (case l15 => k_is)
    (case c15_ => k_is)
    (case k15 => k_is)
    (case a16 => k_is)
    (case l16 => k_is)
    (case c16_ => k_is)
    (case k16 => k_is)
    (case a17 => k_is)
    (case l17 => k_is)
    (case c17_ => k_is)
    (case k17 => k_is)
    (case a18 => k_is)
    (case l18 => k_is)
    (case c18_ => k_is)
    (case k18 => k_is)
    (case a19 => k_is)
    (case l19 => k_is)
    (case c19_ => k_is)
    (case k19 => k_is)
    (case a20 => k_is)
    (case l20 => k_is)
    (case c20_ => k_is)
    (case k20 => k_is)
    (case a21 => k_is)
    (case l21 => k_is)
    (case c21_ => k_is)
    (case k21 => k_is)
    (case a22 => k_is)
    (case l22 => k_is)
    (case c22_ => k_is)
    (case k22 => k_is)
    (case a23 => k_is)
    (case l23 => k_is)
    (case c23_ => k_is)
    (case k23 => k_is)
    (case a24 => k_is)
    (case l24 => k_is)
    (case c24_ => k_is)
    (case k24 => k_is)
    (case a25 => k_is)
    (case l25 => k_is)
    (case c25_ => k_is)
    (case k25 => k_is)
    (case a26 => k_is)
    (case l26 => k_is)
    (case c26_ => k_is)
    (case k26 => k_is)
    (case a27 => k_is)
    (case l27 => k_is)
    (case c27_ => k_is)
    (case k27 => k_is)
    (case a28 => k_is)
    (case l28 => k_is)
    (case c28_ => k_is)
    (case k28 => k_is)
    (case a29 => k_is)
    (case l29 => k_is)
    (case c29_ => k_is)
    (case k29 => k_is)
    (case a30 => k_is)
    (case l30 => k_is)
    (case c30_ => k_is)
    (case k30 => k_is)
    (case a31 => k_is)
    (case l31 => k_is)
    (case c31_ => k_is)
    (case k31 => k_is)
    (case a32 => k_is)
    (case l32 => k_is)
    (case c32_ => k_is)
    (case k32 => k_is)
    (case kC0 => k_is)
    (case kC1 => k_is)
    (case kC2 => k_is)
    (case b_len => k_is)
    (case b_all => k_is)
    (case b_any => k_is)
    (case b_tuple => k_is)
    (case b_list => k_is)
    (case b_int => k_is)
    (case b_abs => k_is)
    (case b_sorted => k_is)
    (case b_sum => k_is)
    (case b_bool => k_is)
    (case b_isinstance => k_is)
    (case b_str => k_is)
    (case b_dict => k_is)
    (case b_max => k_is)
    (case b_min => k_is)
    (case b_range => k_is)
    (case b_enumerate => k_is)
    (case b_zip => k_is)
    (case b_reversed => k_is)
    (case b_ValueError => k_is)
    (case v_MOST_CLAUSE_FLAGS => k_is)
    (case v_MOST_CLAUSES => k_is)
    (case B1 => kernel_rfl)
    (case B2 => kernel_rfl)
    (case B3 => kernel_rfl)
    (case B4 => kernel_rfl)
    (case R0 => kernel_rfl)
    (case R1 => kernel_rfl)
    (case t2 => kernel_rfl)
    (case I2 => kernel_rfl)
    (case cc2_0 => kernel_rfl)
    (case cc2_1 => kernel_rfl)
    (case cc2_2 => kernel_rfl)
#print axioms PySem.Challenge.cw_everyreply_k55_whole_files_of_clauses_holds
