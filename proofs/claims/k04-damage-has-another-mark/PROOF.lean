import PyProof.Rows.All
import Wide.All
import OpenK.AllK
import Wide.FinOn
import HandS.ForMost
import HandS.ForExc
import HandS.Wide
import HandS.TupAny
import HandS.TupMul
import HandS.Flow
import HandS.Style
import HandS.IsInst
import HandS.Zip
import HandS.Walk
import HandS.SortInts
import HandS.SortRule
import HandS.TryOnly
import HandS.TryMany
import HandS.FStr
import HandS.StrMore
import PySem.Challenge.RW_piecehaul_k04_whole_damage_has_another_m
set_option Elab.async false
set_option linter.all false
set_option maxRecDepth 100000
set_option maxHeartbeats 1000000
set_option Elab.async false
set_option linter.all false
set_option maxRecDepth 100000
/-! PLA: a small evaluator over plain data: what a def computes, as a function. -/
namespace PL
open PySem

abbrev Ky := Sum Int Str
inductive D where
  | non | bl (b : Bool) | int (i : Int) | str (x : Str) | tup (xs : List D) | lst (xs : List D) | dct (kvs : List (Ky × D)) | ref (n : Nat) | scr (ns : List Int)
inductive Ob where
  | lst (xs : List D) | dct (kvs : List (Ky × D)) | dtt (kvs : List (List Ky × D)) | ins (c : Nat) (fs : List (Nat × D))
abbrev Store := List Ob
abbrev Env := List (Option D)

inductive R (α : Type) where
  | ok (a : α) (S : Store) | ex (c : Nat) (S : Store) | bad
def R.bind {α β : Type} (r : R α) (f : α → Store → R β) : R β := match r with
  | .ok a S => f a S
  | .ex c S => .ex c S
  | .bad => .bad
@[simp] theorem R.bind_ok {α β : Type} (a : α) (S : Store) (f : α → Store → R β) : (R.ok a S).bind f = f a S := rfl
@[simp] theorem R.bind_ex {α β : Type} (c : Nat) (S : Store) (f : α → Store → R β) : (R.ex c S).bind f = .ex c S := rfl
@[simp] theorem R.bind_bad {α β : Type} (f : α → Store → R β) : (R.bad : R α).bind f = .bad := rfl
def R.of {α : Type} (o : Option α) (S : Store) : R α := match o with
  | some a => .ok a S
  | none => .bad
@[simp] theorem R.of_some {α : Type} (a : α) (S : Store) : R.of (some a) S = .ok a S := rfl
@[simp] theorem R.of_none {α : Type} (S : Store) : R.of (none : Option α) S = .bad := rfl
inductive RS where
  | nx (env : Env) (S : Store) | rt (d : D) (S : Store) | ex (c : Nat) (env : Env) (S : Store) | bad
def RS.andThen (r : RS) (f : Env → Store → RS) : RS := match r with
  | .nx env S => f env S
  | r => r
@[simp] theorem RS.andThen_nx (env : Env) (S : Store) (f) : (RS.nx env S).andThen f = f env S := rfl
@[simp] theorem RS.andThen_rt (d : D) (S : Store) (f) : (RS.rt d S).andThen f = .rt d S := rfl
@[simp] theorem RS.andThen_ex (c : Nat) (env : Env) (S : Store) (f) : (RS.ex c env S).andThen f = .ex c env S := rfl
@[simp] theorem RS.andThen_bad (f) : RS.bad.andThen f = .bad := rfl
/-- a value within a statement -/
def R.stm {α : Type} (r : R α) (env : Env) (f : α → Store → RS) : RS := match r with
  | .ok a S => f a S
  | .ex c S => .ex c env S
  | .bad => .bad
@[simp] theorem R.stm_ok {α : Type} (a : α) (S : Store) (env f) : (R.ok a S).stm env f = f a S := rfl
@[simp] theorem R.stm_ex {α : Type} (c : Nat) (S : Store) (env) (f : α → Store → RS) : (R.ex c S).stm env f = .ex c env S := rfl
@[simp] theorem R.stm_bad {α : Type} (env) (f : α → Store → RS) : (R.bad : R α).stm env f = .bad := rfl

inductive BOp where | add | sub | mul | mod | fdiv deriving DecidableEq
inductive COp where | eq | ne | lt | le | gt | ge | inn | nin deriving DecidableEq
inductive Bf where | len | all | any | sum | tuple | list | sorted | str | int | max | min deriving DecidableEq
inductive Bm where | append | split | join | partition | find | index | startswith | upper | pop | get | setdefault | count deriving DecidableEq
inductive IK where | plain | rng1 | rng2 | rng3 | enum | zip | items deriving DecidableEq
inductive Tg where | one (i : Nat) | many (is : List Nat)

inductive E where
  | var (i : Nat) | con (d : D) | glb (j : Nat)
  | bin (o : BOp) (a b : E) | cmp (o : COp) (a b : E) | chain (o o' : COp) (a b c : E) | isn (a : E) | ntn (a : E) | isb (a : E) (k : Bool) | nsb (a : E) (k : Bool)
  | neg (a : E) | nt (a : E) | and (a b : E) | or (a b : E) | ite (c a b : E) | isa (a : E) (t : Nat)
  | call (f : Nat) (as : E) | meth (o : E) (m : Nat) (as : E) | mk (c : Nat) (as : E) | bf (f : Bf) (as : E) | bm (m : Bm) (o as : E)
  | ix (a i : E) | sl (a lo hi : E) | sl3 (a lo hi : E) (st : Int) | fld (o : E) (f : Nat) | tup (as : E) | lst (as : E) | dict0 | dict (ks vs : E)
  | comp (k : IK) (src : E) (tg : Tg) (cond elt : E) | fstr (as : E) | new (e : E)
  | nil | cons (a as : E) | emp | one (e : E) | val (e : E) | din (ng : Bool) (a b : E) | dix (a i : E)
inductive T where
  | nil | asg (i : Nat) (e : E) (k : T) | asgT (is : List Nat) (e : E) (k : T) | exp (e : E) (k : T) | fldS (o : E) (f : Nat) (e : E) (k : T) | setI (o i e : E) (k : T)
  | ret (e : E) | ifs (c : E) (a b k : T) | whl (c : E) (b k : T) | for_ (ik : IK) (src : E) (tg : Tg) (b k : T) | rais (c : Nat) | tr (b : T) (cs : List Nat) (h k : T)

/-! ### values -/
def SZ : Nat := 16777216
mutual
def noRef : D → Bool
  | .tup xs => noRefs xs
  | .lst xs => noRefs xs
  | .dct kvs => noRefK kvs
  | .ref _ => false
  | _ => true
def noRefs : List D → Bool
  | [] => true
  | x :: xs => noRef x && noRefs xs
def noRefK : List (Ky × D) → Bool
  | [] => true
  | (_, x) :: xs => noRef x && noRefK xs
end
def small (i : Int) : Bool := decide (-(2 ^ 64) < i) && decide (i < 2 ^ 64)
/-- the items of a list, frozen or in the store -/
def lstOf (d : D) (S : Store) : Option (List D) := match d with
  | .lst xs => some xs
  | .ref n => match S[n]? with
    | some (.lst xs) => some xs
    | _ => none
  | _ => none
def seqOf (d : D) (S : Store) : Option (List D) := match d with
  | .tup xs => some xs
  | .scr ns => some (ns.map .int)
  | d => lstOf d S
def dctOf (d : D) (S : Store) : Option (List (Ky × D)) := match d with
  | .dct xs => some xs
  | .ref n => match S[n]? with
    | some (.dct xs) => some xs
    | _ => none
  | _ => none
def truthy (d : D) (S : Store) : Option Bool := match d with
  | .non => some false
  | .bl b => some b
  | .int i => some (i != 0)
  | .str x => if x.length ≤ SZ then some (x.length != 0) else none
  | .tup xs => some (!xs.isEmpty)
  | .lst xs => some (!xs.isEmpty)
  | .dct _ => none
  | .scr _ => none
  | .ref n => match S[n]? with
    | some (.lst xs) => some (!xs.isEmpty)
    | some (.dct xs) => some (!xs.isEmpty)
    | _ => none
def isNonD : D → Bool
  | .non => true
  | _ => false
def negD : D → Option D
  | .int i => some (.int (-i))
  | _ => none
def addD (x y : D) (S : Store) : Option D := match x, y with
  | .int i, .int j => some (.int (i + j))
  | .str a, .str b => if a.length + b.length ≤ SZ then some (.str (a ++ b)) else none
  | .tup a, .tup b => if a.length + b.length ≤ SZ then some (.tup (a ++ b)) else none
  | x, y => match lstOf x S, lstOf y S with
    | some a, some b => if a.length + b.length ≤ SZ then some (.lst (a ++ b)) else none
    | _, _ => none
def subD (x y : D) : Option D := match x, y with
  | .int i, .int j => some (.int (i - j))
  | _, _ => none
def mulD (x y : D) (S : Store) : Option D := match x, y with
  | .int i, .int j => if small i || small j then some (.int (i * j)) else none
  | .tup a, .int k => if 2 ≤ k ∧ k ≤ 1000 ∧ a.length ≤ 1000 ∧ a ≠ [] then some (.tup (List.replicate k.toNat a).flatten) else none
  | x, .int k => match lstOf x S with
    | some a => if 0 ≤ k ∧ k ≤ 1000 ∧ a.length ≤ 1000 then some (.lst (List.replicate k.toNat a).flatten) else none
    | none => none
  | _, _ => none
def modD (x y : D) : Option D := match x, y with
  | .int i, .int j => if 0 < j then some (.int (i % j)) else none
  | _, _ => none
def fdivD (x y : D) : Option D := match x, y with
  | .int i, .int j => if 0 < j ∧ j < 2 ^ 64 then some (.int (i / j)) else none
  | _, _ => none
def bop (o : BOp) (x y : D) (S : Store) : Option D := match o with
  | .add => addD x y S
  | .sub => subD x y
  | .mul => mulD x y S
  | .mod => modD x y
  | .fdiv => fdivD x y
mutual
/-- plain data for the model's == -/
def pyT : D → PyData
  | .bl b => .bool b
  | .int i => .int i
  | .str x => .str x
  | .tup xs => .tuple (pyTs xs)
  | .lst xs => .list (pyTs xs)
  | _ => .none
def pyTs : List D → List PyData
  | [] => []
  | x :: xs => pyT x :: pyTs xs
end
mutual
/-- data at most n deep -/
def sh (n : Nat) : D → Bool
  | .non => true
  | .bl _ => true
  | .int _ => true
  | .str x => PyData.strOk x
  | .tup xs => match n with
    | 0 => false
    | m + 1 => shs m xs
  | .lst xs => match n with
    | 0 => false
    | m + 1 => shs m xs
  | _ => false
def shs (n : Nat) : List D → Bool
  | [] => true
  | x :: xs => sh n x && shs n xs
end
def eqv2 (x y : D) : Bool := PyData.eqv (pyT x) (pyT y)
/-- == of data: none where it isn't data -/
def eqD (x y : D) : Option Bool := match x, y with
  | .int i, .int j => some (decide (i = j))
  | .str i, .str j => some (decide (i = j))
  | .bl i, .bl j => some (decide (i = j))
  | x, y => if sh 8 x && sh 8 y then some (eqv2 x y) else none
/-- data for ==, lists of the store read -/
def frz1 (d : D) (S : Store) : D := match d with
  | .ref n => match S[n]? with
    | some (.lst xs) => .lst xs
    | _ => .ref n
  | d => d
def flatD : D → Bool
  | .non => true | .bl _ => true | .int _ => true | .str _ => true | _ => false
/-- x == y of flat things of one kind; of unlike kinds false; bools with ints aside -/
def flatEq (x y : D) : Option Bool := match x, y with
  | .int i, .int j => some (decide (i = j))
  | .str i, .str j => some (decide (i = j))
  | .bl i, .bl j => some (decide (i = j))
  | .non, .non => some true
  | .bl _, .int _ => none
  | .int _, .bl _ => none
  | .non, .int _ => some false | .non, .str _ => some false | .non, .bl _ => some false
  | .int _, .non => some false | .str _, .non => some false | .bl _, .non => some false
  | .int _, .str _ => some false | .str _, .int _ => some false | .bl _, .str _ => some false | .str _, .bl _ => some false
  | _, _ => none
def memF (x : D) : List D → Option Bool
  | [] => some false
  | y :: ys => match flatEq y x, memF x ys with
    | some a, some b => some (a || b)
    | _, _ => none
def keyOf : D → Option Ky
  | .int i => some (.inl i)
  | .str x => some (.inr x)
  | _ => none
def getK (kvs : List (Ky × D)) (k : Ky) : Option D := match kvs with
  | [] => none
  | (a, d) :: r => if a = k then some d else getK r k
def setK (kvs : List (Ky × D)) (k : Ky) (v : D) : List (Ky × D) := match kvs with
  | [] => [(k, v)]
  | (a, d) :: r => if a = k then (a, v) :: r else (a, d) :: setK r k v
def delK (kvs : List (Ky × D)) (k : Ky) : List (Ky × D) := match kvs with
  | [] => []
  | (a, d) :: r => if a = k then r else (a, d) :: delK r k
/-- sub in a text -/
def inS (a b : Str) : Bool := !(Builtin.Str.occurrences b a 0 b.length 1).isEmpty
def ordD (p : Int → Int → Bool) (x y : D) : Option Bool := match x, y with
  | .int i, .int j => some (p i j)
  | _, _ => none
def inD (x y : D) (S : Store) : Option Bool := match x, y with
  | .str a, .str b => some (inS a b)
  | x, y => match seqOf y S with
    | some xs => memF x xs
    | none => none
/-- k in d -/
def dinD (x y : D) (S : Store) : Option Bool := match dctOf y S with
  | some kvs => (keyOf x).map fun k => (getK kvs k).isSome
  | none => none
/-- d[k] -/
def dixD (y x : D) (S : Store) : Option D := match dctOf y S with
  | some kvs => (keyOf x).bind (getK kvs)
  | none => none
def cop (o : COp) (x y : D) (S : Store) : Option Bool := match o with
  | .lt => ordD (fun i j => decide (i < j)) x y
  | .le => ordD (fun i j => decide (i ≤ j)) x y
  | .gt => ordD (fun i j => decide (j < i)) x y
  | .ge => ordD (fun i j => decide (j ≤ i)) x y
  | .eq => eqD (frz1 x S) (frz1 y S)
  | .ne => (eqD (frz1 x S) (frz1 y S)).map not
  | .inn => if flatD x then inD x y S else none
  | .nin => if flatD x then (inD x y S).map not else none
def isaD (t : Nat) (d : D) : Bool := match t, d with
  | 0, .int _ => true
  | 0, .bl _ => true
  | 1, .bl _ => true
  | 2, .str _ => true
  | 3, .tup _ => true
  | _, _ => false
abbrev cutD {α : Type} (xs : List α) (lo hi : Option Int) : List α := (xs.drop (HT.sIx xs.length 0 lo)).take (HT.sIx xs.length xs.length hi - HT.sIx xs.length 0 lo)
def getD_ (x y : D) (S : Store) : Option D := match x, y with
  | .str z, .int i => if z.length ≤ SZ then (L2.atI z.cps.toList i).map fun c => .str ⟨#[c]⟩ else none
  | x, y => match seqOf x S with
    | some xs => match y with
      | .int i => L2.atI xs i
      | _ => none
    | none => none
def part : D → Option (Option Int)
  | .int i => some (some i)
  | _ => none
def slD (x : D) (lo hi : Option Int) (S : Store) : Option D := match x with
  | .str z => if z.length ≤ SZ then some (.str (L2.cutS z lo hi)) else none
  | .tup xs => some (.tup (cutD xs lo hi))
  | .scr ns => some (.lst (cutD (ns.map .int) lo hi))
  | x => match lstOf x S with
    | some xs => some (.lst (cutD xs lo hi))
    | none => none
def rngD (lo c : Int) (n : Nat) : List D := (List.range n).map fun (k : Nat) => .int (lo + k * c)
def b62 (i : Int) : Bool := decide (-(2 ^ 62) ≤ i) && decide (i < 2 ^ 62)
inductive Itr where
  | items (xs : List D) | live (n : Nat) (en : Bool)
def chars (x : Str) : List D := x.cps.toList.map fun c => .str ⟨#[c]⟩
def kyD : Ky → D
  | .inl i => .int i
  | .inr x => .str x
def enumD (xs : List D) : List D := (List.range xs.length).zipWith (fun (k : Nat) x => .tup [.int k, x]) xs
def mkIt (k : IK) (as : List D) (S : Store) : Option Itr := match k, as with
  | .plain, [.tup xs] => some (.items xs)
  | .plain, [.lst xs] => some (.items xs)
  | .plain, [.str x] => some (.items (chars x))
  | .plain, [.ref n] => match S[n]? with
    | some (.lst _) => some (.live n false)
    | _ => none
  | .rng1, [.int j] => if b62 j then some (.items (rngD 0 1 j.toNat)) else none
  | .rng2, [.int i, .int j] => if b62 i && b62 j then some (.items (rngD i 1 (j - i).toNat)) else none
  | .rng3, [.int i, .int j, .int c] => if b62 i && b62 j && decide (0 < c) && decide (c < 1000000) then some (.items (rngD i c ((j - i + c - 1) / c).toNat)) else none
  | .enum, [.tup xs] => some (.items (enumD xs))
  | .enum, [.lst xs] => some (.items (enumD xs))
  | .enum, [.ref n] => match S[n]? with
    | some (.lst _) => some (.live n true)
    | _ => none
  | .zip, [.tup xs, .tup ys] => some (.items (xs.zipWith (fun x y => .tup [x, y]) ys))
  | .zip, [.lst xs, .lst ys] => some (.items (xs.zipWith (fun x y => .tup [x, y]) ys))
  | _, _ => none
def bindL (is : List Nat) (xs : List D) (env : Env) : Option Env := match is, xs with
  | [], [] => some env
  | i :: is, x :: xs => bindL is xs (env.set i (some x))
  | _, _ => none
def bindT (tg : Tg) (d : D) (env : Env) : Option Env := match tg, d with
  | .one i, d => some (env.set i (some d))
  | .many is, .tup xs => bindL is xs env
  | _, _ => none
end PL

set_option Elab.async false
set_option linter.all false
set_option maxRecDepth 100000
/-! PLB: the evaluator itself. -/
namespace PL
open PySem

/-! ### built-ins -/
def allB : List D → Option Bool
  | [] => some true
  | .bl b :: r => match allB r with
    | some c => some (b && c)
    | none => none
  | _ => none
def anyB : List D → Option Bool
  | [] => some false
  | .bl b :: r => match anyB r with
    | some c => some (b || c)
    | none => none
  | _ => none
def intsD : List D → Option (List Int)
  | [] => some []
  | .int i :: r => (intsD r).map (i :: ·)
  | _ => none
def strsD : List D → Option (List Str)
  | [] => some []
  | .str i :: r => (strsD r).map (i :: ·)
  | _ => none
def pairsD : List D → Option (List (Int × Int))
  | [] => some []
  | .tup [.int i, .int j] :: r => (pairsD r).map ((i, j) :: ·)
  | _ => none
def pairD (p : Int × Int) : D := .tup [.int p.1, .int p.2]
def leP (p q : Int × Int) : Bool := decide (p.1 < q.1) || (decide (p.1 = q.1) && decide (p.2 ≤ q.2))
def leL : List Nat → List Nat → Bool
  | [], _ => true
  | _ :: _, [] => false
  | a :: as, b :: bs => decide (a < b) || (decide (a = b) && leL as bs)
def leS (x y : Str) : Bool := leL x.cps.toList y.cps.toList
def insertBy {α : Type} (le : α → α → Bool) (x : α) : List α → List α
  | [] => [x]
  | y :: ys => if le x y then x :: y :: ys else y :: insertBy le x ys
/-- the stable sort -/
def sortBy {α : Type} (le : α → α → Bool) : List α → List α
  | [] => []
  | x :: xs => insertBy le x (sortBy le xs)
def sortD (xs : List D) : Option (List D) := match intsD xs with
  | some is => some ((sortBy (fun a b => decide (a ≤ b)) is).map .int)
  | none => match pairsD xs with
    | some ps => some ((sortBy leP ps).map pairD)
    | none => match strsD xs with
      | some ss => some ((sortBy leS ss).map .str)
      | none => none
def lenD (d : D) (S : Store) : Option Nat := match d with
  | .str x => if x.length ≤ SZ then some x.length else none
  | d => match seqOf d S with
    | some xs => some xs.length
    | none => (dctOf d S).map (·.length)
def textOf : D → Option Str
  | .str x => some x
  | .int i => if i.natAbs.log2 < 1920 then some (toString i : String) else none
  | _ => none
def keysD (d : D) (S : Store) : Option (List D) := match dctOf d S with
  | some kvs => some (kvs.map fun p => kyD p.1)
  | none => none
def itemsOf (d : D) (S : Store) : Option (List D) := match seqOf d S with
  | some xs => some xs
  | none => keysD d S
def lenF (as : List D) (S : Store) : Option D := match as with
  | [d] => (lenD d S).map fun (n : Nat) => .int n
  | _ => none
def allF (as : List D) (S : Store) : Option D := match as with
  | [d] => ((lstOf d S).bind allB).map .bl
  | _ => none
def anyF (as : List D) (S : Store) : Option D := match as with
  | [d] => ((lstOf d S).bind anyB).map .bl
  | _ => none
def sumF (as : List D) (S : Store) : Option D := match as with
  | [d] => ((lstOf d S).bind intsD).map fun is => .int is.sum
  | _ => none
def tupF (as : List D) (S : Store) : Option D := match as with
  | [d] => (seqOf d S).map .tup
  | _ => none
def listF (as : List D) (S : Store) : Option D := match as with
  | [d] => (seqOf d S).map .lst
  | _ => none
def sortF (as : List D) (S : Store) : Option D := match as with
  | [d] => ((lstOf d S).bind sortD).map .lst
  | _ => none
def strF (as : List D) (S : Store) : Option D := match as with
  | [.int i] => (textOf (.int i)).map .str
  | _ => none
def intF (as : List D) (S : Store) : Option D := match as with
  | [.bl b] => some (.int (if b then 1 else 0))
  | [.str x] => if x.length ≤ 640 then (PySem.intText? x).map .int else none
  | _ => none
def maxF (as : List D) (S : Store) : Option D := match as with
  | [.int i, .int j] => some (.int (if j > i then j else i))
  | _ => none
def minF (as : List D) (S : Store) : Option D := match as with
  | [.int i, .int j] => some (.int (if j < i then j else i))
  | _ => none
def bfD (f : Bf) (as : List D) (S : Store) : Option D := match f with
  | .len => lenF as S
  | .all => allF as S
  | .any => anyF as S
  | .sum => sumF as S
  | .tuple => tupF as S
  | .list => listF as S
  | .sorted => sortF as S
  | .str => strF as S
  | .int => intF as S
  | .max => maxF as S
  | .min => minF as S

structure Fn where
  pure : Bool
  np : Nat
  nl : Nat
  body : T
def lookN {α : Type} : List (Nat × α) → Nat → Option α
  | [], _ => none
  | (a, x) :: r, i => if i = a then some x else lookN r i
theorem lookN_mem {α : Type} : ∀ {l : List (Nat × α)} {i : Nat} {x : α}, lookN l i = some x → (i, x) ∈ l
  | [], _, _, h => by cases h
  | (a, y) :: r, i, x, h => by
    simp only [lookN] at h
    split at h
    · rename_i e; cases h; subst e; exact List.mem_cons_self
    · exact List.mem_cons_of_mem _ (lookN_mem h)
structure Tab where
  fns : Nat → Option Fn
  consts : Nat → Option D
  meth : Nat → Nat → Option Nat
  init : Nat → Option Nat

abbrev Calls := Nat → List D → Store → R D
def toTup : D → List D
  | .tup xs => xs
  | _ => []
def srcL (k : IK) (d : D) : List D := match k with
  | .plain => [d]
  | _ => toTup d
def fldOf (fs : List (Nat × D)) (f : Nat) : Option D := match fs with
  | [] => none
  | (g, d) :: r => if g = f then some d else fldOf r f
def fldPut (fs : List (Nat × D)) (f : Nat) (v : D) : List (Nat × D) := match fs with
  | [] => [(f, v)]
  | (g, d) :: r => if g = f then (g, v) :: r else (g, d) :: fldPut r f v
def notIns (d : D) (S : Store) : Bool := match d with
  | .ref n => match S[n]? with
    | some (.ins _ _) => false
    | some _ => true
    | none => false
  | _ => true
/-- what an instance's field holds -/
def fldD (d : D) (f : Nat) (S : Store) : Option D := match d with
  | .ref n => match S[n]? with
    | some (.ins _ fs) => fldOf fs f
    | _ => none
  | _ => none
def clsD (d : D) (S : Store) : Option Nat := match d with
  | .ref n => match S[n]? with
    | some (.ins c _) => some c
    | _ => none
  | _ => none
def fstrD : List D → Option Str
  | [] => some ⟨#[]⟩
  | d :: r => match textOf d, fstrD r with
    | some x, some y => if x.length + y.length ≤ SZ then some (x ++ y) else none
    | _, _ => none
def mkTup (xs : List D) : Option D := if xs.length ≤ SZ then some (.tup xs) else none
def mkLst (xs : List D) : Option D := if xs.length ≤ SZ then some (.lst xs) else none
/-- nothing is raised here -/
def R.quiet {α : Type} : R α → R α
  | .ex _ _ => .bad
  | r => r
@[simp] theorem R.quiet_ok {α : Type} (a : α) (S : Store) : (R.ok a S).quiet = .ok a S := rfl
/-- a turn of a comprehension -/
def goComp (body : D → Store → R (Option D)) : List D → List D → Store → R (List D)
  | [], acc, S => .ok acc S
  | x :: xs, acc, S => (body x S).quiet.bind fun o S' => match o with
    | some y => if acc.length < SZ then goComp body xs (acc ++ [y]) S' else .bad
    | none => goComp body xs acc S'
def itemAt (S : Store) (n : Nat) (en : Bool) (i : Nat) : Option (Option D) := match S[n]? with
  | some (.lst xs) => some (xs[i]?.map fun x => if en then .tup [.int i, x] else x)
  | _ => none
@[irreducible] def LOOP : Nat := 1000000000
theorem LOOP_eq : LOOP = 1000000000 := by unfold LOOP; rfl
def goCompL (n : Nat) (en : Bool) (body : D → Store → R (Option D)) : Nat → Nat → List D → Store → R (List D)
  | 0, _, _, _ => .bad
  | k + 1, i, acc, S => match itemAt S n en i with
    | none => .bad
    | some none => .ok acc S
    | some (some x) => (body x S).quiet.bind fun o S' => match o with
      | some y => if acc.length < SZ then goCompL n en body k (i + 1) (acc ++ [y]) S' else .bad
      | none => goCompL n en body k (i + 1) acc S'
def goIt (it : Itr) (body : D → Store → R (Option D)) (S : Store) : R (List D) := match it with
  | .items xs => goComp body xs [] S
  | .live n en => .bad
def mapT (r : R D) : R Bool := r.bind fun d S => R.of (truthy d S) S
def isEmp : E → Bool
  | .emp => true
  | _ => false
def bmD (m : Bm) (o : D) (as : List D) (S : Store) : R D := match m, o, as with
  | .append, .ref n, [y] => match S[n]? with
    | some (.lst xs) => if xs.length < SZ then .ok .non (S.set n (.lst (xs ++ [y]))) else .bad
    | _ => .bad
  | _, _, _ => .bad
def ev (G : Tab) (call : Calls) : E → Env → Store → R D
  | .var i, env, S => match env[i]? with
    | some (some d) => .ok d S
    | _ => .bad
  | .con d, _, S => .ok d S
  | .glb j, _, S => R.of (G.consts j) S
  | .bin o a b, env, S => (ev G call a env S).bind fun x S => (ev G call b env S).bind fun y S => R.of (bop o x y S) S
  | .cmp o a b, env, S => (ev G call a env S).bind fun x S => (ev G call b env S).bind fun y S => R.of ((cop o x y S).map .bl) S
  | .chain o o' a b c, env, S => (ev G call a env S).bind fun x S => (ev G call b env S).bind fun y S => (R.of (cop o x y S) S).bind fun k S =>
      if k then (ev G call c env S).bind fun z S => R.of ((cop o' y z S).map .bl) S else .ok (.bl false) S
  | .isn a, env, S => (ev G call a env S).bind fun x S => .ok (.bl (isNonD x)) S
  | .ntn a, env, S => (ev G call a env S).bind fun x S => .ok (.bl (!isNonD x)) S
  | .isb a k, env, S => (ev G call a env S).bind fun x S => match x with | .bl b => .ok (.bl (b == k)) S | _ => .bad
  | .nsb a k, env, S => (ev G call a env S).bind fun x S => match x with | .bl b => .ok (.bl (b != k)) S | _ => .bad
  | .neg a, env, S => (ev G call a env S).bind fun x S => R.of (negD x) S
  | .nt a, env, S => (mapT (ev G call a env S)).bind fun k S => .ok (.bl (!k)) S
  | .and a b, env, S => (ev G call a env S).bind fun x S => (R.of (truthy x S) S).bind fun k S => if k then ev G call b env S else .ok x S
  | .or a b, env, S => (ev G call a env S).bind fun x S => (R.of (truthy x S) S).bind fun k S => if k then .ok x S else ev G call b env S
  | .ite c a b, env, S => (mapT (ev G call c env S)).bind fun k S => if k then ev G call a env S else ev G call b env S
  | .isa a t, env, S => (ev G call a env S).bind fun x S => if notIns x S then .ok (.bl (isaD t x)) S else .bad
  | .call f as, env, S => (ev G call as env S).bind fun xs S => call f (toTup xs) S
  | .meth o m as, env, S => (ev G call o env S).bind fun x S => match (clsD x S).bind (G.meth · m) with
    | some f => (ev G call as env S).bind fun xs S => call f (x :: toTup xs) S
    | none => .bad
  | .mk c as, env, S => (ev G call as env S).bind fun xs S => match G.init c with
    | some f => (call f (.ref S.length :: toTup xs) (S ++ [.ins c []])).bind fun d S' => match d with
      | .non => .ok (.ref S.length) S'
      | _ => .bad
    | none => .bad
  | .bf f as, env, S => (ev G call as env S).bind fun xs S => R.of (bfD f (toTup xs) S) S
  | .bm m o as, env, S => (ev G call o env S).bind fun x S => (ev G call as env S).bind fun xs S => bmD m x (toTup xs) S
  | .ix a i, env, S => (ev G call a env S).bind fun x S => (ev G call i env S).bind fun y S => R.of (getD_ x y S) S
  | .sl a lo hi, env, S => (ev G call a env S).bind fun x S => (if isEmp lo then .ok none S else (ev G call lo env S).bind fun d S => R.of (part d) S).bind fun l S => (if isEmp hi then .ok none S else (ev G call hi env S).bind fun d S => R.of (part d) S).bind fun h S => R.of (slD x l h S) S
  | .sl3 a lo hi st, env, S => .bad
  | .fld o f, env, S => (ev G call o env S).bind fun x S => R.of (fldD x f S) S
  | .tup as, env, S => (ev G call as env S).bind fun xs S => R.of (mkTup (toTup xs)) S
  | .lst as, env, S => (ev G call as env S).bind fun xs S => R.of (mkLst (toTup xs)) S
  | .dict0, env, S => .ok (.dct []) S
  | .dict ks vs, env, S => .bad
  | .comp k src tg c e, env, S => (ev G call src env S).bind fun xs S => match mkIt k (srcL k xs) S with
    | some it => (goIt it (fun x S => match bindT tg x env with
      | some env' => (mapT (ev G call c env' S)).bind fun k S => if k then (ev G call e env' S).bind fun y S => .ok (some y) S else .ok none S
      | none => .bad) S).bind fun ys S => .ok (.lst ys) S
    | none => .bad
  | .fstr as, env, S => (ev G call as env S).bind fun xs S => R.of ((fstrD (toTup xs)).map .str) S
  | .new e, env, S => (ev G call e env S).bind fun d S => match d with
    | .lst xs => .ok (.ref S.length) (S ++ [.lst xs])
    | .dct xs => .ok (.ref S.length) (S ++ [.dct xs])
    | _ => .bad
  | .nil, _, S => .ok (.tup []) S
  | .cons a as, env, S => (ev G call a env S).bind fun x S => (ev G call as env S).bind fun xs S => .ok (.tup (x :: toTup xs)) S
  | .one e, env, S => ev G call e env S
  | .val e, env, S => ev G call e env S
  | .din ng a b, env, S => (ev G call a env S).bind fun x S => (ev G call b env S).bind fun y S => R.of ((dinD x y S).map fun k => .bl (k != ng)) S
  | .dix a i, env, S => (ev G call a env S).bind fun x S => (ev G call i env S).bind fun y S => R.of (dixD x y S) S
  | .emp, _, S => .ok (.bl true) S

def goFor (body : D → Env → Store → RS) : List D → Env → Store → RS
  | [], env, S => .nx env S
  | x :: xs, env, S => (body x env S).andThen fun env S => goFor body xs env S
def goForL (n : Nat) (en : Bool) (body : D → Env → Store → RS) : Nat → Nat → Env → Store → RS
  | 0, _, _, _ => .bad
  | k + 1, i, env, S => match itemAt S n en i with
    | none => .bad
    | some none => .nx env S
    | some (some x) => (body x env S).andThen fun env S => goForL n en body k (i + 1) env S
def goForI (it : Itr) (body : D → Env → Store → RS) (env : Env) (S : Store) : RS := match it with
  | .items xs => goFor body xs env S
  | .live n en => if en then .bad else goForL n false body LOOP 0 env S
def goWhl (c : Env → Store → R Bool) (body : Env → Store → RS) : Nat → Env → Store → RS
  | 0, _, _ => .bad
  | k + 1, env, S => (c env S).stm env fun b S => if b then (body env S).andThen fun env S => goWhl c body k env S else .nx env S
def setIx (o i v : D) (S : Store) : Option Store := match o with
  | .ref n => match S[n]?, i with
    | some (.lst xs), .int k => (L2.ixN xs.length k).map fun j => S.set n (.lst (xs.set j v))
    | some (.dct kvs), i => if kvs.length < SZ then (keyOf i).map fun k => S.set n (.dct (setK kvs k v)) else none
    | _, _ => none
  | _ => none
def setFld (o : D) (f : Nat) (v : D) (S : Store) : Option Store := match o with
  | .ref n => match S[n]? with
    | some (.ins c fs) => if fs.length < 1000 then some (S.set n (.ins c (fldPut fs f v))) else none
    | _ => none
  | _ => none
def exT (G : Tab) (call : Calls) : T → Env → Store → RS
  | .nil, env, S => .nx env S
  | .asg i e k, env, S => (ev G call e env S).stm env fun d S => exT G call k (env.set i (some d)) S
  | .asgT is e k, env, S => (ev G call e env S).stm env fun d S => match bindT (.many is) d env with
    | some env' => exT G call k env' S
    | none => .bad
  | .exp e k, env, S => (ev G call e env S).stm env fun _ S => exT G call k env S
  | .fldS o f e k, env, S => (ev G call e env S).stm env fun v S => (ev G call o env S).stm env fun x S => match setFld x f v S with
    | some S' => exT G call k env S'
    | none => .bad
  | .setI o i e k, env, S => (ev G call e env S).stm env fun v S => (ev G call o env S).stm env fun x S => (ev G call i env S).stm env fun y S => match setIx x y v S with
    | some S' => exT G call k env S'
    | none => .bad
  | .ret e, env, S => (ev G call e env S).stm env fun d S => .rt d S
  | .ifs c a b k, env, S => (mapT (ev G call c env S)).stm env fun t S => (if t then exT G call a env S else exT G call b env S).andThen fun env S => exT G call k env S
  | .whl c b k, env, S => (goWhl (fun env S => mapT (ev G call c env S)) (fun env S => exT G call b env S) LOOP env S).andThen fun env S => exT G call k env S
  | .for_ ik src tg b k, env, S => (ev G call src env S).stm env fun xs S => match mkIt ik (srcL ik xs) S with
    | some it => (goForI it (fun x env S => match bindT tg x env with
      | some env' => exT G call b env' S
      | none => .bad) env S).andThen fun env S => exT G call k env S
    | none => .bad
  | .rais c, env, S => .ex c env S
  | .tr b cs h k, env, S => match exT G call b env S with
    | .ex c env' S' => if c ∈ cs then (exT G call h env' S').andThen fun env S => exT G call k env S else .ex c env' S'
    | .nx env' S' => exT G call k env' S'
    | r => r

/-! ### calls -/
def frzA (S : Store) (d : D) : Option D := match d with
  | .ref n => match S[n]? with
    | some (.lst xs) => if noRefs xs then some (.lst xs) else none
    | some (.dct xs) => if noRefK xs then some (.dct xs) else none
    | _ => none
  | d => if noRef d then some d else none
def frzAs (S : Store) : List D → Option (List D)
  | [] => some []
  | d :: r => match frzA S d, frzAs S r with
    | some x, some xs => some (x :: xs)
    | _, _ => none
mutual
/-- no list, dict, reference within -/
def scl : D → Bool
  | .tup xs => scls xs
  | .lst _ => false
  | .dct _ => false
  | .ref _ => false
  | .scr _ => false
  | _ => true
def scls : List D → Bool
  | [] => true
  | x :: xs => scl x && scls xs
end
def sclK : List (Ky × D) → Bool
  | [] => true
  | (_, x) :: xs => scl x && sclK xs
/-- what a pure def hands back -/
def frzR (S : Store) (d : D) : Option D := match d with
  | .ref n => match S[n]? with
    | some (.lst xs) => if scls xs then some (.lst xs) else none
    | some (.dct xs) => if sclK xs then some (.dct xs) else none
    | _ => none
  | d => if scl d then some d else none
def startE (nl : Nat) (as : List D) : Env := as.map some ++ List.replicate (nl - as.length) none
def run (G : Tab) : Nat → Calls
  | 0, _, _, _ => .bad
  | k + 1, f, as, S => match G.fns f with
    | none => .bad
    | some F => if as.length ≠ F.np then .bad else
      if F.pure then match frzAs S as with
        | none => .bad
        | some as' => match exT G (run G k) F.body (startE F.nl as') [] with
          | .nx _ _ => .ok .non S
          | .rt d S' => R.of (frzR S' d) S
          | .ex c _ _ => .ex c S
          | .bad => .bad
      else match exT G (run G k) F.body (startE F.nl as) S with
        | .nx _ S' => .ok .non S'
        | .rt d S' => .ok d S'
        | .ex c _ S' => .ex c S'
        | .bad => .bad
end PL

set_option Elab.async false
set_option linter.all false
set_option maxRecDepth 100000
/-! PLC: how plain data lies in the abstract heap. -/
namespace PL
open PySem L2

/-- the store's addresses, by index; addresses that are set aside -/
structure Wd where
  m : List Addr
  B : List Addr

/-- the script -/
def ScrAt (K : PySem.W.Frag) (H : Hp) (a : Addr) (ns : List Int) : Prop := (∃ o, H a = some (.frz o (.lst (ns.map V.int)))) ∨
  ∃ (o : Obj) (its : Array Value) (n : Nat), K.lookup a = some o ∧ o.cls = .type "list" ∧ o.dict = none ∧ o.data = .seq its n ∧ its.size ≤ sizeLine ∧ Vals (ns.map V.int) its.toList
theorem ScrAt.sq {K : PySem.W.Frag} {H : Hp} {a : Addr} {ns : List Int} (h : ScrAt K H a ns) : SqL K H a (ns.map V.int) := by
  rcases h with ⟨o, h⟩ | h
  · exact .inl (.inr ⟨o, h⟩)
  · exact .inr h
mutual
inductive Rep (K : PySem.W.Frag) (W : Wd) (H : Hp) : D → V → Prop
  | non : Rep K W H .non .non
  | bl (b : Bool) : Rep K W H (.bl b) (.bl b)
  | int (i : Int) : Rep K W H (.int i) (.int i)
  | str (x : Str) : Rep K W H (.str x) (.str x)
  | tup {xs : List D} {a : Addr} {vs : List V} : SqT K H a vs → Reps K W H xs vs → Rep K W H (.tup xs) (.ref a)
  | lst {xs : List D} {a : Addr} {vs : List V} : Rd H a (.lst vs) → a ∉ W.m → a ∉ W.B → Reps K W H xs vs → Rep K W H (.lst xs) (.ref a)
  | dct {xs : List (Ky × D)} {a : Addr} {vs : List (Key × V)} : Rd H a (.dK vs) → a ∉ W.m → a ∉ W.B → RepK K W H xs vs → Rep K W H (.dct xs) (.ref a)
  | ref {n : Nat} {a : Addr} : W.m[n]? = some a → Rep K W H (.ref n) (.ref a)
  | scr {ns : List Int} {a : Addr} : ScrAt K H a ns → Rep K W H (.scr ns) (.ref a)
inductive Reps (K : PySem.W.Frag) (W : Wd) (H : Hp) : List D → List V → Prop
  | nil : Reps K W H [] []
  | cons {d : D} {v : V} {ds : List D} {vs : List V} : Rep K W H d v → Reps K W H ds vs → Reps K W H (d :: ds) (v :: vs)
inductive RepK (K : PySem.W.Frag) (W : Wd) (H : Hp) : List (Ky × D) → List (Key × V) → Prop
  | nil : RepK K W H [] []
  | cons {k : Ky} {d : D} {v : V} {ds : List (Ky × D)} {vs : List (Key × V)} : Rep K W H d v → RepK K W H ds vs → RepK K W H ((k, d) :: ds) ((k, v) :: vs)
end
inductive RepF (K : PySem.W.Frag) (W : Wd) (H : Hp) (fn : Nat → Str) : List (Nat × D) → List (Str × V) → Prop
  | nil : RepF K W H fn [] []
  | cons {f : Nat} {d : D} {v : V} {ds : List (Nat × D)} {vs : List (Str × V)} : Rep K W H d v → RepF K W H fn ds vs → RepF K W H fn ((f, d) :: ds) ((fn f, v) :: vs)
inductive RepT (K : PySem.W.Frag) (W : Wd) (H : Hp) : List (List Ky × D) → List (List Key × V) → Prop
  | nil : RepT K W H [] []
  | cons {k : List Ky} {d : D} {v : V} {ds : List (List Ky × D)} {vs : List (List Key × V)} : Rep K W H d v → RepT K W H ds vs → RepT K W H ((k, d) :: ds) ((k, v) :: vs)

/-- addresses and names of the program's own things -/
structure Nm where
  C : Nat → Addr
  fn : Nat → Str
  X : Nat → Addr

def ObRep (K : PySem.W.Frag) (nm : Nm) (W : Wd) (H : Hp) (a : Addr) : Ob → Prop
  | .lst xs => ∃ vs, H a = some (.lst vs) ∧ Reps K W H xs vs
  | .dct xs => ∃ vs, H a = some (.dK vs) ∧ RepK K W H xs vs
  | .dtt xs => ∃ vs, H a = some (.dT vs) ∧ RepT K W H xs vs
  | .ins c fs => ∃ dx vs, H a = some (.ins (nm.C c) dx vs) ∧ RepF K W H nm.fn fs vs
structure Rel (K : PySem.W.Frag) (nm : Nm) (W : Wd) (S : Store) (H : Hp) : Prop where
  len : W.m.length = S.length
  nd : W.m.Nodup
  ob : ∀ (n : Nat) (a : Addr) (o : Ob), W.m[n]? = some a → S[n]? = some o → ObRep K nm W H a o
  bs : ∀ b ∈ W.B, b ∉ W.m ∧ ∃ o, H b = some o
def Mu : HO → Prop
  | .lst _ => True
  | .dK _ => True
  | .dT _ => True
  | .ins _ _ _ => True
  | _ => False
def Trk (W : Wd) (H : Hp) : Prop := ∀ a ∈ W.m, ∃ o, H a = some o ∧ Mu o
structure Ext (W : Wd) (H : Hp) (W' : Wd) (H' : Hp) : Prop where
  B : W'.B = W.B
  m : ∃ t, W'.m = W.m ++ t ∧ ∀ a ∈ t, H a = none
  keep : ∀ a o, H a = some o → a ∉ W.m → H' a = some o

section
variable {K : PySem.W.Frag} {nm : Nm} {W W' W'' : Wd} {H H' H'' : Hp} {S S' : Store}
theorem Rel.trk (r : Rel K nm W S H) : Trk W H := fun a ha => by
  obtain ⟨n, hn⟩ := List.mem_iff_getElem?.mp ha
  have hl : n < S.length := by rw [← r.len]; exact (List.getElem?_eq_some_iff.mp hn).1
  have q := r.ob n a S[n] hn (by simp [hl])
  revert q
  generalize S[n] = o
  intro q
  cases o with
  | lst xs => obtain ⟨vs, e, _⟩ := q; exact ⟨_, e, trivial⟩
  | dct xs => obtain ⟨vs, e, _⟩ := q; exact ⟨_, e, trivial⟩
  | dtt xs => obtain ⟨vs, e, _⟩ := q; exact ⟨_, e, trivial⟩
  | ins c fs => obtain ⟨dx, vs, e, _⟩ := q; exact ⟨_, e, trivial⟩
theorem Ext.refl : Ext W H W H := ⟨rfl, ⟨[], by simp⟩, fun _ _ e _ => e⟩
theorem Ext.mem (e : Ext W H W' H') {a : Addr} {o : HO} (h : H a = some o) (n : a ∉ W.m) : a ∉ W'.m := by
  obtain ⟨t, e1, e2⟩ := e.m
  rw [e1, List.mem_append]
  rintro (z | z)
  · exact n z
  · rw [e2 a z] at h; cases h
theorem Ext.trans (t : Trk W' H') (a : Ext W H W' H') (b : Ext W' H' W'' H'') : Ext W H W'' H'' := by
  obtain ⟨t1, e1, f1⟩ := a.m
  obtain ⟨t2, e2, f2⟩ := b.m
  refine ⟨b.B.trans a.B, ⟨t1 ++ t2, by rw [e2, e1, List.append_assoc], fun x hx => ?_⟩, fun x o h n => b.keep x o (a.keep x o h n) (a.mem h n)⟩
  rcases List.mem_append.mp hx with hx | hx
  · exact f1 x hx
  · cases q : H x with
    | none => rfl
    | some o =>
      by_cases hm : x ∈ W.m
      · obtain ⟨o', h', _⟩ := t x (by rw [e1]; exact List.mem_append_left _ hm)
        rw [f2 x hx] at h'; cases h'
      · have := a.keep x o q hm
        rw [f2 x hx] at this; cases this
theorem Ext.sqT (t : Trk W H) (e : Ext W H W' H') {a : Addr} {vs : List V} (h : SqT K H a vs) : SqT K H' a vs := by
  rcases h with (h | ⟨o, h⟩) | h
  · refine .inl (.inl (e.keep a _ h fun z => ?_))
    obtain ⟨o, q, m⟩ := t a z
    rw [h] at q; cases q; exact m
  · refine .inl (.inr ⟨o, e.keep a _ h fun z => ?_⟩)
    obtain ⟨o, q, m⟩ := t a z
    rw [h] at q; cases q; exact m
  · exact .inr h
theorem Ext.rd (e : Ext W H W' H') {a : Addr} {u : HO} (h : Rd H a u) (n : a ∉ W.m) : Rd H' a u ∧ a ∉ W'.m := by
  rcases h with h | ⟨o, h⟩
  · exact ⟨.inl (e.keep a _ h n), e.mem h n⟩
  · exact ⟨.inr ⟨o, e.keep a _ h n⟩, e.mem h n⟩
theorem Ext.scr (t : Trk W H) (e : Ext W H W' H') {a : Addr} {ns : List Int} (h : ScrAt K H a ns) : ScrAt K H' a ns := by
  rcases h with ⟨o, h⟩ | h
  · refine .inl ⟨o, e.keep a _ h fun z => ?_⟩
    obtain ⟨o, q, m⟩ := t a z
    rw [h] at q; cases q; exact m
  · exact .inr h
mutual
theorem Rep.mono (t : Trk W H) (e : Ext W H W' H') : ∀ {d : D} {v : V}, Rep K W H d v → Rep K W' H' d v
  | _, _, .non => .non
  | _, _, .bl b => .bl b
  | _, _, .int i => .int i
  | _, _, .str x => .str x
  | _, _, .tup h r => .tup (e.sqT t h) (Reps.mono t e r)
  | _, _, .lst h n b r => .lst (e.rd h n).1 (e.rd h n).2 (by rw [e.B]; exact b) (Reps.mono t e r)
  | _, _, .dct h n b r => .dct (e.rd h n).1 (e.rd h n).2 (by rw [e.B]; exact b) (RepK.mono t e r)
  | _, _, .ref h => .ref (by
      obtain ⟨t, e1, _⟩ := e.m
      rw [e1]
      exact (List.getElem?_append_left (List.getElem?_eq_some_iff.mp h).1).trans h)
  | _, _, .scr h => .scr (e.scr t h)
theorem Reps.mono (t : Trk W H) (e : Ext W H W' H') : ∀ {d : List D} {v : List V}, Reps K W H d v → Reps K W' H' d v
  | _, _, .nil => .nil
  | _, _, .cons r rs => .cons (Rep.mono t e r) (Reps.mono t e rs)
theorem RepK.mono (t : Trk W H) (e : Ext W H W' H') : ∀ {d : List (Ky × D)} {v : List (Key × V)}, RepK K W H d v → RepK K W' H' d v
  | _, _, .nil => .nil
  | _, _, .cons r rs => .cons (Rep.mono t e r) (RepK.mono t e rs)
end
theorem RepF.mono {fn : Nat → Str} (t : Trk W H) (e : Ext W H W' H') {d : List (Nat × D)} {v : List (Str × V)} (r : RepF K W H fn d v) : RepF K W' H' fn d v := by
  induction r with
  | nil => exact .nil
  | cons r _ ih => exact .cons (r.mono t e) ih
theorem RepT.mono (t : Trk W H) (e : Ext W H W' H') {d : List (List Ky × D)} {v : List (List Key × V)} (r : RepT K W H d v) : RepT K W' H' d v := by
  induction r with
  | nil => exact .nil
  | cons r _ ih => exact .cons (r.mono t e) ih
/-- something new is laid -/
theorem Ext.alloc {p : Addr} {o : HO} (h : H p = none) : Ext W H W (upd H p o) := ⟨rfl, ⟨[], by simp⟩, fun a u e _ => by rw [upd_ne (ne_of_none e h)]; exact e⟩
/-- the heap grows, the store's objects stay -/
theorem Rel.grow (r : Rel K nm W S H) (e : Ext W H W H') (k : ∀ a o, H a = some o → H' a = some o) : Rel K nm W S H' := by
  have t := r.trk
  refine ⟨r.len, r.nd, fun n a o h1 h2 => ?_, fun b hb => ?_⟩
  · have q := r.ob n a o h1 h2
    cases o with
    | lst xs => obtain ⟨vs, e1, q⟩ := q; exact ⟨vs, k _ _ e1, q.mono t e⟩
    | dct xs => obtain ⟨vs, e1, q⟩ := q; exact ⟨vs, k _ _ e1, q.mono t e⟩
    | dtt xs => obtain ⟨vs, e1, q⟩ := q; exact ⟨vs, k _ _ e1, q.mono t e⟩
    | ins c fs => obtain ⟨dx, vs, e1, q⟩ := q; exact ⟨dx, vs, k _ _ e1, q.mono t e⟩
  · obtain ⟨n, o, e1⟩ := r.bs b hb
    exact ⟨n, o, k _ _ e1⟩
theorem same_upd {p : Addr} {o : HO} (h : H p = none) : ∀ a u, H a = some u → upd H p o a = some u := fun a u e => by rw [upd_ne (ne_of_none e h)]; exact e
theorem Rel.alloc (r : Rel K nm W S H) {p : Addr} {o : HO} (h : H p = none) : Rel K nm W S (upd H p o) := r.grow (Ext.alloc h) (same_upd h)
theorem Rel.fresh (r : Rel K nm W S H) {p : Addr} (h : H p = none) : p ∉ W.m ∧ p ∉ W.B := by
  refine ⟨fun z => ?_, fun z => ?_⟩
  · obtain ⟨o, e, _⟩ := r.trk p z
    rw [h] at e; cases e
  · obtain ⟨_, o, e⟩ := r.bs p z
    rw [h] at e; cases e
theorem Reps.length {ds : List D} {vs : List V} (r : Reps K W H ds vs) : ds.length = vs.length := by
  induction ds generalizing vs with
  | nil => cases r; rfl
  | cons d ds ih => cases r with | cons a b => simp [ih b]
theorem RepK.length {ds : List (Ky × D)} {vs : List (Key × V)} (r : RepK K W H ds vs) : ds.length = vs.length := by
  induction ds generalizing vs with
  | nil => cases r; rfl
  | cons d ds ih => cases r with | cons a b => simp [ih b]
theorem Reps.append {ds es : List D} {vs us : List V} (r : Reps K W H ds vs) (q : Reps K W H es us) : Reps K W H (ds ++ es) (vs ++ us) := by
  induction ds generalizing vs with
  | nil => cases r; exact q
  | cons d ds ih => cases r with | cons a b => exact .cons a (ih b)
theorem Reps.drop {ds : List D} {vs : List V} (n : Nat) (r : Reps K W H ds vs) : Reps K W H (ds.drop n) (vs.drop n) := by
  induction ds generalizing vs n with
  | nil => cases r; simp; exact .nil
  | cons d ds ih => cases r with | cons a b => cases n with
    | zero => exact .cons a b
    | succ n => exact ih n b
theorem Reps.take {ds : List D} {vs : List V} (n : Nat) (r : Reps K W H ds vs) : Reps K W H (ds.take n) (vs.take n) := by
  induction ds generalizing vs n with
  | nil => cases r; simp; exact .nil
  | cons d ds ih => cases r with | cons a b => cases n with
    | zero => exact .nil
    | succ n => exact .cons a (ih n b)
theorem Reps.get {ds : List D} {vs : List V} (r : Reps K W H ds vs) {i : Nat} {d : D} (h : ds[i]? = some d) : ∃ v, vs[i]? = some v ∧ Rep K W H d v := by
  induction ds generalizing vs i with
  | nil => simp at h
  | cons x ds ih => cases r with | cons a b => cases i with
    | zero => simp at h; subst h; exact ⟨_, rfl, a⟩
    | succ i => simp at h; obtain ⟨v, e, q⟩ := ih b h; exact ⟨v, by simpa using e, q⟩
theorem Reps.set {ds : List D} {vs : List V} {d : D} {v : V} (i : Nat) (r : Reps K W H ds vs) (q : Rep K W H d v) : Reps K W H (ds.set i d) (vs.set i v) := by
  induction ds generalizing vs i with
  | nil => cases r; exact .nil
  | cons x ds ih => cases r with | cons a b => cases i with
    | zero => exact .cons q b
    | succ i => exact .cons a (ih i b)

/-! ### the readings -/
/-- what must hold behind r -/
def Wp (K : PySem.W.Frag) (nm : Nm) (W : Wd) (H : Hp) (r : R D) (Q : VK) (X : Nat → Hp → Prop) : Prop := match r with
  | .ok d S' => ∀ v W' H', Ext W H W' H' → Rel K nm W' S' H' → Rep K W' H' d v → Q v H'
  | .ex c S' => ∀ W' H', Ext W H W' H' → Rel K nm W' S' H' → X c H'
  | .bad => False
structure ERep (K : PySem.W.Frag) (W : Wd) (H : Hp) (env : Env) (σ : St) : Prop where
  len : env.length = σ.length
  get : ∀ (i : Nat) (d : D), env[i]? = some (some d) → ∃ v : V, σ[i]? = some (some v) ∧ Rep K W H d v
theorem ERep.mono {env : Env} {σ : St} (t : Trk W H) (e : Ext W H W' H') (r : ERep K W H env σ) : ERep K W' H' env σ :=
  ⟨r.len, fun i d h => let ⟨v, a, b⟩ := r.get i d h; ⟨v, a, b.mono t e⟩⟩
theorem ERep.set {env : Env} {σ : St} {d : D} {v : V} (i : Nat) (r : ERep K W H env σ) (q : Rep K W H d v) : ERep K W H (env.set i (some d)) (σ.set i (some v)) := by
  refine ⟨by simp [r.len], fun j d' h => ?_⟩
  by_cases e : i = j
  · subst e
    by_cases hl : i < env.length
    · rw [List.getElem?_set_self hl] at h
      cases h
      exact ⟨v, by rw [List.getElem?_set_self (by rw [← r.len]; exact hl)], q⟩
    · rw [List.getElem?_eq_none (by simpa using hl)] at h
      cases h
  · rw [List.getElem?_set_ne e] at h
    obtain ⟨v', a, b⟩ := r.get j d' h
    exact ⟨v', by rw [List.getElem?_set_ne e]; exact a, b⟩
/-- a value -/
def tM (K : PySem.W.Frag) (nm : Nm) (Wi : WX) (f : Env → Store → R D) : TE := fun σ H Q => ∃ W S env, ERep K W H env σ ∧ Rel K nm W S H ∧ Wp K nm W H (f env S) Q fun c H' => Wi (.ref (nm.X c)) none σ H'
end
theorem _root_.L2.PE.imp {X : Cx} {e : Expr} {t u : TE} (h : PE X e t) (i : ∀ σ H Q, u σ H Q → t σ H Q) : PE X e u := ⟨fun pins s σ H Q I w => h.run pins s σ H Q I (i σ H Q w)⟩
theorem _root_.L2.PT.imp {X : Cx} {e : Expr} {t u : TT} (h : PT X e t) (i : ∀ σ H Q, u σ H Q → t σ H Q) : PT X e u := ⟨fun pins s σ H Q I w => h.run pins s σ H Q I (i σ H Q w)⟩
theorem _root_.L2.PA.imp {X : Cx} {e : List Expr} {t u : TA} (h : PA X e t) (i : ∀ σ H Q, u σ H Q → t σ H Q) : PA X e u := ⟨fun p pins s σ H Q I w => h.run p pins s σ H Q I (i σ H Q w)⟩
theorem _root_.L2.PS.imp {X : Cx} {e : Stmt} {t u : TS} (h : PS X e t) (i : ∀ D σ H, u D σ H → t D σ H) : PS X e u := ⟨fun pins s σ H Q I w => h.run pins s σ H Q I (i Q σ H w)⟩
theorem _root_.L2.PSs.imp {X : Cx} {e : List Stmt} {t u : TS} (h : PSs X e t) (i : ∀ D σ H, u D σ H → t D σ H) : PSs X e u := ⟨fun pins s σ H Q I w => h.run pins s σ H Q I (i Q σ H w)⟩
end PL

set_option Elab.async false
set_option linter.all false
set_option maxRecDepth 100000
set_option maxHeartbeats 1000000
/-! PLD: the operations on values. -/
namespace PL
open PySem PySem.Spec PyProof.Rows L2
section
variable {K : PySem.W.Frag} {nm : Nm} {W W' W'' : Wd} {H H' H'' : Hp} {S S' : Store} {X : Cx}
/-- every way on from here with the value d -/
def Fin (K : PySem.W.Frag) (nm : Nm) (W : Wd) (S : Store) (H : Hp) (d : D) (Q : VK) : Prop := ∀ v W' H', Ext W H W' H' → Rel K nm W' S H' → Rep K W' H' d v → Q v H'
theorem Fin.here {d : D} {v : V} {Q : VK} (f : Fin K nm W S H d Q) (r : Rel K nm W S H) (p : Rep K W H d v) : Q v H := f v W H Ext.refl r p
theorem Fin.tup {xs : List D} {vs : List V} {Q : VK} (f : Fin K nm W S H (.tup xs) Q) (r : Rel K nm W S H) (p : Reps K W H xs vs) {a : Addr} (h : H a = none) : Q (.ref a) (upd H a (.tup vs)) :=
  f _ W _ (Ext.alloc h) (r.alloc h) (.tup (SqT.of upd_same) (p.mono r.trk (Ext.alloc h)))
theorem Fin.lst {xs : List D} {vs : List V} {Q : VK} (f : Fin K nm W S H (.lst xs) Q) (r : Rel K nm W S H) (p : Reps K W H xs vs) {a : Addr} (h : H a = none) : Q (.ref a) (upd H a (.lst vs)) :=
  f _ W _ (Ext.alloc h) (r.alloc h) (.lst (.inl upd_same) (r.fresh h).1 (r.fresh h).2 (p.mono r.trk (Ext.alloc h)))
theorem Reps.lens {xs : List D} {vs : List V} (p : Reps K W H xs vs) : vs.length = xs.length := p.length.symm
theorem Reps.nil_iff {xs : List D} {vs : List V} (p : Reps K W H xs vs) : vs = [] ↔ xs = [] := by cases p <;> simp
/-- a list as it may be read -/
theorem rep_lst {d : D} {v : V} {xs : List D} (r : Rel K nm W S H) (p : Rep K W H d v) (h : lstOf d S = some xs) : ∃ a vs, v = .ref a ∧ Rd H a (.lst vs) ∧ Reps K W H xs vs := by
  cases p with
  | lst h1 h2 h3 h4 => cases h; exact ⟨_, _, rfl, h1, h4⟩
  | @ref n a h1 =>
    simp only [lstOf] at h
    split at h
    · rename_i q
      cases h
      obtain ⟨vs, e, z⟩ := r.ob n a _ h1 q
      exact ⟨a, vs, rfl, .inl e, z⟩
    · cases h
  | _ => cases h
theorem reps_int : ∀ ns : List Int, Reps K W H (ns.map D.int) (ns.map V.int)
  | [] => .nil
  | n :: ns => .cons (.int n) (reps_int ns)
theorem rep_seq {d : D} {v : V} {xs : List D} (r : Rel K nm W S H) (p : Rep K W H d v) (h : seqOf d S = some xs) : ∃ a vs, v = .ref a ∧ (SqL K H a vs ∨ SqT K H a vs) ∧ Reps K W H xs vs := by
  cases p with
  | tup h1 h2 => cases h; exact ⟨_, _, rfl, .inr h1, h2⟩
  | lst h1 h2 h3 h4 => cases h; exact ⟨_, _, rfl, .inl (.inl h1), h4⟩
  | scr h1 => cases h; exact ⟨_, _, rfl, .inl h1.sq, reps_int _⟩
  | @ref n a h1 =>
    obtain ⟨a, vs, e, h2, h3⟩ := rep_lst r (.ref h1) h
    exact ⟨a, vs, e, .inl (.inl h2), h3⟩
  | _ => cases h
theorem rep_dct {d : D} {v : V} {xs : List (Ky × D)} (r : Rel K nm W S H) (p : Rep K W H d v) (h : dctOf d S = some xs) : ∃ a vs, v = .ref a ∧ Rd H a (.dK vs) ∧ RepK K W H xs vs := by
  cases p with
  | dct h1 h2 h3 h4 => cases h; exact ⟨_, _, rfl, h1, h4⟩
  | @ref n a h1 =>
    simp only [dctOf] at h
    split at h
    · rename_i q
      cases h
      obtain ⟨vs, e, z⟩ := r.ob n a _ h1 q
      exact ⟨a, vs, rfl, .inl e, z⟩
    · cases h
  | _ => cases h
theorem SZ_eq : SZ = sizeLine := by rw [sizeLine_eq]; rfl
theorem reps_ints {xs : List D} {is : List Int} {vs : List V} (p : Reps K W H xs vs) (h : intsD xs = some is) : vs = is.map V.int := by
  induction xs generalizing is vs with
  | nil => cases p; cases h; rfl
  | cons x xs ih =>
    cases p with
    | cons a b =>
      cases a with
      | int i =>
        simp only [intsD, Option.map_eq_some_iff] at h
        obtain ⟨js, h1, h2⟩ := h
        subst h2
        simp [ih b h1]
      | _ => cases h
theorem reps_bools {xs : List D} {c : Bool} {vs : List V} (p : Reps K W H xs vs) (h : allB xs = some c) : ∃ bs : List Bool, vs = bs.map V.bl ∧ bs.all id = c := by
  induction xs generalizing c vs with
  | nil => cases p; cases h; exact ⟨[], rfl, rfl⟩
  | cons x xs ih =>
    cases p with
    | cons a b =>
      cases a with
      | bl k =>
        simp only [allB] at h
        split at h
        · rename_i c' q
          cases h
          obtain ⟨bs, e, z⟩ := ih b q
          exact ⟨k :: bs, by simp [e], by simp [z]⟩
        · cases h
      | _ => cases h
theorem reps_boolsA {xs : List D} {c : Bool} {vs : List V} (p : Reps K W H xs vs) (h : anyB xs = some c) : ∃ bs : List Bool, vs = bs.map V.bl ∧ bs.any id = c := by
  induction xs generalizing c vs with
  | nil => cases p; cases h; exact ⟨[], rfl, rfl⟩
  | cons x xs ih =>
    cases p with
    | cons a b =>
      cases a with
      | bl k =>
        simp only [anyB] at h
        split at h
        · rename_i c' q
          cases h
          obtain ⟨bs, e, z⟩ := ih b q
          exact ⟨k :: bs, by simp [e], by simp [z]⟩
        · cases h
      | _ => cases h

/-! ### lists that may be locked -/
theorem Inv.lstR {X : Cx} {pins : List (Addr × Obj)} {σ : L2.St} {H : Hp} {s : Shared} {l : Addr} {xs : List V} (I : Inv X pins σ H s) (hH : Rd H l (.lst xs)) :
    xs.length ≤ sizeLine ∧ ∃ (its : List Value) (n : Nat), Vals xs its ∧ xs.length = its.length ∧ s.heap.get? l = some { cls := .type "list", data := .seq its.toArray n } := by
  obtain ⟨z, its, n, r, e⟩ := hH.ok I.hok
  exact ⟨z, its, n, r, r.length, e⟩
def rCatR : R2 := fun x y H Q => ∃ l b xs zs, x = .ref l ∧ y = .ref b ∧ Rd H l (.lst xs) ∧ Rd H b (.lst zs) ∧ xs.length + zs.length ≤ sizeLine ∧ ∀ p, H p = none → Q (.ref p) (upd H p (.lst (xs ++ zs)))
theorem op_catR {X : Cx} : OpR X (binaryOp .Add) rCatR := by
  intro pins s σ H x y v u Q I rx ry h
  obtain ⟨l, b, xs, zs, rfl, rfl, hH, hB, hz, q⟩ := h
  cases rx
  cases ry
  obtain ⟨z, its, n, r, hl, e⟩ := Inv.lstR I hH
  obtain ⟨z2, its2, n2, r2, hl2, e2⟩ := Inv.lstR I hB
  refine PySem.P.add_list e e2 ?_ (by rw [List.size_toArray, List.size_toArray]; omega)
  have ea : its.toArray ++ its2.toArray = (its ++ its2).toArray := by simp
  rw [ea]
  exact ⟨.ref _, _, I.lnew (t' := s.toks) (r.append r2) (by rw [List.length_append]; omega), rfl, q _ I.fresh⟩

/-! ### binary operators -/
def rAdd4 (K : PySem.W.Frag) : R2 := fun x y H Q =>
  ((((rI0 fun i j => .int (i + j)) x y H Q ∨ ∃ i j, x = .str i ∧ y = .str j ∧ i.length + j.length ≤ sizeLine ∧ Q (.str (i ++ j)) H) ∨ rCatA K x y H Q) ∨ rCatR x y H Q)
theorem op_add4 : OpR X (binaryOp .Add) (rAdd4 X.K) := ((op_add.or op_add_str).or op_catA).or op_catR
theorem cat_list {x y : D} {u v : V} {xs ys : List D} {Q : VK} (r : Rel K nm W S H) (p : Rep K W H x u) (q : Rep K W H y v) (hx : lstOf x S = some xs) (hy : lstOf y S = some ys) (hz : xs.length + ys.length ≤ SZ)
    (f : Fin K nm W S H (.lst (xs ++ ys)) Q) : rCatR u v H Q := by
  obtain ⟨a, vs, rfl, h1, p1⟩ := rep_lst r p hx
  obtain ⟨b, ws, rfl, h2, p2⟩ := rep_lst r q hy
  exact ⟨a, b, vs, ws, rfl, rfl, h1, h2, by rw [p1.lens, p2.lens, ← SZ_eq]; exact hz, fun p hp => f.lst r (p1.append p2) hp⟩
theorem cat_tup {xs ys : List D} {u v : V} {Q : VK} (r : Rel K nm W S H) (p : Rep K W H (.tup xs) u) (q : Rep K W H (.tup ys) v) (hz : xs.length + ys.length ≤ SZ) (f : Fin K nm W S H (.tup (xs ++ ys)) Q) : rCatA K u v H Q := by
  cases p with
  | @tup _ a vs h1 p1 =>
    cases q with
    | @tup _ b ws h2 p2 =>
      refine ⟨a, b, vs, ws, rfl, rfl, h1, h2, by rw [p1.lens, p2.lens, ← SZ_eq]; exact hz, fun e => ?_, fun e e' => ?_, fun e e' p hp => f.tup r (p1.append p2) hp⟩
      · rw [p1.nil_iff] at e; subst e
        exact f.here r (.tup h2 p2)
      · rw [p2.nil_iff] at e'; subst e'
        rw [List.append_nil] at f
        exact f.here r (.tup h1 p1)
theorem add_ok {x y d : D} {u v : V} {Q : VK} (r : Rel K nm W S H) (p : Rep K W H x u) (q : Rep K W H y v) (h : bop .add x y S = some d) (f : Fin K nm W S H d Q) : rAdd4 K u v H Q := by
  have lists : ∀ a b, lstOf x S = some a → lstOf y S = some b → (if a.length + b.length ≤ SZ then some (D.lst (a ++ b)) else none) = some d → rAdd4 K u v H Q := fun a b e1 e2 h => by
    split at h
    · cases h; exact .inr (cat_list r p q e1 e2 (by assumption) f)
    · cases h
  simp only [bop, addD] at h
  split at h
  · cases h; cases p; cases q; exact .inl (.inl (.inl ⟨_, _, rfl, rfl, f.here r (.int _)⟩))
  · split at h
    · rename_i hz
      cases h; cases p; cases q; exact .inl (.inl (.inr ⟨_, _, rfl, rfl, by rw [← SZ_eq]; exact hz, f.here r (.str _)⟩))
    · cases h
  · split at h
    · rename_i hz
      cases h; exact .inl (.inr (cat_tup r p q hz f))
    · cases h
  · split at h
    · exact lists _ _ (by assumption) (by assumption) h
    · cases h
theorem sub_ok {x y d : D} {u v : V} {Q : VK} (r : Rel K nm W S H) (p : Rep K W H x u) (q : Rep K W H y v) (h : bop .sub x y S = some d) (f : Fin K nm W S H d Q) : (rI0 fun i j => .int (i - j)) u v H Q := by
  simp only [bop, subD] at h
  split at h
  · cases h; cases p; cases q; exact ⟨_, _, rfl, rfl, f.here r (.int _)⟩
  · cases h
theorem mod_ok {x y d : D} {u v : V} {Q : VK} (r : Rel K nm W S H) (p : Rep K W H x u) (q : Rep K W H y v) (h : bop .mod x y S = some d) (f : Fin K nm W S H d Q) : (rI (fun _ j => 0 < j) fun i j => .int (i % j)) u v H Q := by
  simp only [bop, modD] at h
  split at h
  · split at h
    · rename_i z
      cases h; cases p; cases q; exact ⟨_, _, rfl, rfl, z, f.here r (.int _)⟩
    · cases h
  · cases h
theorem fdiv_ok {x y d : D} {u v : V} {Q : VK} (r : Rel K nm W S H) (p : Rep K W H x u) (q : Rep K W H y v) (h : bop .fdiv x y S = some d) (f : Fin K nm W S H d Q) : (rI CDivW fun i j => .int (i / j)) u v H Q := by
  simp only [bop, fdivD] at h
  split at h
  · split at h
    · rename_i z
      cases h; cases p; cases q; exact ⟨_, _, rfl, rfl, wide_div (b := 64) z.1 (by omega) (by decide) (by decide), f.here r (.int _)⟩
    · cases h
  · cases h
/-- t * k -/
def rRepR : R2 := fun x y H Q => ∃ l k xs, x = .ref l ∧ y = .int k ∧ Rd H l (.lst xs) ∧ -(2 ^ 63) ≤ k ∧ k < 2 ^ 63 ∧ xs.length * k.toNat ≤ sizeLine ∧
  ∀ p, H p = none → Q (.ref p) (upd H p (.lst (List.replicate k.toNat xs).flatten))
theorem op_repR : OpR X (binaryOp .Mult) rRepR := by
  intro pins s σ H x y v u Q I rx ry h
  obtain ⟨l, k, xs, rfl, rfl, hH, h1, h2, hz, q⟩ := h
  cases rx
  obtain ⟨t, rfl⟩ := ry
  obtain ⟨z, its, n, r, hl, e⟩ := Inv.lstR I hH
  have hlen : its.toArray.size * k.toNat ≤ sizeLine := by rw [List.size_toArray, ← hl]; exact hz
  have hcap : ¬ its.toArray.size * k.toNat > (2 ^ 63 - 1) / 8 := by
    have : (sizeLine : Nat) ≤ (2 ^ 63 - 1) / 8 := by decide
    omega
  have hfit : ¬ (!Builtin.List.listFitsIndex k) = true := by
    rw [fitsIndex_both h1 h2]
    exact Bool.false_ne_true
  have hlong : ¬ Builtin.List.listTooLong (its.toArray.size * k.toNat) = true := by
    rw [notLongL hlen]
    exact Bool.false_ne_true
  have hnew : List.foldl (fun x1 x2 => x1 ++ x2) #[] (List.replicate (if its.toArray.isEmpty = true then 0 else k.toNat) its.toArray) = (List.replicate k.toNat its).flatten.toArray := by
    have f0 : ∀ m : Nat, List.foldl (fun x1 x2 => x1 ++ x2) #[] (List.replicate m its.toArray) = (List.replicate m its).flatten.toArray := fun m => by
      have := foldl_rep its m []
      rw [List.nil_append] at this
      exact this
    rw [f0]
    cases its with
    | nil => simp
    | cons a r' => rw [if_neg (by simp)]
  refine wpAny_binaryOp_repeat_ref (T := "list") (U := "int") (by decide) ⟨_, e, rfl⟩ (fun s' => typeIs_int s' k t) noFill_list_mul F.fills_int_mul F.slot_int_rmul repeat_list F.slot_int_index.lookup
    (call_meets F.slot_int_rmul (typeIs_int s k t) F.entry_int_rmul (F.args_int_rmul_2 _ _) (int___rmul___int_list k t l its.toArray n)
      ⟨e, rfl, ⟨_, e, rfl⟩, call_meets F.slot_list_mul ⟨_, e, rfl⟩ F.entry_list_mul (F.args_list_mul_2 _ _) (AutoListH.list___mul___list_int_3 l its.toArray n k t hfit hcap hlong) ⟨e, ?_⟩⟩)
  rw [hnew]
  exact ⟨.ref _, _, I.lnew (t' := s.toks) (r.rep k.toNat) (by rw [PyProof.Rows.lm_len_rep_flat, Nat.mul_comm]; exact hz), rfl, q _ I.fresh⟩

def rMul3 (K : PySem.W.Frag) : R2 := fun x y H Q => ((rI CMul fun i j => .int (i * j)) x y H Q ∨ rRepT K x y H Q) ∨ rRepR x y H Q
theorem op_mul3 : OpR X (binaryOp .Mult) (rMul3 X.K) := (op_mul.or op_repT).or op_repR
theorem Reps.rep {xs : List D} {vs : List V} (p : Reps K W H xs vs) : ∀ k : Nat, Reps K W H (List.replicate k xs).flatten (List.replicate k vs).flatten
  | 0 => .nil
  | k + 1 => by
    rw [List.replicate_succ, List.replicate_succ, List.flatten_cons, List.flatten_cons]
    exact p.append (Reps.rep p k)
theorem small_ok {i : Int} (h : small i = true) : -(2 ^ 64) < i ∧ i < 2 ^ 64 := by
  simp only [small, Bool.and_eq_true, decide_eq_true_eq] at h
  exact h
theorem mul_ok {x y d : D} {u v : V} {Q : VK} (r : Rel K nm W S H) (p : Rep K W H x u) (q : Rep K W H y v) (h : bop .mul x y S = some d) (f : Fin K nm W S H d Q) : rMul3 K u v H Q := by
  simp only [bop, mulD] at h
  split at h
  · split at h
    · rename_i z
      cases h; cases p; cases q
      refine .inl (.inl ⟨_, _, rfl, rfl, ?_, f.here r (.int _)⟩)
      simp only [Bool.or_eq_true] at z
      rcases z with z | z
      · exact .inl (small_ok z)
      · exact .inr (small_ok z)
    · cases h
  · split at h
    · rename_i z
      cases h
      cases p with
      | @tup _ a vs h1 p1 =>
        cases q
        exact .inl (.inr ⟨a, _, vs, rfl, rfl, h1, fun e => z.2.2.2 (p1.nil_iff.mp e), z.1, z.2.1, by rw [p1.lens]; exact z.2.2.1, fun p hp => f.tup r (p1.rep _) hp⟩)
    · cases h
  · split at h
    · split at h
      · rename_i e1 z
        cases h
        cases q
        obtain ⟨a, vs, rfl, h1, p1⟩ := rep_lst r p e1
        refine .inr ⟨a, _, vs, rfl, rfl, h1, by omega, by omega, ?_, fun p hp => f.lst r (p1.rep _) hp⟩
        rw [p1.lens, sizeLine_eq]
        have := Nat.mul_le_mul z.2.2 (show (Int.toNat _) ≤ 1000 from Int.toNat_le.mpr z.2.1)
        omega
      · cases h
    · cases h
  · cases h

/-! ### comparisons -/
theorem ord_ok {p' : Int → Int → Bool} {x y : D} {b : Bool} {u v : V} {Q : VK} (r : Rel K nm W S H) (p : Rep K W H x u) (q : Rep K W H y v) (h : ordD p' x y = some b) (f : Fin K nm W S H (.bl b) Q) : (rI0 fun i j => .bl (p' i j)) u v H Q := by
  simp only [ordD] at h
  split at h
  · cases h; cases p; cases q; exact ⟨_, _, rfl, rfl, f.here r (.bl _)⟩
  · cases h
end
mutual
theorem sh_ok : ∀ (n : Nat) (d : D), sh n d = true → PyData.canLay0 (pyT d) = true ∧ PyData.depth (pyT d) ≤ n
  | _, .non, _ => ⟨rfl, Nat.zero_le _⟩
  | _, .bl _, _ => ⟨rfl, Nat.zero_le _⟩
  | _, .int _, _ => ⟨rfl, Nat.zero_le _⟩
  | _, .str x, h => ⟨h, Nat.zero_le _⟩
  | 0, .tup _, h => by simp [sh] at h
  | n + 1, .tup xs, h => by
    obtain ⟨a, b⟩ := shs_ok n xs (by simpa [sh] using h)
    exact ⟨a, Nat.succ_le_succ b⟩
  | 0, .lst _, h => by simp [sh] at h
  | n + 1, .lst xs, h => by
    obtain ⟨a, b⟩ := shs_ok n xs (by simpa [sh] using h)
    exact ⟨a, Nat.succ_le_succ b⟩
  | _, .dct _, h => by simp [sh] at h
  | _, .ref _, h => by simp [sh] at h
  | _, .scr _, h => by simp [sh] at h
theorem shs_ok : ∀ (n : Nat) (d : List D), shs n d = true → PyData.canLayAll0 (pyTs d) = true ∧ PyData.depthAll (pyTs d) ≤ n
  | _, [], _ => ⟨rfl, Nat.zero_le _⟩
  | n, x :: xs, h => by
    simp only [shs, Bool.and_eq_true] at h
    obtain ⟨a, b⟩ := sh_ok n x h.1
    obtain ⟨c, d⟩ := shs_ok n xs h.2
    exact ⟨by simp [pyTs, PyData.canLayAll0, a, c], by simp only [pyTs, PyData.depthAll]; omega⟩
end
theorem shaped_ok {d : D} (h : sh 8 d = true) : SeqAt.shaped (pyT d) = true := by
  obtain ⟨a, b⟩ := sh_ok 8 d h
  unfold SeqAt.shaped
  rw [a]
  simp; omega
section
variable {K : PySem.W.Frag} {nm : Nm} {W W' W'' : Wd} {H H' H'' : Hp} {S S' : Store} {X : Cx}
mutual
theorem rep_dp : ∀ {n : Nat} {d : D} {v : V}, Rep K W H d v → sh n d = true → Dp K H v (pyT d)
  | _, _, _, .non, _ => .non
  | _, _, _, .bl _, _ => .bl _
  | _, _, _, .int _, _ => .int _
  | _, _, _, .str _, _ => .str _
  | 0, _, _, .tup _ _, h => by simp [sh] at h
  | n + 1, _, _, .tup a r, h => .tup a (reps_dp (n := n) r (by simpa [sh] using h))
  | 0, _, _, .lst _ _ _ _, h => by simp [sh] at h
  | n + 1, _, _, .lst a _ _ r, h => .lst (.inl a) (reps_dp (n := n) r (by simpa [sh] using h))
  | _, _, _, .dct _ _ _ _, h => by simp [sh] at h
  | _, _, _, .ref _, h => by simp [sh] at h
  | _, _, _, .scr _, h => by simp [sh] at h
theorem reps_dp : ∀ {n : Nat} {d : List D} {v : List V}, Reps K W H d v → shs n d = true → DpAll K H v (pyTs d)
  | _, _, _, .nil, _ => .nil
  | _, _, _, .cons a b, h => by
    simp only [shs, Bool.and_eq_true] at h
    exact .cons (rep_dp a h.1) (reps_dp b h.2)
end
theorem rep_frz1 {d : D} {v : V} (r : Rel K nm W S H) (p : Rep K W H d v) {n : Nat} (h : sh n (frz1 d S) = true) : Dp K H v (pyT (frz1 d S)) := by
  cases p with
  | @ref k a h1 =>
    revert h
    simp only [frz1]
    split
    · rename_i xs q
      intro h
      obtain ⟨vs, e, z⟩ := r.ob k a _ h1 q
      cases n with
      | zero => simp [sh] at h
      | succ n => exact .lst (.inl (.inl e)) (reps_dp z (by simpa [sh] using h))
    · intro h; simp [sh] at h
  | non => exact .non
  | bl _ => exact .bl _
  | int _ => exact .int _
  | str _ => exact .str _
  | tup a b => exact rep_dp (.tup a b) h
  | lst a b c d => exact rep_dp (.lst a b c d) h
  | dct a b c d => exact rep_dp (.dct a b c d) h
  | scr a => exact rep_dp (W := W) (.scr a) h
def rEq2 (K : PySem.W.Frag) : R2 := fun x y H Q => rEq x y H Q ∨ rEqD K x y H Q
theorem op_eq2 (hu : X.A.units + 64 < cLine) : OpR X (compareOp .Eq) (rEq2 X.K) := op_eq.or (op_eqD hu)
def rNe2 (K : PySem.W.Frag) : R2 := fun x y H Q => rNe x y H Q ∨ rNeD K x y H Q
theorem op_ne2 (hu : X.A.units + 64 < cLine) : OpR X (compareOp .NotEq) (rNe2 X.K) := op_ne.or (op_neD hu)
theorem eq_core {x y : D} {b : Bool} {u v : V} (r : Rel K nm W S H) (p : Rep K W H x u) (q : Rep K W H y v) (h : eqD (frz1 x S) (frz1 y S) = some b) :
    (scal u v = true ∧ decide (u = v) = b) ∨ ∃ d e, Dp K H u d ∧ Dp K H v e ∧ SeqAt.shaped d = true ∧ SeqAt.shaped e = true ∧ PyData.eqv d e = b := by
  have deep : (if sh 8 (frz1 x S) && sh 8 (frz1 y S) then some (eqv2 (frz1 x S) (frz1 y S)) else none) = some b → ∃ d e, Dp K H u d ∧ Dp K H v e ∧ SeqAt.shaped d = true ∧ SeqAt.shaped e = true ∧ PyData.eqv d e = b := fun h => by
    split at h
    · rename_i z
      simp only [Bool.and_eq_true] at z
      cases h
      exact ⟨_, _, rep_frz1 r p z.1, rep_frz1 r q z.2, shaped_ok z.1, shaped_ok z.2, rfl⟩
    · cases h
  have fx : ∀ {d : D} {i : Nat}, (∀ n, d ≠ .ref n) → frz1 d S = d := fun {d _} hd => by
    cases d <;> first | rfl | exact absurd rfl (hd _)
  have sc : ∀ {d e : D}, frz1 d S = e → (∀ n, e ≠ .ref n) → (∀ l, e ≠ .lst l) → d = e := fun {d e} hd h1 h2 => by
    cases d with
    | ref n =>
      simp only [frz1] at hd
      split at hd
      · exact absurd hd.symm (h2 _)
      · exact absurd hd.symm (h1 _)
    | _ => exact hd
  simp only [eqD] at h
  split at h
  · rename_i e1 e2
    have e1 := sc e1 (by simp) (by simp); have e2 := sc e2 (by simp) (by simp)
    subst e1; subst e2
    cases h; cases p; cases q
    exact .inl ⟨rfl, by simp⟩
  · rename_i e1 e2
    have e1 := sc e1 (by simp) (by simp); have e2 := sc e2 (by simp) (by simp)
    subst e1; subst e2
    cases h; cases p; cases q
    exact .inl ⟨rfl, by simp⟩
  · rename_i e1 e2
    have e1 := sc e1 (by simp) (by simp); have e2 := sc e2 (by simp) (by simp)
    subst e1; subst e2
    cases h; cases p; cases q
    exact .inl ⟨rfl, by simp⟩
  · exact .inr (deep h)
theorem eq_ok {x y : D} {b : Bool} {u v : V} {Q : VK} (r : Rel K nm W S H) (p : Rep K W H x u) (q : Rep K W H y v) (h : eqD (frz1 x S) (frz1 y S) = some b) (f : Fin K nm W S H (.bl b) Q) : rEq2 K u v H Q := by
  rcases eq_core r p q h with ⟨h1, h2⟩ | ⟨d, e, h1, h2, h3, h4, h5⟩
  · exact .inl ⟨h1, by rw [h2]; exact f.here r (.bl _)⟩
  · exact .inr ⟨d, e, h1, h2, h3, h4, by rw [h5]; exact f.here r (.bl _)⟩
theorem ne_ok {x y : D} {b : Bool} {u v : V} {Q : VK} (r : Rel K nm W S H) (p : Rep K W H x u) (q : Rep K W H y v) (h : (eqD (frz1 x S) (frz1 y S)).map not = some b) (f : Fin K nm W S H (.bl b) Q) : rNe2 K u v H Q := by
  rw [Option.map_eq_some_iff] at h
  obtain ⟨c, h, e⟩ := h
  subst e
  rcases eq_core r p q h with ⟨h1, h2⟩ | ⟨d, e, h1, h2, h3, h4, h5⟩
  · exact .inl ⟨h1, by rw [h2]; exact f.here r (.bl _)⟩
  · exact .inr ⟨d, e, h1, h2, h3, h4, by rw [h5]; exact f.here r (.bl _)⟩
end
end PL

set_option Elab.async false
set_option linter.all false
set_option maxRecDepth 100000
set_option maxHeartbeats 1000000
/-! PLE: subscripts, slices, built-ins. -/
namespace PL
open PySem PySem.Spec PyProof.Rows L2
section
variable {K : PySem.W.Frag} {nm : Nm} {W W' W'' : Wd} {H H' H'' : Hp} {S S' : Store} {X : Cx}
theorem atI_some {α : Type} {xs : List α} {i : Int} {x : α} (h : atI xs i = some x) : ∃ j, ixN xs.length i = some j ∧ xs[j]? = some x := by
  unfold atI at h
  exact Option.bind_eq_some_iff.mp h
theorem reps_at {xs : List D} {vs : List V} {i : Int} {d : D} (p : Reps K W H xs vs) (h : atI xs i = some d) : ∃ v, atI vs i = some v ∧ Rep K W H d v := by
  obtain ⟨j, h1, h2⟩ := atI_some h
  obtain ⟨v, h3, h4⟩ := p.get h2
  exact ⟨v, by unfold atI; rw [p.lens, h1]; exact h3, h4⟩
theorem ix_ok {x y d : D} {u v : V} {Q : VK} (r : Rel K nm W S H) (p : Rep K W H x u) (q : Rep K W H y v) (h : getD_ x y S = some d) (f : Fin K nm W S H d Q) : rIx K u v H Q := by
  simp only [getD_] at h
  split at h
  · split at h
    · rename_i z
      cases p; cases q
      rw [Option.map_eq_some_iff] at h
      obtain ⟨c, h1, h2⟩ := h
      subst h2
      exact .inr (.inr ⟨_, _, c, rfl, rfl, by rw [← SZ_eq]; exact z, h1, f.here r (.str _)⟩)
    · cases h
  · split at h
    · rename_i e
      split at h
      · cases q
        obtain ⟨a, vs, rfl, h1, h2⟩ := rep_seq r p e
        obtain ⟨w, h3, h4⟩ := reps_at h2 h
        rcases h1 with h1 | h1
        · exact .inl ⟨a, vs, _, w, rfl, rfl, h1, h3, f.here r h4⟩
        · exact .inr (.inl ⟨a, vs, _, w, rfl, rfl, h1, h3, f.here r h4⟩)
      · cases h
    · cases h
/-! ### slices -/
def rSl3 (K : PySem.W.Frag) : V → Option Int → Option Int → Hp → VK → Prop := fun x lo hi H Q => (rSlA K x lo hi H Q ∨ rSlL K x lo hi H Q) ∨ rSlS x lo hi H Q
theorem sl_3 : SlR X (rSl3 X.K) := (sl_tupA.or sl_list).or sl_str
theorem reps_cut {xs : List D} {vs : List V} {lo hi : Option Int} (p : Reps K W H xs vs) : Reps K W H (cutD xs lo hi) (cutV vs lo hi) := by
  show Reps K W H ((xs.drop _).take _) ((vs.drop _).take _)
  rw [p.lens]
  exact (p.drop _).take _
theorem sl_ok {x d : D} {u : V} {lo hi : Option Int} {Q : VK} (r : Rel K nm W S H) (p : Rep K W H x u) (h : slD x lo hi S = some d) (f : Fin K nm W S H d Q) : rSl3 K u lo hi H Q := by
  simp only [slD] at h
  split at h
  · split at h
    · rename_i z
      cases h; cases p
      exact .inr ⟨_, rfl, by rw [← SZ_eq]; exact z, f.here r (.str _)⟩
    · cases h
  · cases h
    cases p with
    | @tup _ a vs h1 p1 =>
      refine .inl (.inl ⟨a, vs, rfl, h1, fun e => ?_, fun _ p hp => f.tup r (reps_cut p1) hp⟩)
      have e2 : cutV vs lo hi = vs := by
        show (vs.drop _).take _ = vs
        rw [e.1, e.2]
        simp
      refine f.here r (.tup h1 ?_)
      have := reps_cut (lo := lo) (hi := hi) p1
      rw [e2] at this
      exact this
  · cases h
    cases p with
    | @scr _ a h1 => exact .inl (.inr ⟨a, _, rfl, h1.sq, fun p hp => f.lst r (reps_cut (reps_int _)) hp⟩)
  · split at h
    · rename_i e
      cases h
      obtain ⟨a, vs, rfl, h1, p1⟩ := rep_lst r p e
      exact .inl (.inr ⟨a, vs, rfl, .inl h1, fun p hp => f.lst r (reps_cut p1) hp⟩)
    · cases h

/-! ### built-in functions -/
def CallK (X : Cx) (K : PySem.W.Frag) (nm : Nm) (g : List D → Store → Option D) (r : List V → Hp → VK → Prop) : Prop :=
  ∀ (W : Wd) (S : Store) (H : Hp) (as : List D) (vs : List V) (d : D) (Q : VK), Rel K nm W S H → Reps K W H as vs → g as S = some d → Fin K nm W S H d Q → r vs H Q
theorem CallR.or {X : Cx} {f : Value} {r r' : List V → Hp → VK → Prop} (h : CallR X f r) (h' : CallR X f r') : CallR X f (fun x H Q => r x H Q ∨ r' x H Q) := by
  intro pins s σ H xs us Q I rx q
  rcases q with q | q
  · exact h pins s σ H xs us Q I rx q
  · exact h' pins s σ H xs us Q I rx q
theorem call_lenR : CallR X (.builtin "len") (fun xs H Q => ∃ a kvs, xs = [V.ref a] ∧ Rd H a (.dK kvs) ∧ Q (.int kvs.length) H) := by
  intro pins s σ H xs us Q I r h
  obtain ⟨a, kvs, rfl, ha, q⟩ := h
  obtain ⟨u, rfl, ru⟩ := vals1 r
  cases ru
  exact d_len I ha fun t s' I' => ⟨.int kvs.length, H, I', ⟨t, rfl⟩, q⟩
def rLen3 (K : PySem.W.Frag) : List V → Hp → VK → Prop := fun vs H Q => ((∃ p ys, vs = [.ref p] ∧ (SqL K H p ys ∨ SqT K H p ys) ∧ Q (.int ys.length) H) ∨ (∃ z, vs = [.str z] ∧ z.length ≤ sizeLine ∧ Q (.int z.length) H)) ∨ (∃ p kvs, vs = [.ref p] ∧ Rd H p (.dK kvs) ∧ Q (.int kvs.length) H)
theorem call_len3 : CallR X (.builtin "len") (rLen3 X.K) := (CallR.or call_len_seq call_len_str).or call_lenR
theorem reps1 {d : D} {vs : List V} (p : Reps K W H [d] vs) : ∃ v, vs = [v] ∧ Rep K W H d v := by
  cases p with | cons a b => cases b; exact ⟨_, rfl, a⟩
theorem reps2 {d e : D} {vs : List V} (p : Reps K W H [d, e] vs) : ∃ v u, vs = [v, u] ∧ Rep K W H d v ∧ Rep K W H e u := by
  cases p with | cons a b => cases b with | cons b c => cases c; exact ⟨_, _, rfl, a, b⟩
theorem len_ok : CallK X K nm lenF (rLen3 K) := by
  intro W S H as vs d Q r p h f
  simp only [lenF] at h
  split at h <;> try (cases h; done)
  obtain ⟨v, e0, p1⟩ := reps1 p
  subst e0
  clear p
  have p := p1
  clear p1
  rw [Option.map_eq_some_iff] at h
  obtain ⟨n, h1, h2⟩ := h
  subst h2
  simp only [lenD] at h1
  split at h1
  · split at h1
    · rename_i z
      cases h1; cases p
      exact .inl (.inr ⟨_, rfl, by rw [← SZ_eq]; exact z, f.here r (.int _)⟩)
    · cases h1
  · split at h1
    · rename_i e
      cases h1
      obtain ⟨a, ws, rfl, h3, h4⟩ := rep_seq r p e
      exact .inl (.inl ⟨a, ws, rfl, h3, by rw [h4.lens]; exact f.here r (.int _)⟩)
    · rw [Option.map_eq_some_iff] at h1
      obtain ⟨kvs, h5, h6⟩ := h1
      subst h6
      obtain ⟨a, ws, rfl, h3, h4⟩ := rep_dct r p h5
      exact .inr ⟨a, ws, rfl, h3, by rw [← h4.length]; exact f.here r (.int _)⟩
theorem all_ok : CallK X K nm allF (rAll K) := by
  intro W S H as vs d Q r p h f
  simp only [allF] at h
  split at h <;> try (cases h; done)
  obtain ⟨v, e0, p1⟩ := reps1 p
  subst e0
  clear p
  have p := p1
  clear p1
  rw [Option.map_eq_some_iff] at h
  obtain ⟨b, h1, h2⟩ := h
  subst h2
  obtain ⟨xs, h3, h4⟩ := Option.bind_eq_some_iff.mp h1
  obtain ⟨a, ws, rfl, h5, h6⟩ := rep_lst r p h3
  obtain ⟨bs, rfl, h7⟩ := reps_bools h6 h4
  exact ⟨a, bs, rfl, .inl h5, by rw [h7]; exact f.here r (.bl _)⟩
theorem any_ok : CallK X K nm anyF (rAny K) := by
  intro W S H as vs d Q r p h f
  simp only [anyF] at h
  split at h <;> try (cases h; done)
  obtain ⟨v, e0, p1⟩ := reps1 p
  subst e0
  clear p
  have p := p1
  clear p1
  rw [Option.map_eq_some_iff] at h
  obtain ⟨b, h1, h2⟩ := h
  subst h2
  obtain ⟨xs, h3, h4⟩ := Option.bind_eq_some_iff.mp h1
  obtain ⟨a, ws, rfl, h5, h6⟩ := rep_lst r p h3
  obtain ⟨bs, rfl, h7⟩ := reps_boolsA h6 h4
  exact ⟨a, bs, rfl, .inl h5, by rw [h7]; exact f.here r (.bl _)⟩
theorem sum_ok : CallK X K nm sumF (rSum K) := by
  intro W S H as vs d Q r p h f
  simp only [sumF] at h
  split at h <;> try (cases h; done)
  obtain ⟨v, e0, p1⟩ := reps1 p
  subst e0
  clear p
  have p := p1
  clear p1
  rw [Option.map_eq_some_iff] at h
  obtain ⟨b, h1, h2⟩ := h
  subst h2
  obtain ⟨xs, h3, h4⟩ := Option.bind_eq_some_iff.mp h1
  obtain ⟨a, ws, rfl, h5, h6⟩ := rep_lst r p h3
  have h7 := reps_ints h6 h4
  subst h7
  exact ⟨a, b, rfl, .inl h5, f.here r (.int _)⟩
def rTup2 (K : PySem.W.Frag) : List V → Hp → VK → Prop := fun xs H Q => ∃ p ys, xs = [.ref p] ∧ ((SqL K H p ys ∧ ∀ l, H l = none → Q (.ref l) (upd H l (.tup ys))) ∨ (SqT K H p ys ∧ Q (.ref p) H))
theorem tuple_ok : CallK X K nm tupF (rTup2 K) := by
  intro W S H as vs d Q r p h f
  simp only [tupF] at h
  split at h <;> try (cases h; done)
  obtain ⟨v, e0, p1⟩ := reps1 p
  subst e0
  clear p
  have p := p1
  clear p1
  rw [Option.map_eq_some_iff] at h
  obtain ⟨xs, h1, h2⟩ := h
  subst h2
  obtain ⟨a, ws, rfl, h3, h4⟩ := rep_seq r p h1
  refine ⟨a, ws, rfl, ?_⟩
  rcases h3 with h3 | h3
  · exact .inl ⟨h3, fun l hl => f.tup r h4 hl⟩
  · exact .inr ⟨h3, f.here r (.tup h3 h4)⟩
def rLst2 (K : PySem.W.Frag) : List V → Hp → VK → Prop := fun xs H Q => ∃ p ys, xs = [.ref p] ∧ (SqL K H p ys ∨ SqT K H p ys) ∧ ∀ l, H l = none → Q (.ref l) (upd H l (.lst ys))
theorem list_ok : CallK X K nm listF (rLst2 K) := by
  intro W S H as vs d Q r p h f
  simp only [listF] at h
  split at h <;> try (cases h; done)
  obtain ⟨v, e0, p1⟩ := reps1 p
  subst e0
  clear p
  have p := p1
  clear p1
  rw [Option.map_eq_some_iff] at h
  obtain ⟨xs, h1, h2⟩ := h
  subst h2
  obtain ⟨a, ws, rfl, h3, h4⟩ := rep_seq r p h1
  exact ⟨a, ws, rfl, h3, fun l hl => f.lst r h4 hl⟩
theorem max_ok : CallK X K nm maxF (fun xs H Q => ∃ i j, xs = [.int i, .int j] ∧ Q (.int (if j > i then j else i)) H) := by
  intro W S H as vs d Q r p h f
  simp only [maxF] at h
  split at h <;> try (cases h; done)
  obtain ⟨v, u, e0, p1, q⟩ := reps2 p
  subst e0
  clear p
  have p := p1
  clear p1
  cases p; cases q; cases h
  exact ⟨_, _, rfl, f.here r (.int _)⟩
theorem min_ok : CallK X K nm minF (fun xs H Q => ∃ i j, xs = [.int i, .int j] ∧ Q (.int (if j < i then j else i)) H) := by
  intro W S H as vs d Q r p h f
  simp only [minF] at h
  split at h <;> try (cases h; done)
  obtain ⟨v, u, e0, p1, q⟩ := reps2 p
  subst e0
  clear p
  have p := p1
  clear p1
  cases p; cases q; cases h
  exact ⟨_, _, rfl, f.here r (.int _)⟩

/-! ### isinstance, truth -/
def tyN : Nat → String
  | 0 => "int"
  | 1 => "bool"
  | 2 => "str"
  | 3 => "tuple"
  | _ => "frozenset"
theorem tyx_tup {a : Addr} {vs : List V} (h : SqT K H a vs) : TyX K H (.ref a) (.type "tuple") := by
  rcases h with (h | ⟨o, h⟩) | ⟨o, its, n, h1, h2, _⟩
  · exact .base (.tup h)
  · exact .fTuple h
  · exact .kTuple h1 h2
theorem tyx_lst {a : Addr} {vs : List V} (h : Rd H a (.lst vs)) : TyX K H (.ref a) (.type "list") := by
  rcases h with h | ⟨o, h⟩
  · exact .base (.lst h)
  · exact .base (.frz h)
theorem tyx_scr {a : Addr} {ns : List Int} (h : ScrAt K H a ns) : TyX K H (.ref a) (.type "list") := by
  rcases h with ⟨o, h⟩ | ⟨o, its, n, h1, h2, _⟩
  · exact .base (.frz h)
  · exact .kList h1 h2
theorem tyx_dct {a : Addr} {vs : List (Key × V)} (h : Rd H a (.dK vs)) : TyX K H (.ref a) (.type "dict") := by
  rcases h with h | ⟨o, h⟩
  · exact .base (.dK h)
  · exact .fDict h
theorem isa_ok {t : Nat} {d : D} {v : V} {Q : VK} (r : Rel K nm W S H) (p : Rep K W H d v) (hn : notIns d S = true) (f : Fin K nm W S H (.bl (isaD t d)) Q) : ∃ ty b, TyX K H v ty ∧ PySem.W.kitOne K ty (.type (tyN t)) = some b ∧ Q (.bl b) H := by
  have key : ∀ (s : String), TyX K H v (.type s) → PySem.W.kitOne K (.type s) (.type (tyN t)) = some (isaD t d) → ∃ ty b, TyX K H v ty ∧ PySem.W.kitOne K ty (.type (tyN t)) = some b ∧ Q (.bl b) H := fun s h1 h2 => ⟨_, _, h1, h2, f.here r (.bl _)⟩
  have ob : ∀ {a : Addr} {n : Nat}, W.m[n]? = some a → d = .ref n → v = .ref a → (TyX K H v (.type "list") ∨ TyX K H v (.type "dict")) := fun {a n} h1 h2 h3 => by
    subst h2 h3
    simp only [notIns] at hn
    have hl : n < S.length := by rw [← r.len]; exact (List.getElem?_eq_some_iff.mp h1).1
    have q := r.ob n a S[n] h1 (by simp [hl])
    have e : S[n]? = some S[n] := by simp [hl]
    rw [e] at hn
    revert q hn
    generalize S[n] = o
    intro hn q
    cases o with
    | lst xs => obtain ⟨vs, e, _⟩ := q; exact .inl (.base (.lst e))
    | dct xs => obtain ⟨vs, e, _⟩ := q; exact .inr (.base (.dK e))
    | dtt xs => obtain ⟨vs, e, _⟩ := q; exact .inr (.base (.dT e))
    | ins c fs => cases hn
  have t4 : t = 0 ∨ t = 1 ∨ t = 2 ∨ t = 3 ∨ ∃ k, t = k + 4 := by
    rcases t with _ | _ | _ | _ | k
    · exact .inl rfl
    · exact .inr (.inl rfl)
    · exact .inr (.inr (.inl rfl))
    · exact .inr (.inr (.inr (.inl rfl)))
    · exact .inr (.inr (.inr (.inr ⟨k, rfl⟩)))
  rcases t4 with rfl | rfl | rfl | rfl | ⟨k, rfl⟩
  all_goals
    cases p with
    | non => exact key "NoneType" (.base .non) (kit_ty (by simp only [isaD, tyN]; decide +kernel))
    | bl b => exact key "bool" (.base (.bl _)) (kit_ty (by simp only [isaD, tyN]; decide +kernel))
    | int b => exact key "int" (.base (.int _)) (kit_ty (by simp only [isaD, tyN]; decide +kernel))
    | str b => exact key "str" (.base (.str _)) (kit_ty (by simp only [isaD, tyN]; decide +kernel))
    | tup h1 h2 => exact key "tuple" (tyx_tup h1) (kit_ty (by simp only [isaD, tyN]; decide +kernel))
    | lst h1 h2 h3 h4 => exact key "list" (tyx_lst h1) (kit_ty (by simp only [isaD, tyN]; decide +kernel))
    | dct h1 h2 h3 h4 => exact key "dict" (tyx_dct h1) (kit_ty (by simp only [isaD, tyN]; decide +kernel))
    | scr h1 => exact key "list" (tyx_scr h1) (kit_ty (by simp only [isaD, tyN]; decide +kernel))
    | ref h1 =>
      rcases ob h1 rfl rfl with h2 | h2
      · exact key "list" h2 (kit_ty (by simp only [isaD, tyN]; decide +kernel))
      · exact key "dict" h2 (kit_ty (by simp only [isaD, tyN]; decide +kernel))

/-! ### in -/
theorem flat_ok {d : D} {v : V} {e : D} {u : V} {b : Bool} (p : Rep K W H d v) (q : Rep K W H e u) (h : flatEq d e = some b) : flatV v = true ∧ flatV u = true ∧ eqV v u = b := by
  cases p <;> cases q <;> simp only [flatEq] at h <;> first | (cases h; done) | (cases h; refine ⟨rfl, rfl, ?_⟩; simp [eqV, Bool.beq_eq_decide_eq]) 
theorem mem_ok {x : D} {u : V} (p : Rep K W H x u) : ∀ {xs : List D} {vs : List V} {b : Bool}, Reps K W H xs vs → memF x xs = some b → xs ≠ [] → flatV u = true ∧ vs.all flatV = true ∧ inV u vs = b := by
  intro xs
  induction xs with
  | nil => intro vs b q h hn; exact absurd rfl hn
  | cons y ys ih =>
    intro vs b q h _
    cases q with
    | @cons _ v _ vs' a c =>
      simp only [memF] at h
      split at h
      · rename_i k1 k2 e1 e2
        cases h
        obtain ⟨f1, f2, f3⟩ := flat_ok a p e1
        cases ys with
        | nil =>
          cases c
          cases e2
          exact ⟨f2, by simp [f1], by simp [inV, f3]⟩
        | cons z zs =>
          obtain ⟨g1, g2, g3⟩ := ih c e2 (by simp)
          exact ⟨f2, by simp only [List.all_cons, f1, g2, Bool.and_self], by
            unfold inV at g3 ⊢
            rw [List.any_cons, f3, g3]⟩
      · cases h
def rIn2 (K : PySem.W.Frag) (neg : Bool) : R2 := fun x y H Q => (∃ i j, x = .str i ∧ y = .str j ∧ Q (.bl (if neg then !(!(Builtin.Str.occurrences j i 0 j.length 1).isEmpty) else !(Builtin.Str.occurrences j i 0 j.length 1).isEmpty)) H) ∨ rIn K neg x y H Q
theorem in_core {x y : D} {b : Bool} {u v : V} (r : Rel K nm W S H) (p : Rep K W H x u) (q : Rep K W H y v) (h : inD x y S = some b) (hf : flatD x = true) :
    (∃ i j, u = .str i ∧ v = .str j ∧ inS i j = b) ∨ ∃ a vs, v = .ref a ∧ (SqL K H a vs ∨ SqT K H a vs) ∧ flatV u = true ∧ vs.all flatV = true ∧ inV u vs = b := by
  simp only [inD] at h
  split at h
  · cases h; cases p; cases q; exact .inl ⟨_, _, rfl, rfl, rfl⟩
  · split at h
    · rename_i xs e
      obtain ⟨a, vs, rfl, h1, h2⟩ := rep_seq r q e
      by_cases hn : xs = []
      · subst hn
        cases h2; cases h
        refine .inr ⟨a, [], rfl, h1, ?_, rfl, rfl⟩
        cases p <;> first | rfl | cases hf
      · obtain ⟨g1, g2, g3⟩ := mem_ok p h2 h hn
        exact .inr ⟨a, vs, rfl, h1, g1, g2, g3⟩
    · cases h
theorem op_in2 : OpR X (compareOp .In) (rIn2 X.K false) := op_in_str.or op_in_seq
theorem op_nin2 : OpR X (compareOp .NotIn) (rIn2 X.K true) := op_notin_str.or op_notIn_seq
theorem in_ok {x y : D} {b ng : Bool} {u v : V} {Q : VK} (r : Rel K nm W S H) (p : Rep K W H x u) (q : Rep K W H y v) (h : inD x y S = some b) (hf : flatD x = true) (f : Fin K nm W S H (.bl (if ng then !b else b)) Q) : rIn2 K ng u v H Q := by
  rcases in_core r p q h hf with ⟨i, j, rfl, rfl, e⟩ | ⟨a, vs, rfl, h1, h2, h3, e⟩
  · refine .inl ⟨i, j, rfl, rfl, ?_⟩
    unfold inS at e
    rw [e]
    exact f.here r (.bl _)
  · exact .inr ⟨a, vs, rfl, h1, h2, h3, by rw [e]; exact f.here r (.bl _)⟩
end
end PL

set_option Elab.async false
set_option linter.all false
set_option maxRecDepth 100000
set_option maxHeartbeats 1000000
/-! PLF: the evaluator against the model: expressions. -/
namespace PL
open PySem PySem.Spec PyProof.Rows L2

/-! ### readings of the evaluator's results -/
section
variable {K : PySem.W.Frag} {nm : Nm} {W W' W'' : Wd} {H H' H'' : Hp} {S S' : Store} {X : Cx} {Wi : WX}
/-- what must hold behind r, by kind of value -/
def Wq {α β : Type} (K : PySem.W.Frag) (nm : Nm) (rp : Wd → Hp → α → β → Prop) (W : Wd) (H : Hp) (r : R α) (Q : β → Hp → Prop) (Xc : Nat → Hp → Prop) : Prop := match r with
  | .ok d S' => ∀ v W' H', Ext W H W' H' → Rel K nm W' S' H' → rp W' H' d v → Q v H'
  | .ex c S' => ∀ W' H', Ext W H W' H' → Rel K nm W' S' H' → Xc c H'
  | .bad => False
theorem Wq.mono {α β : Type} {rp : Wd → Hp → α → β → Prop} {r : R α} {Q Q' : β → Hp → Prop} {Xc : Nat → Hp → Prop} (w : Wq K nm rp W H r Q Xc) (h : ∀ v H, Q v H → Q' v H) : Wq K nm rp W H r Q' Xc := by
  cases r with
  | ok d S => exact fun v W' H' e r p => h _ _ (w v W' H' e r p)
  | ex c S => exact w
  | bad => exact w
theorem Wq.ext {α β : Type} {rp : Wd → Hp → α → β → Prop} {r : R α} {Q : β → Hp → Prop} {Xc : Nat → Hp → Prop} (e : Ext W H W' H') (t : Trk W' H') (w : Wq K nm rp W H r Q Xc) : Wq K nm rp W' H' r Q Xc := by
  cases r with
  | ok d S => exact fun v W2 H2 e2 r p => w v W2 H2 (e.trans t e2) r p
  | ex c S => exact fun W2 H2 e2 r => w W2 H2 (e.trans t e2) r
  | bad => exact w
theorem Wq.bind {α β γ δ : Type} {rp : Wd → Hp → α → β → Prop} {rq : Wd → Hp → γ → δ → Prop} {r : R α} {f : α → Store → R γ} {Q : δ → Hp → Prop} {Xc : Nat → Hp → Prop} (w : Wq K nm rq W H (r.bind f) Q Xc) :
    Wq K nm rp W H r (fun v H1 => ∃ W1 S1 d, Ext W H W1 H1 ∧ Rel K nm W1 S1 H1 ∧ rp W1 H1 d v ∧ Wq K nm rq W1 H1 (f d S1) Q Xc) Xc := by
  cases r with
  | ok d S => exact fun v W1 H1 e r p => ⟨W1, S, d, e, r, p, Wq.ext e r.trk w⟩
  | ex c S => exact w
  | bad => exact w
/-- kinds of values -/
abbrev rpD (K : PySem.W.Frag) : Wd → Hp → D → V → Prop := Rep K
def rpB : Wd → Hp → Bool → Bool → Prop := fun _ _ a b => a = b
def rpA (K : PySem.W.Frag) : Wd → Hp → D → List V → Prop := fun W H d vs => ∃ xs, d = .tup xs ∧ Reps K W H xs vs
abbrev Xw (nm : Nm) (Wi : WX) (σ : L2.St) : Nat → Hp → Prop := fun c H' => Wi (.ref (nm.X c)) none σ H'
def tX {α β : Type} (K : PySem.W.Frag) (nm : Nm) (rp : Wd → Hp → α → β → Prop) (Wi : WX) (f : Env → Store → R α) : L2.St → Hp → (β → Hp → Prop) → Prop := fun σ H Q => ∃ W S env, ERep K W H env σ ∧ Rel K nm W S H ∧ Wq K nm rp W H (f env S) Q (Xw nm Wi σ)
abbrev tE (K : PySem.W.Frag) (nm : Nm) (Wi : WX) (f : Env → Store → R D) : TE := tX K nm (rpD K) Wi f
abbrev tT (K : PySem.W.Frag) (nm : Nm) (Wi : WX) (f : Env → Store → R Bool) : TT := tX K nm rpB Wi f
abbrev tA (K : PySem.W.Frag) (nm : Nm) (Wi : WX) (f : Env → Store → R D) : TA := tX K nm (rpA K) Wi f
theorem R.bind_assoc {α β γ : Type} (r : R α) (f : α → Store → R β) (g : β → Store → R γ) : (r.bind f).bind g = r.bind fun a S => (f a S).bind g := by cases r <;> rfl
/-- a value that is there at once -/
theorem Wq.of {α β : Type} {rp : Wd → Hp → α → β → Prop} {o : Option α} {Q : β → Hp → Prop} {Xc : Nat → Hp → Prop} (w : Wq K nm rp W H (R.of o S) Q Xc) : ∃ d, o = some d ∧ ∀ v W' H', Ext W H W' H' → Rel K nm W' S H' → rp W' H' d v → Q v H' := by
  cases o with
  | some d => exact ⟨d, rfl, w⟩
  | none => exact w.elim
theorem Wq.fin {o : Option D} {Q : VK} {Xc : Nat → Hp → Prop} (w : Wq K nm (rpD K) W H (R.of o S) Q Xc) : ∃ d, o = some d ∧ Fin K nm W S H d Q := w.of
section
variable {γ δ : Type} {rq : Wd → Hp → γ → δ → Prop}
theorem tX.one {fa : Env → Store → R D} {g : Env → D → Store → R γ} {σ : L2.St} {H : Hp} {Q : δ → Hp → Prop} (w : tX K nm rq Wi (fun env S => (fa env S).bind fun x S => g env x S) σ H Q) :
    tE K nm Wi fa σ H fun x H1 => ∃ W S dx env, ERep K W H1 env σ ∧ Rel K nm W S H1 ∧ Rep K W H1 dx x ∧ Wq K nm rq W H1 (g env dx S) Q (Xw nm Wi σ) := by
  obtain ⟨W, S, env, E, r, w⟩ := w
  refine ⟨W, S, env, E, r, (Wq.bind (rp := rpD K) w).mono fun x H1 ⟨W1, S1, dx, e1, r1, p1, w1⟩ => ⟨W1, S1, dx, env, E.mono r.trk e1, r1, p1, w1⟩⟩
theorem tX.test {fa : Env → Store → R Bool} {g : Env → Bool → Store → R γ} {σ : L2.St} {H : Hp} {Q : δ → Hp → Prop} (w : tX K nm rq Wi (fun env S => (fa env S).bind fun x S => g env x S) σ H Q) :
    tT K nm Wi fa σ H fun k H1 => tX K nm rq Wi (fun env S => g env k S) σ H1 Q := by
  obtain ⟨W, S, env, E, r, w⟩ := w
  refine ⟨W, S, env, E, r, (Wq.bind (rp := rpB) w).mono fun x H1 h => ?_⟩
  obtain ⟨W1, S1, dx, e1, r1, p1, w1⟩ := h
  cases (show dx = x from p1)
  exact ⟨W1, S1, env, E.mono r.trk e1, r1, w1⟩
theorem tX.args {fa : Env → Store → R D} {g : Env → D → Store → R γ} {σ : L2.St} {H : Hp} {Q : δ → Hp → Prop} (w : tX K nm rq Wi (fun env S => (fa env S).bind fun x S => g env x S) σ H Q) :
    tA K nm Wi fa σ H fun vs H1 => ∃ W S xs env, ERep K W H1 env σ ∧ Rel K nm W S H1 ∧ Reps K W H1 xs vs ∧ Wq K nm rq W H1 (g env (.tup xs) S) Q (Xw nm Wi σ) := by
  obtain ⟨W, S, env, E, r, w⟩ := w
  refine ⟨W, S, env, E, r, (Wq.bind (rp := rpA K) w).mono fun x H1 h => ?_⟩
  obtain ⟨W1, S1, dx, e1, r1, ⟨xs, e2, p1⟩, w1⟩ := h
  subst e2
  exact ⟨W1, S1, xs, env, E.mono r.trk e1, r1, p1, w1⟩
theorem tX.op {fa fb : Env → Store → R D} {g : D → D → Store → R γ} {rr : R2} {σ : L2.St} {H : Hp} {Q : δ → Hp → Prop} {Q' : VK}
    (w : tX K nm rq Wi (fun env S => (fa env S).bind fun x S => (fb env S).bind fun y S => g x y S) σ H Q)
    (hr : ∀ {W : Wd} {S : Store} {H : Hp} {dx dy : D} {x y : V}, Rel K nm W S H → Rep K W H dx x → Rep K W H dy y → Wq K nm rq W H (g dx dy S) Q (Xw nm Wi σ) → rr x y H Q') : tOp rr (tE K nm Wi fa) (tE K nm Wi fb) σ H Q' := by
  obtain ⟨W, S, env, E, r, z⟩ := w
  refine ⟨W, S, env, E, r, (Wq.bind (rp := rpD K) z).mono fun x H1 z => ?_⟩
  obtain ⟨W1, S1, dx, e1, r1, p1, z⟩ := z
  refine ⟨W1, S1, env, E.mono r.trk e1, r1, (Wq.bind (rp := rpD K) z).mono fun y H2 z => ?_⟩
  obtain ⟨W2, S2, dy, e2, r2, p2, z⟩ := z
  exact hr r2 (p1.mono r1.trk e2) p2 z
end
theorem takes_none {X : Cx} : Takes X (fun _ _ _ _ => False) := takes0
end

/-! ### the check: e is what the written expression says -/
structure Sx where
  fnN : Nat → Option Str
  coN : Nat → Option Str
  blN : List Str
  clN : List Str
  meN : List Str
  fdN : List Str
  exN : List Str
def vis (sc : Scope) (x : Str) : Bool := match sc.names.lookup x with
  | some .local => true
  | some .cell => true
  | some .free => true
  | _ => false
def gl (sc : Scope) (x : Str) : Bool := decide (sc.names.lookup x = some .globalImplicit)
def dbg (x : Str) : Bool := x == ("__debug__" : Str)
def bOp : BOp → Operator
  | .add => .Add | .sub => .Sub | .mul => .Mult | .mod => .Mod | .fdiv => .FloorDiv
def cOp : COp → CmpOp
  | .eq => .Eq | .ne => .NotEq | .lt => .Lt | .le => .LtE | .gt => .Gt | .ge => .GtE | .inn => .In | .nin => .NotIn
def bfN : Bf → Str
  | .len => "len" | .all => "all" | .any => "any" | .sum => "sum" | .tuple => "tuple" | .list => "list" | .sorted => "sorted" | .str => "str" | .int => "int" | .max => "max" | .min => "min"
def bfOk : Bf → Bool
  | .len => true | .all => true | .any => true | .sum => true | .tuple => true | .list => true | .max => true | .min => true
  | _ => false
def isSet : Expr → Bool
  | .Set _ _ _ => true
  | _ => false
def plainT : Expr → Bool
  | .Name _ _ => true | .Call _ _ _ _ => true | .Attribute _ _ _ => true | .Subscript _ _ _ => true | .Constant _ _ _ => true | .BinOp _ _ _ _ => true
  | _ => false
def notSlice : Expr → Bool
  | .Slice _ _ _ _ => false
  | _ => true
def notStar : Expr → Bool
  | .Starred _ _ => false
  | _ => true
def tyS : Nat → Str
  | 0 => "int" | 1 => "bool" | 2 => "str" | 3 => "tuple" | _ => "frozenset"
def slots : Tg → List Nat
  | .one i => [i]
  | .many is => is
/-- a name that is stored: fl: within a def's own frame, cells too -/
def tgN (N : List Str) (fl : Bool) (sc : Scope) (i : Nat) : Expr → Bool
  | .Name x _ => decide (N[i]? = some x) && (decide (sc.names.lookup x = some .local) || (fl && decide (sc.names.lookup x = some .cell)))
  | _ => false
def tgNs (N : List Str) (fl : Bool) (sc : Scope) : List Nat → List Expr → Bool
  | [], [] => true
  | i :: is, e :: es => tgN N fl sc i e && tgNs N fl sc is es
  | _, _ => false
def tgC (N : List Str) (fl : Bool) (sc : Scope) : Tg → Expr → Bool
  | .one i, e => tgN N fl sc i e
  | .many is, .Tuple es _ _ => tgNs N fl sc is es
  | _, _ => false
def tgNames : Expr → List Str
  | .Name x _ => [x]
  | .Tuple es _ _ => es.map fun e => match e with | .Name x _ => x | _ => ""
  | _ => []
def ownOf (tg : Tg) (t : Expr) : List (Str × Nat) := (tgNames t).zip (slots tg)
def isTup : Expr → Bool
  | .Tuple _ _ _ => true
  | _ => false
/-- the arguments of what is walked -/
def itArgs (blN : List Str) (k : IK) (sc : Scope) (t iter : Expr) : Option (List Expr) := match iter with
  | .Call (.Name g _) es [] _ => if gl sc g && decide (g ∈ blN) then (match k, es with
    | .rng1, [_] => if g = ("range" : Str) then some es else none
    | .rng2, [_, _] => if g = ("range" : Str) then some es else none
    | .zip, [_, _] => if g = ("zip" : Str) ∧ isTup t then some es else none
    | _, _ => none) else none
  | _ => none

section
variable (Y : Sx) (N : List Str)
mutual
def chk : E → Scope → Expr → Bool
  | .var i, sc, a => match a with
    | .Name x _ => decide (N[i]? = some x) && vis sc x && !dbg x && !(x == ("__classdict__" : Str))
    | _ => false
  | .con d, sc, a => match a, d with
    | .Constant (.int i) _ _, .int j => decide (i = j)
    | .Constant (.bool i) _ _, .bl j => decide (i = j)
    | .Constant .none _ _, .non => true
    | .Constant (.str i) _ _, .str j => decide (i = j)
    | _, _ => false
  | .glb j, sc, a => match a with
    | .Name x _ => decide (Y.coN j = some x) && gl sc x && !dbg x
    | _ => false
  | .bin o a b, sc, x => match x with
    | .BinOp p op q _ => decide (op = bOp o) && chk a sc p && chk b sc q
    | _ => false
  | .cmp o a b, sc, x => match x with
    | .Compare p [op] [q] _ => decide (op = cOp o) && !isSet q && chk a sc p && chk b sc q
    | _ => false
  | .chain o o' a b c, sc, x => match x with
    | .Compare p [op, op'] [q, r] _ => decide (op = cOp o) && decide (op' = cOp o') && !isSet q && !isSet r && chk a sc p && chk b sc q && chk c sc r
    | _ => false
  | .isn a, sc, x => match x with
    | .Compare p [.Is] [.Constant .none _ _] _ => chk a sc p
    | _ => false
  | .ntn a, sc, x => match x with
    | .Compare p [.IsNot] [.Constant .none _ _] _ => chk a sc p
    | _ => false
  | .neg a, sc, x => match x with
    | .UnaryOp .USub p _ => chk a sc p
    | _ => false
  | .nt a, sc, x => match x with
    | .UnaryOp .Not p _ => chk a sc p
    | _ => false
  | .one a, sc, x => match x with
    | .BoolOp _ [p] _ => chk a sc p
    | _ => false
  | .and a b, sc, x => match x with
    | .BoolOp .And (p :: q :: r) pos => chk a sc p && chk b sc (.BoolOp .And (q :: r) pos)
    | _ => false
  | .or a b, sc, x => match x with
    | .BoolOp .Or (p :: q :: r) pos => chk a sc p && chk b sc (.BoolOp .Or (q :: r) pos)
    | _ => false
  | .ite c a b, sc, x => match x with
    | .IfExp t p q _ => chkT c sc t && chk a sc p && chk b sc q
    | _ => false
  | .isa a t, sc, x => match x with
    | .Call (.Name f _) [p, .Name g _] [] _ => decide (f = ("isinstance" : Str)) && decide (g = tyS t) && decide (t < 4) && gl sc f && gl sc g && decide (f ∈ Y.blN) && decide (g ∈ Y.blN) && notStar p && chk a sc p
    | _ => false
  | .call f as, sc, x => match x with
    | .Call (.Name g _) (p :: ps) [] _ => decide (Y.fnN f = some g) && gl sc g && !dbg g && chkA as sc (p :: ps)
    | _ => false
  | .bf f as, sc, x => match x with
    | .Call (.Name g _) (p :: ps) [] _ => bfOk f && decide (g = bfN f) && gl sc g && decide (g ∈ Y.blN) && chkA as sc (p :: ps)
    | _ => false
  | .ix a i, sc, x => match x with
    | .Subscript p q _ => notSlice q && chk a sc p && chk i sc q
    | _ => false
  | .sl a lo hi, sc, x => match x with
    | .Subscript p (.Slice l h none _) _ => chk a sc p && (match l with | none => isEmp lo | some l => !isEmp lo && chk lo sc l) && (match h with | none => isEmp hi | some h => !isEmp hi && chk hi sc h)
    | _ => false
  | .tup as, sc, x => match x with
    | .Tuple es _ _ => chkA as sc es
    | _ => false
  | .lst as, sc, x => match x with
    | .List es _ => chkA as sc es
    | _ => false
  | .comp k src tg c e, sc, x => match x with
    | .ListComp elt [⟨t, iter, ifs, asy⟩] scope _ => decide (asy = 0) && !isSet iter && blkC N sc scope (ownOf tg t) && decide ((ownOf tg t).map (·.2) = slots tg) && tgC N false (relS scope sc) tg t &&
      (match k with
        | .plain => chk src sc iter
        | k => match itArgs Y.blN k sc t iter with
          | some es => chkA src sc es
          | none => false) &&
      (match ifs with
        | [] => isEmp c
        | [i] => chkT c (relS scope sc) i
        | _ => false) && chk e (relS scope sc) elt
    | _ => false
  | _, _, _ => false
def chkT : E → Scope → Expr → Bool
  | .nt a, sc, x => match x with
    | .UnaryOp .Not p _ => chkT a sc p
    | _ => false
  | .one a, sc, x => match x with
    | .BoolOp _ [p] _ => chkT a sc p
    | _ => false
  | .and a b, sc, x => match x with
    | .BoolOp .And (p :: q :: r) pos => chkT a sc p && chkT b sc (.BoolOp .And (q :: r) pos)
    | _ => false
  | .or a b, sc, x => match x with
    | .BoolOp .Or (p :: q :: r) pos => chkT a sc p && chkT b sc (.BoolOp .Or (q :: r) pos)
    | _ => false
  | .cmp o a b, sc, x => match x with
    | .Compare p [op] [q] _ => decide (op = cOp o) && !isSet q && chk a sc p && chk b sc q
    | _ => false
  | .chain o o' a b c, sc, x => match x with
    | .Compare p [op, op'] [q, r] _ => decide (op = cOp o) && decide (op' = cOp o') && !isSet q && !isSet r && chk a sc p && chk b sc q && chk c sc r
    | _ => false
  | .isn a, sc, x => match x with
    | .Compare p [.Is] [.Constant .none _ _] _ => chk a sc p
    | _ => false
  | .ntn a, sc, x => match x with
    | .Compare p [.IsNot] [.Constant .none _ _] _ => chk a sc p
    | _ => false
  | .val a, sc, x => plainT x && chk a sc x
  | _, _, _ => false
def chkA : E → Scope → List Expr → Bool
  | .nil, _, es => match es with
    | [] => true
    | _ => false
  | .cons a as, sc, es => match es with
    | e :: es => notStar e && chk a sc e && chkA as sc es
    | _ => false
  | _, _, _ => false
end
end
end PL

set_option Elab.async false
set_option linter.all false
set_option maxRecDepth 100000
set_option maxHeartbeats 1000000
/-! PLG: expressions are as the evaluator says. -/
namespace PL
open PySem PySem.Spec PyProof.Rows L2

structure GOk (K : PySem.W.Frag) (mg : Str → Option Value) (G : Tab) (Y : Sx) (nm : Nm) (fa : Nat → Addr) (fd : Nat → FuncData) (ps : Nat → List Str) : Prop where
  co : ∀ (j : Nat) (x : Str), Y.coN j = some x → ∃ d u v, G.consts j = some d ∧ mg x = some u ∧ RelV v u ∧ ∀ W H, Rep K W H d v
  fn : ∀ (f : Nat) (x : Str), Y.fnN f = some x → (G.fns f).isSome = true ∧ mg x = some (.ref (fa f)) ∧ PySem.W.keepIn K (.ref (fa f)) = true
  bi : ∀ f : Nat, (G.fns f).isSome = true → Binds K (fd f) (ps f) []
  bl : ∀ x ∈ Y.blN, mg x = none
structure COk (P : Program) (w : World) (K : PySem.W.Frag) (mg : Str → Option Value) (base : Heap) (kk : Nat) (N : List Str) (sc : Scope) (X : Cx) : Prop where
  hP : X.prog = P
  hw : X.w = w
  hK : X.K = K
  hm : X.mg = mg
  hb : X.base = base
  hN : X.N = N
  nd : N.Nodup
  sc : X.env.scope = sc
  room : Room (2 * kk + 1) X.A
  calm : X.calm = true
/-- a def's promise: it hands back what the evaluator says -/
def spF (K : PySem.W.Frag) (nm : Nm) (G : Tab) (kk f : Nat) : Sp := fun vs H Q E => ∃ W S as, Rel K nm W S H ∧ Reps K W H as vs ∧ Wq K nm (rpD K) W H (run G kk f as S) Q fun c H' => E (.ref (nm.X c)) none H'

section
variable {P : Program} {w : World} {K : PySem.W.Frag} {mg : Str → Option Value} {base : Heap} {G : Tab} {Y : Sx} {nm : Nm} {fa : Nat → Addr} {fd : Nat → FuncData} {ps : Nat → List Str} {kk : Nat} {N : List Str}
variable (P w K mg base G Y nm kk N) in
structure Snd (e : E) : Prop where
  v : ∀ (sc : Scope) (a : Expr) (X : Cx) (Wi : WX), chk Y N e sc a = true → COk P w K mg base kk N sc X → Takes X Wi → PE X a (tE K nm Wi (ev G (run G kk) e))
  t : ∀ (sc : Scope) (a : Expr) (X : Cx) (Wi : WX), chkT Y N e sc a = true → COk P w K mg base kk N sc X → Takes X Wi → PT X a (tT K nm Wi fun env S => mapT (ev G (run G kk) e env S))
  l : ∀ (sc : Scope) (a : List Expr) (X : Cx) (Wi : WX), chkA Y N e sc a = true → COk P w K mg base kk N sc X → Takes X Wi → PA X a (tA K nm Wi (ev G (run G kk) e))
variable {sc : Scope} {X : Cx} {Wi : WX}
theorem vis_ok (C : COk P w K mg base kk N sc X) {x : Str} (h : vis sc x = true) : Vis X.env.scope x := by
  rw [C.sc]
  unfold vis at h
  split at h
  · exact .inl (by assumption)
  · exact .inr (.inl (by assumption))
  · exact .inr (.inr (by assumption))
  · cases h
theorem gl_ok (C : COk P w K mg base kk N sc X) {x : Str} (h : gl sc x = true) : Gl X x := by
  have := of_decide_eq_true h
  show X.env.scope.names.lookup x = _
  rw [C.sc]; exact this
theorem dbg_ok {x : Str} (h : dbg x = false) : (x == ("__debug__" : Str)) = false := h
theorem star_ok {e : Expr} {es : List Expr} {env : PySem.Env} (h : notStar e = true) : starEach (e :: es) env = (false, eval e env) :: starEach es env := by
  cases e <;> first | rfl | cases h
theorem mark_ok {op : CmpOp} {e : Expr} (h : isSet e = false) : behindInMarks op e = false := by
  cases e <;> first | rfl | cases h
theorem stars_ok {e : E} {env : PySem.Env} {sc : Scope} : ∀ {as : E} {es : List Expr}, chkA Y N as sc es = true → ∀ {pos : Pos}, (backTo pos (starEach es env)).any (·.1) = false := by
  intro as
  induction as with
  | nil => intro es h pos; cases es <;> first | rfl | (simp [chkA] at h)
  | cons a as _ ih =>
    intro es h pos
    cases es with
    | nil => rfl
    | cons e es =>
      simp only [chkA, Bool.and_eq_true] at h
      rw [star_ok h.1.1]
      have := ih h.2 (pos := pos)
      simpa [backTo] using this
  | _ => intro es h pos; simp [chkA] at h

theorem stars_ok1 {env : PySem.Env} {sc : Scope} {as : E} {e : Expr} {es : List Expr} (h : chkA Y N as sc (e :: es) = true) {pos : Pos} : (backTo pos (starEach es env)).any (·.1) = false := by
  cases as <;> simp only [chkA, Bool.and_eq_true] at h <;> first | (cases h; done) | exact stars_ok (e := .emp) h.2
/-! ### names, constants -/
theorem s_var (i : Nat) : Snd P w K mg base G Y nm kk N (.var i) := by
  refine ⟨fun sc a X Wi h C tk => ?_, fun sc a X Wi h C tk => by simp [chkT] at h, fun sc a X Wi h C tk => by simp [chkA] at h⟩
  cases a <;> simp only [chk] at h <;> first | (cases h; done) | skip
  simp only [Bool.and_eq_true, Bool.not_eq_true', decide_eq_true_eq] at h
  obtain ⟨⟨⟨h1, h2⟩, h3⟩, h4⟩ := h
  refine (pe_var (i := i) (by rw [C.hN]; exact h1) (vis_ok C h2) h3 h4).imp fun σ H Q ⟨W, S, env, E, r, q⟩ => ?_
  simp only [ev] at q
  split at q
  · rename_i d e
    obtain ⟨v, e1, e2⟩ := E.get i d e
    exact ⟨v, e1, q v W H Ext.refl r e2⟩
  · exact q.elim
theorem s_con (d : D) : Snd P w K mg base G Y nm kk N (.con d) := by
  refine ⟨fun sc a X Wi h C tk => ?_, fun sc a X Wi h C tk => by simp [chkT] at h, fun sc a X Wi h C tk => by simp [chkA] at h⟩
  simp only [chk] at h
  have fin : ∀ {v : V} {σ : L2.St} {H : Hp} {Q : VK}, (∀ W, Rep K W H d v) → tE K nm Wi (ev G (run G kk) (.con d)) σ H Q → Q v H := fun {v σ H Q} p ⟨W, S, env, E, r, q⟩ => q v W H Ext.refl r (p W)
  split at h <;> first | (cases h; done) | (have h' := of_decide_eq_true h; subst h') | skip
  · exact pe_int.imp fun σ H Q q => fin (fun _ => .int _) q
  · exact pe_bl.imp fun σ H Q q => fin (fun _ => .bl _) q
  · exact pe_non.imp fun σ H Q q => fin (fun _ => .non) q
  · exact pe_str.imp fun σ H Q q => fin (fun _ => .str _) q
theorem s_glb (g : GOk K mg G Y nm fa fd ps) (j : Nat) : Snd P w K mg base G Y nm kk N (.glb j) := by
  refine ⟨fun sc a X Wi h C tk => ?_, fun sc a X Wi h C tk => by simp [chkT] at h, fun sc a X Wi h C tk => by simp [chkA] at h⟩
  cases a <;> simp only [chk] at h <;> first | (cases h; done) | skip
  simp only [Bool.and_eq_true, Bool.not_eq_true', decide_eq_true_eq] at h
  obtain ⟨⟨h1, h2⟩, h3⟩ := h
  obtain ⟨d, u, v, e1, e2, e3, e4⟩ := g.co j _ h1
  refine (pe_glob (gl_ok C h2) (by rw [C.hm]; exact e2) e3 h3).imp fun σ H Q ⟨W, S, env, E, r, q⟩ => ?_
  simp only [ev, e1, R.of_some] at q
  exact q v W H Ext.refl r (e4 _ _)

/-! ### operators -/
theorem s_bin (o : BOp) (a b : E) (ia : Snd P w K mg base G Y nm kk N a) (ib : Snd P w K mg base G Y nm kk N b) : Snd P w K mg base G Y nm kk N (.bin o a b) := by
  refine ⟨fun sc x X Wi h C tk => ?_, fun sc a X Wi h C tk => by simp [chkT] at h, fun sc a X Wi h C tk => by simp [chkA] at h⟩
  cases x <;> simp only [chk] at h <;> first | (cases h; done) | skip
  simp only [Bool.and_eq_true, decide_eq_true_eq] at h
  obtain ⟨⟨h1, h2⟩, h3⟩ := h
  have pa := ia.v _ _ X Wi h2 C tk
  have pb := ib.v _ _ X Wi h3 C tk
  subst h1
  have U := C.room.units
  cases o with
  | add => exact (pe_op op_add4 pa pb).imp fun σ H Q wq => tX.op wq fun r p q z => by obtain ⟨d, e, f⟩ := z.fin; have := C.hK; subst this; exact add_ok r p q e f
  | sub => exact (pe_op op_sub pa pb).imp fun σ H Q wq => tX.op wq fun r p q z => by obtain ⟨d, e, f⟩ := z.fin; exact sub_ok r p q e f
  | mul => exact (pe_op op_mul3 pa pb).imp fun σ H Q wq => tX.op wq fun r p q z => by obtain ⟨d, e, f⟩ := z.fin; have := C.hK; subst this; exact mul_ok r p q e f
  | mod => exact (pe_op op_mod pa pb).imp fun σ H Q wq => tX.op wq fun r p q z => by obtain ⟨d, e, f⟩ := z.fin; exact mod_ok r p q e f
  | fdiv => exact (pe_op op_fdivW pa pb).imp fun σ H Q wq => tX.op wq fun r p q z => by obtain ⟨d, e, f⟩ := z.fin; exact fdiv_ok r p q e f
/-- the comparisons, by values -/
theorem cop_ok (o : COp) (hK : X.K = K) (hu : X.A.units + 64 < cLine) : ∃ r : R2, OpR X (compareOp (cOp o)) r ∧
    ∀ {W : Wd} {S : Store} {H : Hp} {dx dy : D} {b : Bool} {x y : V} {Q : VK}, Rel K nm W S H → Rep K W H dx x → Rep K W H dy y → cop o dx dy S = some b → Fin K nm W S H (.bl b) Q → r x y H Q := by
  subst hK
  cases o with
  | eq => exact ⟨_, op_eq2 hu, fun r p q h f => eq_ok r p q h f⟩
  | ne => exact ⟨_, op_ne2 hu, fun r p q h f => ne_ok r p q h f⟩
  | lt => exact ⟨_, op_lt, fun r p q h f => ord_ok r p q h f⟩
  | le => exact ⟨_, op_le, fun r p q h f => ord_ok r p q h f⟩
  | gt => exact ⟨_, op_gt, fun r p q h f => ord_ok r p q h f⟩
  | ge => exact ⟨_, op_ge, fun r p q h f => ord_ok r p q h f⟩
  | inn => exact ⟨_, op_in2, fun {W S H dx dy b x y Q} r p q h f => by
      simp only [cop] at h
      split at h
      · exact in_ok (ng := false) r p q h (by assumption) f
      · cases h⟩
  | nin => exact ⟨_, op_nin2, fun {W S H dx dy b x y Q} r p q h f => by
      simp only [cop] at h
      split at h
      · rw [Option.map_eq_some_iff] at h
        obtain ⟨c, h1, h2⟩ := h
        exact in_ok (ng := true) r p q h1 (by assumption) (by simpa [h2] using f)
      · cases h⟩
/-- a truth that is tested -/
theorem bl_of {W : Wd} {S : Store} {H : Hp} {o : Option Bool} {Q : Bool → Hp → Prop} {Xc : Nat → Hp → Prop} {A : Prop} (z : Wq K nm rpB W H ((R.of (o.map D.bl) S).bind fun d S => R.of (truthy d S) S) Q Xc)
    (h : ∀ c, o = some c → Fin K nm W S H (.bl c) (fun x H' => ∃ k, x = .bl k ∧ Q k H') → A) : A := by
  cases o with
  | none => exact z.elim
  | some c =>
    refine h c rfl fun v W' H' e r p => ?_
    cases p
    exact ⟨c, rfl, z c W' H' e r rfl⟩
theorem s_cmp (o : COp) (a b : E) (ia : Snd P w K mg base G Y nm kk N a) (ib : Snd P w K mg base G Y nm kk N b) : Snd P w K mg base G Y nm kk N (.cmp o a b) := by
  refine ⟨fun sc x X Wi h C tk => ?_, fun sc x X Wi h C tk => ?_, fun sc a X Wi h C tk => by simp [chkA] at h⟩
  · simp only [chk] at h
    split at h <;> try (cases h; done)
    simp only [Bool.and_eq_true, decide_eq_true_eq, Bool.not_eq_true'] at h
    obtain ⟨⟨⟨h1, h0⟩, h2⟩, h3⟩ := h
    have pa := ia.v _ _ X Wi h2 C tk
    have pb := ib.v _ _ X Wi h3 C tk
    subst h1
    obtain ⟨rr, ho, hr⟩ := cop_ok (nm := nm) o C.hK C.room.units
    refine (pe_cmpR ho pa pb (mark_ok h0)).imp fun σ H Q wq => tX.op wq fun r p q z => ?_
    obtain ⟨d, e, f⟩ := z.fin
    rw [Option.map_eq_some_iff] at e
    obtain ⟨c, e1, e2⟩ := e
    subst e2
    exact hr r p q e1 f
  · simp only [chkT] at h
    split at h <;> try (cases h; done)
    simp only [Bool.and_eq_true, decide_eq_true_eq, Bool.not_eq_true'] at h
    obtain ⟨⟨⟨h1, h0⟩, h2⟩, h3⟩ := h
    have pa := ia.v _ _ X Wi h2 C tk
    have pb := ib.v _ _ X Wi h3 C tk
    subst h1
    obtain ⟨rr, ho, hr⟩ := cop_ok (nm := nm) o C.hK C.room.units
    refine (pt_cmpR ho pa pb (mark_ok h0)).imp fun σ H Q wq => ?_
    simp only [ev, mapT, R.bind_assoc] at wq
    exact tX.op wq fun r p q z => bl_of z fun c e f => hr r p q e f
end
end PL

set_option Elab.async false
set_option linter.all false
set_option maxRecDepth 100000
set_option maxHeartbeats 1000000
/-! PLH: expressions, the rest without comprehensions. -/
namespace PL
open PySem PySem.Spec PyProof.Rows L2
section
variable {P : Program} {w : World} {K : PySem.W.Frag} {mg : Str → Option Value} {base : Heap} {G : Tab} {Y : Sx} {nm : Nm} {fa : Nat → Addr} {fd : Nat → FuncData} {ps : Nat → List Str} {kk : Nat} {N : List Str}
variable {sc : Scope} {X : Cx} {Wi : WX}
theorem marks2_ok {op op' : CmpOp} {b c : Expr} (h : isSet c = false) : lastMarks [op, op'] [b, c] = false := by
  show behindInMarks op' c = false
  exact mark_ok h
theorem s_chain (o o' : COp) (a b c : E) (ia : Snd P w K mg base G Y nm kk N a) (ib : Snd P w K mg base G Y nm kk N b) (ic : Snd P w K mg base G Y nm kk N c) : Snd P w K mg base G Y nm kk N (.chain o o' a b c) := by
  refine ⟨fun sc x X Wi h C tk => ?_, fun sc x X Wi h C tk => ?_, fun sc a X Wi h C tk => by simp [chkA] at h⟩
  · simp only [chk] at h
    split at h <;> try (cases h; done)
    simp only [Bool.and_eq_true, decide_eq_true_eq, Bool.not_eq_true'] at h
    obtain ⟨⟨⟨⟨⟨⟨h1, h2⟩, h3⟩, h4⟩, h5⟩, h6⟩, h7⟩ := h
    subst h1 h2
    have pa := ia.v _ _ X Wi h5 C tk
    have pb := ib.v _ _ X Wi h6 C tk
    have pc := ic.v _ _ X Wi h7 C tk
    obtain ⟨rr, ho, hr⟩ := cop_ok (nm := nm) o C.hK C.room.units
    obtain ⟨rr', ho', hr'⟩ := cop_ok (nm := nm) o' C.hK C.room.units
    refine (pe_chain ho ho' pa pb pc (marks2_ok h4)).imp fun σ H Q wq => ?_
    obtain ⟨W, S, env, E, r, z⟩ := wq
    simp only [ev] at z
    refine ⟨W, S, env, E, r, (Wq.bind (rp := rpD K) z).mono fun x H1 z => ?_⟩
    obtain ⟨W1, S1, dx, e1, r1, p1, z⟩ := z
    have E1 := E.mono r.trk e1
    refine ⟨W1, S1, env, E1, r1, (Wq.bind (rp := rpD K) z).mono fun y H2 z => ?_⟩
    obtain ⟨W2, S2, dy, e2, r2, p2, z⟩ := z
    have E2 := E1.mono r1.trk e2
    cases hk : cop o dx dy S2 with
    | none => rw [hk] at z; exact z.elim
    | some k =>
      rw [hk] at z
      refine hr r2 (p1.mono r1.trk e2) p2 hk fun v W3 H3 e3 r3 p3 => ?_
      cases p3
      refine ⟨k, rfl, ?_⟩
      have z := Wq.ext e3 r3.trk z
      simp only [R.of_some, R.bind_ok] at z
      cases k with
      | false => exact z _ W3 H3 Ext.refl r3 (.bl false)
      | true =>
        have E3 := E2.mono r2.trk e3
        refine ⟨W3, S2, env, E3, r3, (Wq.bind (rp := rpD K) z).mono fun t H4 z => ?_⟩
        obtain ⟨W4, S4, dz, e4, r4, p4, z⟩ := z
        obtain ⟨d, e, f⟩ := z.fin
        rw [Option.map_eq_some_iff] at e
        obtain ⟨c', e5, e6⟩ := e
        subst e6
        exact hr' r4 ((p2.mono r2.trk e3).mono r3.trk e4) p4 e5 f
  · simp only [chkT] at h
    split at h <;> try (cases h; done)
    simp only [Bool.and_eq_true, decide_eq_true_eq, Bool.not_eq_true'] at h
    obtain ⟨⟨⟨⟨⟨⟨h1, h2⟩, h3⟩, h4⟩, h5⟩, h6⟩, h7⟩ := h
    subst h1 h2
    have pa := ia.v _ _ X Wi h5 C tk
    have pb := ib.v _ _ X Wi h6 C tk
    have pc := ic.v _ _ X Wi h7 C tk
    obtain ⟨rr, ho, hr⟩ := cop_ok (nm := nm) o C.hK C.room.units
    obtain ⟨rr', ho', hr'⟩ := cop_ok (nm := nm) o' C.hK C.room.units
    refine (pt_chain ho ho' pa pb pc (marks2_ok h4)).imp fun σ H Q wq => ?_
    obtain ⟨W, S, env, E, r, z⟩ := wq
    simp only [ev, mapT, R.bind_assoc] at z
    refine ⟨W, S, env, E, r, (Wq.bind (rp := rpD K) z).mono fun x H1 z => ?_⟩
    obtain ⟨W1, S1, dx, e1, r1, p1, z⟩ := z
    have E1 := E.mono r.trk e1
    refine ⟨W1, S1, env, E1, r1, (Wq.bind (rp := rpD K) z).mono fun y H2 z => ?_⟩
    obtain ⟨W2, S2, dy, e2, r2, p2, z⟩ := z
    have E2 := E1.mono r1.trk e2
    cases hk : cop o dx dy S2 with
    | none => rw [hk] at z; exact z.elim
    | some k =>
      rw [hk] at z
      refine hr r2 (p1.mono r1.trk e2) p2 hk fun v W3 H3 e3 r3 p3 => ?_
      cases p3
      refine ⟨k, rfl, ?_⟩
      have z := Wq.ext e3 r3.trk z
      simp only [R.of_some, R.bind_ok] at z
      cases k with
      | false => exact ⟨false, rfl, z false W3 H3 Ext.refl r3 rfl⟩
      | true =>
        have E3 := E2.mono r2.trk e3
        simp only [if_true, R.bind_assoc] at z
        refine ⟨W3, S2, env, E3, r3, (Wq.bind (rp := rpD K) z).mono fun t H4 z => ?_⟩
        obtain ⟨W4, S4, dz, e4, r4, p4, z⟩ := z
        exact bl_of z fun c' e f => hr' r4 ((p2.mono r2.trk e3).mono r3.trk e4) p4 e f
theorem isNon (d : D) {v : V} {W : Wd} {H : Hp} (p : Rep K W H d v) : decide (v = V.non) = isNonD d := by
  cases p <;> simp [isNonD]
theorem s_isn (a : E) (ia : Snd P w K mg base G Y nm kk N a) : Snd P w K mg base G Y nm kk N (.isn a) := by
  refine ⟨fun sc x X Wi h C tk => ?_, fun sc x X Wi h C tk => ?_, fun sc a X Wi h C tk => by simp [chkA] at h⟩
  · simp only [chk] at h
    split at h <;> try (cases h; done)
    have pa := ia.v _ _ X Wi h C tk
    refine (pe_cmp (pc_isN pa) rfl).imp fun σ H Q wq => ?_
    simp only [ev] at wq
    obtain ⟨W, S, env, E, r, z⟩ := tX.one (g := fun _ x S => .ok (D.bl (isNonD x)) S) wq
    refine ⟨W, S, env, E, r, z.mono fun x H1 z => ?_⟩
    obtain ⟨W1, S1, dx, env1, E1, r1, p1, z⟩ := z
    rw [isNon dx p1]
    exact z _ W1 H1 Ext.refl r1 (.bl _)
  · simp only [chkT] at h
    split at h <;> try (cases h; done)
    have pa := ia.v _ _ X Wi h C tk
    refine (pt_cmp (pc_isN pa) rfl).imp fun σ H Q wq => ?_
    simp only [ev, mapT, R.bind_assoc] at wq
    obtain ⟨W, S, env, E, r, z⟩ := tX.one (g := fun _ x S => (R.ok (D.bl (isNonD x)) S).bind fun d S => R.of (truthy d S) S) wq
    refine ⟨W, S, env, E, r, z.mono fun x H1 z => ?_⟩
    obtain ⟨W1, S1, dx, env1, E1, r1, p1, z⟩ := z
    rw [isNon dx p1]
    exact ⟨_, rfl, z _ W1 H1 Ext.refl r1 rfl⟩
theorem s_ntn (a : E) (ia : Snd P w K mg base G Y nm kk N a) : Snd P w K mg base G Y nm kk N (.ntn a) := by
  have key : ∀ {d : D} {v : V} {W : Wd} {H : Hp}, Rep K W H d v → (!decide (v = V.non)) = !isNonD d := fun {d v W H} p => by rw [isNon d p]
  refine ⟨fun sc x X Wi h C tk => ?_, fun sc x X Wi h C tk => ?_, fun sc a X Wi h C tk => by simp [chkA] at h⟩
  · simp only [chk] at h
    split at h <;> try (cases h; done)
    have pa := ia.v _ _ X Wi h C tk
    refine (pe_cmp (pc_notN pa) rfl).imp fun σ H Q wq => ?_
    simp only [ev] at wq
    obtain ⟨W, S, env, E, r, z⟩ := tX.one (g := fun _ x S => .ok (D.bl (!isNonD x)) S) wq
    refine ⟨W, S, env, E, r, z.mono fun x H1 z => ?_⟩
    obtain ⟨W1, S1, dx, env1, E1, r1, p1, z⟩ := z
    rw [key p1]
    exact z _ W1 H1 Ext.refl r1 (.bl _)
  · simp only [chkT] at h
    split at h <;> try (cases h; done)
    have pa := ia.v _ _ X Wi h C tk
    refine (pt_cmp (pc_notN pa) rfl).imp fun σ H Q wq => ?_
    simp only [ev, mapT, R.bind_assoc] at wq
    obtain ⟨W, S, env, E, r, z⟩ := tX.one (g := fun _ x S => (R.ok (D.bl (!isNonD x)) S).bind fun d S => R.of (truthy d S) S) wq
    refine ⟨W, S, env, E, r, z.mono fun x H1 z => ?_⟩
    obtain ⟨W1, S1, dx, env1, E1, r1, p1, z⟩ := z
    rw [key p1]
    exact ⟨_, rfl, z _ W1 H1 Ext.refl r1 rfl⟩
theorem s_neg (a : E) (ia : Snd P w K mg base G Y nm kk N a) : Snd P w K mg base G Y nm kk N (.neg a) := by
  refine ⟨fun sc x X Wi h C tk => ?_, fun sc x X Wi h C tk => by simp [chkT] at h, fun sc a X Wi h C tk => by simp [chkA] at h⟩
  simp only [chk] at h
  split at h <;> try (cases h; done)
  have pa := ia.v _ _ X Wi h C tk
  refine (pe_un un_neg pa).imp fun σ H Q wq => ?_
  simp only [ev] at wq
  obtain ⟨W, S, env, E, r, z⟩ := tX.one (g := fun _ x S => R.of (negD x) S) wq
  refine ⟨W, S, env, E, r, z.mono fun x H1 z => ?_⟩
  obtain ⟨W1, S1, dx, env1, E1, r1, p1, z⟩ := z
  obtain ⟨d, e, f⟩ := z.fin
  cases p1 <;> simp only [negD] at e <;> first | (cases e; done) | skip
  cases e
  exact ⟨_, rfl, f.here r1 (.int _)⟩

/-! ### truth -/
theorem tru_rep {d : D} {v : V} {k : Bool} {W : Wd} {S : Store} {H : Hp} (r : Rel K nm W S H) (p : Rep K W H d v) (h : truthy d S = some k) : TruV K v H k := by
  cases p with
  | non => cases h; rfl
  | bl b => cases h; rfl
  | int i => cases h; rfl
  | str x =>
    simp only [truthy] at h
    split at h
    · rename_i z
      cases h
      refine ⟨by rw [← SZ_eq]; exact z, ?_⟩
      simp [bne, BEq.beq]
      try omega
    · cases h
  | tup h1 h2 => cases h; exact .inr (.inl ⟨_, h1, by cases h2 <;> rfl⟩)
  | lst h1 h2 h3 h4 => cases h; exact .inl ⟨_, .inl h1, by cases h4 <;> rfl⟩
  | dct h1 h2 h3 h4 => cases h
  | scr h1 => cases h
  | @ref n a h1 =>
    simp only [truthy] at h
    split at h
    · rename_i xs q
      cases h
      obtain ⟨vs, e, z⟩ := r.ob n a _ h1 q
      exact .inl ⟨vs, .inl (.inl e), by cases z <;> rfl⟩
    · rename_i xs q
      cases h
      obtain ⟨vs, e, z⟩ := r.ob n a _ h1 q
      exact .inr (.inr ⟨vs, e, by cases z <;> rfl⟩)
    · cases h
theorem s_val (a : E) (ia : Snd P w K mg base G Y nm kk N a) : Snd P w K mg base G Y nm kk N (.val a) := by
  refine ⟨fun sc x X Wi h C tk => by simp [chk] at h, fun sc x X Wi h C tk => ?_, fun sc a X Wi h C tk => by simp [chkA] at h⟩
  simp only [chkT, Bool.and_eq_true] at h
  have pa := ia.v _ _ X Wi h.2 C tk
  have he : ∀ whole, isTrue x X.env whole = (do let v ← whole; standAt x.pos; holding [v] (PySem.truthy v)) := by
    have h1 := h.1
    cases x <;> first | (intro _; rfl) | cases h1
  refine (pt_truth pa he).imp fun σ H Q wq => ?_
  simp only [ev, mapT] at wq
  obtain ⟨W, S, env, E, r, z⟩ := tX.one (g := fun _ d S => R.of (truthy d S) S) wq
  refine ⟨W, S, env, E, r, z.mono fun x H1 z => ?_⟩
  obtain ⟨W1, S1, dx, env1, E1, r1, p1, z⟩ := z
  obtain ⟨k, e, f⟩ := z.of
  have := C.hK
  subst this
  exact ⟨k, tru_rep r1 p1 e, f k W1 H1 Ext.refl r1 rfl⟩
end
end PL

set_option Elab.async false
set_option linter.all false
set_option maxRecDepth 100000
set_option maxHeartbeats 1000000
/-! PLI: and, or, not, calls, displays. -/
namespace PL
open PySem PySem.Spec PyProof.Rows L2
section
variable {P : Program} {w : World} {K : PySem.W.Frag} {mg : Str → Option Value} {base : Heap} {G : Tab} {Y : Sx} {nm : Nm} {fa : Nat → Addr} {fd : Nat → FuncData} {ps : Nat → List Str} {kk : Nat} {N : List Str}
variable {sc : Scope} {X : Cx} {Wi : WX}
theorem s_nt (a : E) (ia : Snd P w K mg base G Y nm kk N a) : Snd P w K mg base G Y nm kk N (.nt a) := by
  refine ⟨fun sc x X Wi h C tk => ?_, fun sc x X Wi h C tk => ?_, fun sc a X Wi h C tk => by simp [chkA] at h⟩
  · simp only [chk] at h
    split at h <;> try (cases h; done)
    have pa := ia.v _ _ X Wi h C tk
    refine (pe_notT pa).imp fun σ H Q wq => ?_
    simp only [ev, mapT, R.bind_assoc] at wq
    obtain ⟨W, S, env, E, r, z⟩ := tX.one (g := fun _ x S => (R.of (truthy x S) S).bind fun k S => .ok (D.bl (!k)) S) wq
    refine ⟨W, S, env, E, r, z.mono fun x H1 z => ?_⟩
    obtain ⟨W1, S1, dx, env1, E1, r1, p1, z⟩ := z
    have := C.hK
    subst this
    cases e : truthy dx S1 with
    | none => rw [e] at z; exact z.elim
    | some k =>
      rw [e] at z
      exact ⟨k, tru_rep r1 p1 e, z _ W1 H1 Ext.refl r1 (.bl _)⟩
  · simp only [chkT] at h
    split at h <;> try (cases h; done)
    have pa := ia.t _ _ X Wi h C tk
    refine (pt_not pa).imp fun σ H Q wq => ?_
    have wq : tX K nm rpB Wi (fun env S => (mapT (ev G (run G kk) a env S)).bind fun k S => .ok (!k) S) σ H Q := by
      refine (?_ : (fun env S => _) = (fun env S => mapT (ev G (run G kk) (.nt a) env S))) ▸ wq
      funext env S
      simp only [ev, mapT, R.bind_assoc]
      cases ev G (run G kk) a env S with
      | ok x S1 =>
        simp only [R.bind_ok]
        cases e : truthy x S1 <;> rfl
      | ex c S1 => rfl
      | bad => rfl
    obtain ⟨W, S, env, E, r, z⟩ := tX.test (g := fun _ k S => .ok (!k) S) wq
    refine ⟨W, S, env, E, r, z.mono fun k H1 z => ?_⟩
    obtain ⟨W1, S1, env1, E1, r1, z⟩ := z
    exact z _ W1 H1 Ext.refl r1 rfl
theorem s_one (a : E) (ia : Snd P w K mg base G Y nm kk N a) : Snd P w K mg base G Y nm kk N (.one a) := by
  refine ⟨fun sc x X Wi h C tk => ?_, fun sc x X Wi h C tk => ?_, fun sc a X Wi h C tk => by simp [chkA] at h⟩
  · simp only [chk] at h
    split at h <;> try (cases h; done)
    exact pe_one (ia.v _ _ X Wi h C tk)
  · simp only [chkT] at h
    split at h <;> try (cases h; done)
    rename_i o p pos
    cases o with
    | And => exact (pw_and1 (ia.t _ _ X Wi h C tk)).pt
    | Or => exact (pw_or1 (ia.t _ _ X Wi h C tk)).pt
/-- a block of and, or as a test stands whatever its whole is -/
theorem pw_of {o : BoolOp} {vs : List Expr} {pos : Pos} {t : TT} (h : PT X (.BoolOp o vs pos) t) : PW X (.BoolOp o vs pos) t := by
  refine ⟨fun wh pins s σ H Q I q => ?_⟩
  exact h.run pins s σ H Q I q
theorem s_and (a b : E) (ia : Snd P w K mg base G Y nm kk N a) (ib : Snd P w K mg base G Y nm kk N b) : Snd P w K mg base G Y nm kk N (.and a b) := by
  refine ⟨fun sc x X Wi h C tk => ?_, fun sc x X Wi h C tk => ?_, fun sc a X Wi h C tk => by simp [chkA] at h⟩
  · simp only [chk] at h
    split at h <;> try (cases h; done)
    simp only [Bool.and_eq_true] at h
    have pa := ia.v _ _ X Wi h.1 C tk
    have pb := ib.v _ _ X Wi h.2 C tk
    refine (pe_andT pa pb).imp fun σ H Q wq => ?_
    simp only [ev] at wq
    obtain ⟨W, S, env, E, r, z⟩ := tX.one (g := fun env x S => (R.of (truthy x S) S).bind fun k S => if k then ev G (run G kk) b env S else .ok x S) wq
    refine ⟨W, S, env, E, r, z.mono fun x H1 z => ?_⟩
    obtain ⟨W1, S1, dx, env1, E1, r1, p1, z⟩ := z
    have := C.hK
    subst this
    cases e : truthy dx S1 with
    | none => rw [e] at z; exact z.elim
    | some k =>
      rw [e] at z
      refine ⟨k, tru_rep r1 p1 e, ?_⟩
      cases k with
      | false => exact z _ W1 H1 Ext.refl r1 p1
      | true => exact ⟨W1, S1, env1, E1, r1, z⟩
  · simp only [chkT] at h
    split at h <;> try (cases h; done)
    simp only [Bool.and_eq_true] at h
    have pa := ia.t _ _ X Wi h.1 C tk
    have pb := ib.t _ _ X Wi h.2 C tk
    refine (pw_and pa (pw_of pb)).pt.imp fun σ H Q wq => ?_
    have wq : tX K nm rpB Wi (fun env S => (mapT (ev G (run G kk) a env S)).bind fun k S => if k then mapT (ev G (run G kk) b env S) else .ok false S) σ H Q := by
      refine (?_ : (fun env S => _) = (fun env S => mapT (ev G (run G kk) (.and a b) env S))) ▸ wq
      funext env S
      simp only [ev, mapT]
      cases ev G (run G kk) a env S with
      | ok x S1 =>
        simp only [R.bind_ok]
        cases e : truthy x S1 with
        | none => rfl
        | some k =>
          cases k with
          | true => rfl
          | false => simp [e]
      | ex c S1 => rfl
      | bad => rfl
    obtain ⟨W, S, env, E, r, z⟩ := tX.test (g := fun env k S => if k then mapT (ev G (run G kk) b env S) else .ok false S) wq
    refine ⟨W, S, env, E, r, z.mono fun k H1 z => ?_⟩
    obtain ⟨W1, S1, env1, E1, r1, z⟩ := z
    cases k with
    | false => exact z _ W1 H1 Ext.refl r1 rfl
    | true => exact ⟨W1, S1, env1, E1, r1, z⟩
theorem s_or (a b : E) (ia : Snd P w K mg base G Y nm kk N a) (ib : Snd P w K mg base G Y nm kk N b) : Snd P w K mg base G Y nm kk N (.or a b) := by
  refine ⟨fun sc x X Wi h C tk => ?_, fun sc x X Wi h C tk => ?_, fun sc a X Wi h C tk => by simp [chkA] at h⟩
  · simp only [chk] at h
    split at h <;> try (cases h; done)
    simp only [Bool.and_eq_true] at h
    have pa := ia.v _ _ X Wi h.1 C tk
    have pb := ib.v _ _ X Wi h.2 C tk
    refine (pe_orT pa pb).imp fun σ H Q wq => ?_
    simp only [ev] at wq
    obtain ⟨W, S, env, E, r, z⟩ := tX.one (g := fun env x S => (R.of (truthy x S) S).bind fun k S => if k then .ok x S else ev G (run G kk) b env S) wq
    refine ⟨W, S, env, E, r, z.mono fun x H1 z => ?_⟩
    obtain ⟨W1, S1, dx, env1, E1, r1, p1, z⟩ := z
    have := C.hK
    subst this
    cases e : truthy dx S1 with
    | none => rw [e] at z; exact z.elim
    | some k =>
      rw [e] at z
      refine ⟨k, tru_rep r1 p1 e, ?_⟩
      cases k with
      | true => exact z _ W1 H1 Ext.refl r1 p1
      | false => exact ⟨W1, S1, env1, E1, r1, z⟩
  · simp only [chkT] at h
    split at h <;> try (cases h; done)
    simp only [Bool.and_eq_true] at h
    have pa := ia.t _ _ X Wi h.1 C tk
    have pb := ib.t _ _ X Wi h.2 C tk
    refine (pw_or pa (pw_of pb)).pt.imp fun σ H Q wq => ?_
    have wq : tX K nm rpB Wi (fun env S => (mapT (ev G (run G kk) a env S)).bind fun k S => if k then .ok true S else mapT (ev G (run G kk) b env S)) σ H Q := by
      refine (?_ : (fun env S => _) = (fun env S => mapT (ev G (run G kk) (.or a b) env S))) ▸ wq
      funext env S
      simp only [ev, mapT]
      cases ev G (run G kk) a env S with
      | ok x S1 =>
        simp only [R.bind_ok]
        cases e : truthy x S1 with
        | none => rfl
        | some k =>
          cases k with
          | false => rfl
          | true => simp [e]
      | ex c S1 => rfl
      | bad => rfl
    obtain ⟨W, S, env, E, r, z⟩ := tX.test (g := fun env k S => if k then .ok true S else mapT (ev G (run G kk) b env S)) wq
    refine ⟨W, S, env, E, r, z.mono fun k H1 z => ?_⟩
    obtain ⟨W1, S1, env1, E1, r1, z⟩ := z
    cases k with
    | true => exact z _ W1 H1 Ext.refl r1 rfl
    | false => exact ⟨W1, S1, env1, E1, r1, z⟩
theorem s_ite (c a b : E) (ic : Snd P w K mg base G Y nm kk N c) (ia : Snd P w K mg base G Y nm kk N a) (ib : Snd P w K mg base G Y nm kk N b) : Snd P w K mg base G Y nm kk N (.ite c a b) := by
  refine ⟨fun sc x X Wi h C tk => ?_, fun sc x X Wi h C tk => by simp [chkT] at h, fun sc a X Wi h C tk => by simp [chkA] at h⟩
  simp only [chk] at h
  split at h <;> try (cases h; done)
  simp only [Bool.and_eq_true] at h
  obtain ⟨⟨h1, h2⟩, h3⟩ := h
  refine (pe_ifExp (ic.t _ _ X Wi h1 C tk) (ia.v _ _ X Wi h2 C tk) (ib.v _ _ X Wi h3 C tk)).imp fun σ H Q wq => ?_
  simp only [ev] at wq
  obtain ⟨W, S, env, E, r, z⟩ := tX.test (g := fun env k S => if k then ev G (run G kk) a env S else ev G (run G kk) b env S) wq
  refine ⟨W, S, env, E, r, z.mono fun k H1 z => ?_⟩
  obtain ⟨W1, S1, env1, E1, r1, z⟩ := z
  cases k with
  | true => exact ⟨W1, S1, env1, E1, r1, z⟩
  | false => exact ⟨W1, S1, env1, E1, r1, z⟩

/-! ### arguments, displays -/
theorem s_nil : Snd P w K mg base G Y nm kk N .nil := by
  refine ⟨fun sc x X Wi h C tk => by simp [chk] at h, fun sc x X Wi h C tk => by simp [chkT] at h, fun sc a X Wi h C tk => ?_⟩
  cases a with
  | nil => exact pa_nil.imp fun σ H Q ⟨W, S, env, E, r, q⟩ => q [] W H Ext.refl r ⟨[], rfl, .nil⟩
  | cons x y => simp [chkA] at h
theorem s_cons (a as : E) (ia : Snd P w K mg base G Y nm kk N a) (ib : Snd P w K mg base G Y nm kk N as) : Snd P w K mg base G Y nm kk N (.cons a as) := by
  refine ⟨fun sc x X Wi h C tk => by simp [chk] at h, fun sc x X Wi h C tk => by simp [chkT] at h, fun sc es X Wi h C tk => ?_⟩
  simp only [chkA] at h
  split at h <;> try (cases h; done)
  simp only [Bool.and_eq_true] at h
  obtain ⟨⟨h1, h2⟩, h3⟩ := h
  refine (pa_cons (ia.v _ _ X Wi h2 C tk) (ib.l _ _ X Wi h3 C tk) (star_ok h1)).imp fun σ H Q wq => ?_
  obtain ⟨W, S, env, E, r, z⟩ := wq
  simp only [ev] at z
  refine ⟨W, S, env, E, r, (Wq.bind (rp := rpD K) z).mono fun x H1 z => ?_⟩
  obtain ⟨W1, S1, dx, e1, r1, p1, z⟩ := z
  refine ⟨W1, S1, env, E.mono r.trk e1, r1, (Wq.bind (rp := rpA K) z).mono fun vs H2 z => ?_⟩
  obtain ⟨W2, S2, dy, e2, r2, ⟨xs, e3, p2⟩, z⟩ := z
  subst e3
  exact z _ W2 H2 Ext.refl r2 ⟨_, rfl, .cons (p1.mono r1.trk e2) p2⟩
theorem Reps.sz {W : Wd} {H : Hp} {xs : List D} {vs : List V} (p : Reps K W H xs vs) (h : xs.length ≤ SZ) : vs.length ≤ sizeLine := by rw [p.lens, ← SZ_eq]; exact h
theorem mkTup_some {xs : List D} {d : D} (h : mkTup xs = some d) : xs.length ≤ SZ ∧ d = .tup xs := by
  unfold mkTup at h
  split at h
  · cases h; exact ⟨by assumption, rfl⟩
  · cases h
theorem mkLst_some {xs : List D} {d : D} (h : mkLst xs = some d) : xs.length ≤ SZ ∧ d = .lst xs := by
  unfold mkLst at h
  split at h
  · cases h; exact ⟨by assumption, rfl⟩
  · cases h
theorem s_tup (as : E) (ia : Snd P w K mg base G Y nm kk N as) : Snd P w K mg base G Y nm kk N (.tup as) := by
  refine ⟨fun sc x X Wi h C tk => ?_, fun sc x X Wi h C tk => by simp [chkT] at h, fun sc a X Wi h C tk => by simp [chkA] at h⟩
  simp only [chk] at h
  split at h <;> try (cases h; done)
  refine (pe_tup (ia.l _ _ X Wi h C tk)).imp fun σ H Q wq => ?_
  simp only [ev] at wq
  obtain ⟨W, S, env, E, r, z⟩ := tX.args (g := fun _ xs S => R.of (mkTup (toTup xs)) S) wq
  refine ⟨W, S, env, E, r, z.mono fun vs H1 z => ?_⟩
  obtain ⟨W1, S1, xs, env1, E1, r1, p1, z⟩ := z
  obtain ⟨d, e, f⟩ := z.fin
  obtain ⟨hz, e2⟩ := mkTup_some (xs := xs) e
  subst e2
  exact ⟨p1.sz hz, fun p hp => f.tup r1 p1 hp⟩
theorem s_lst (as : E) (ia : Snd P w K mg base G Y nm kk N as) : Snd P w K mg base G Y nm kk N (.lst as) := by
  refine ⟨fun sc x X Wi h C tk => ?_, fun sc x X Wi h C tk => by simp [chkT] at h, fun sc a X Wi h C tk => by simp [chkA] at h⟩
  simp only [chk] at h
  split at h <;> try (cases h; done)
  refine (pe_lst (ia.l _ _ X Wi h C tk)).imp fun σ H Q wq => ?_
  simp only [ev] at wq
  obtain ⟨W, S, env, E, r, z⟩ := tX.args (g := fun _ xs S => R.of (mkLst (toTup xs)) S) wq
  refine ⟨W, S, env, E, r, z.mono fun vs H1 z => ?_⟩
  obtain ⟨W1, S1, xs, env1, E1, r1, p1, z⟩ := z
  obtain ⟨d, e, f⟩ := z.fin
  obtain ⟨hz, e2⟩ := mkLst_some (xs := xs) e
  subst e2
  exact ⟨p1.sz hz, fun p hp => f.lst r1 p1 hp⟩

/-! ### calls -/
theorem star1 {as : E} {e : Expr} {es : List Expr} (h : chkA Y N as sc (e :: es) = true) : notStar e = true := by
  cases as <;> simp only [chkA, Bool.and_eq_true] at h <;> first | (cases h; done) | exact h.1.1
theorem star2 {as : E} {e e' : Expr} {es : List Expr} (h : chkA Y N as sc (e :: e' :: es) = true) : notStar e' = true := by
  cases as <;> simp only [chkA, Bool.and_eq_true] at h <;> first | (cases h; done) | exact star1 h.2
theorem s_call (g : GOk K mg G Y nm fa fd ps) (hF : ∀ f : Nat, (G.fns f).isSome = true → FnOk P w K mg base (L2.CX P w) (2 * kk) (fa f) (fd f) (ps f) (spF K nm G kk f)) (f : Nat) (as : E) (ia : Snd P w K mg base G Y nm kk N as) :
    Snd P w K mg base G Y nm kk N (.call f as) := by
  refine ⟨fun sc x X Wi h C tk => ?_, fun sc x X Wi h C tk => by simp [chkT] at h, fun sc a X Wi h C tk => by simp [chkA] at h⟩
  simp only [chk] at h
  split at h <;> try (cases h; done)
  simp only [Bool.and_eq_true, decide_eq_true_eq, Bool.not_eq_true'] at h
  obtain ⟨⟨⟨h1, h2⟩, h3⟩, h4⟩ := h
  obtain ⟨hl, hmg, hkp⟩ := g.fn f _ h1
  have F := hF f hl
  have pa := ia.l _ _ X Wi h4 C tk
  have hs := star1 h4
  have bb := g.bi f hl
  obtain ⟨e1, e2, e3, e4, e5⟩ := And.intro C.hP (And.intro C.hw (And.intro C.hK (And.intro C.hm C.hb)))
  subst e1 e2 e3 e4 e5
  refine (pe_callS (E := WE Wi) F (C.room.mono (by omega)) (gl_ok C h2) hmg hkp bb (fun σ => passAt tk σ) pa (dbg_ok h3) (star_ok hs) (stars_ok1 h4)).imp fun σ H Q wq => ?_
  simp only [ev] at wq
  obtain ⟨W, S, env, E, r, z⟩ := tX.args (g := fun _ xs S => run G kk f (toTup xs) S) wq
  refine ⟨W, S, env, E, r, z.mono fun vs H1 z => ?_⟩
  obtain ⟨W1, S1, xs, env1, E1, r1, p1, z⟩ := z
  exact ⟨W1, S1, xs, r1, p1, z⟩
end
end PL

set_option Elab.async false
set_option linter.all false
set_option maxRecDepth 100000
set_option maxHeartbeats 1000000
/-! PLJ: isinstance, built-ins by name, subscripts. -/
namespace PL
open PySem PySem.Spec PyProof.Rows L2
section
variable {P : Program} {w : World} {K : PySem.W.Frag} {mg : Str → Option Value} {base : Heap} {G : Tab} {Y : Sx} {nm : Nm} {fa : Nat → Addr} {fd : Nat → FuncData} {ps : Nat → List Str} {kk : Nat} {N : List Str}
variable {sc : Scope} {X : Cx} {Wi : WX}
theorem ty_boot (t : Nat) (h : t < 4) : bootBuiltins (tyS t) = some (.type (tyN t)) ∧ tyS t ≠ "__name__" ∧ (tyS t == ("__debug__" : Str)) = false := by
  match t, h with
  | 0, _ => exact ⟨by decide +kernel, by decide +kernel, by decide +kernel⟩
  | 1, _ => exact ⟨by decide +kernel, by decide +kernel, by decide +kernel⟩
  | 2, _ => exact ⟨by decide +kernel, by decide +kernel, by decide +kernel⟩
  | 3, _ => exact ⟨by decide +kernel, by decide +kernel, by decide +kernel⟩
theorem s_isa (g : GOk K mg G Y nm fa fd ps) (a : E) (t : Nat) (ia : Snd P w K mg base G Y nm kk N a) : Snd P w K mg base G Y nm kk N (.isa a t) := by
  refine ⟨fun sc x X Wi h C tk => ?_, fun sc x X Wi h C tk => by simp [chkT] at h, fun sc a X Wi h C tk => by simp [chkA] at h⟩
  simp only [chk] at h
  split at h <;> try (cases h; done)
  simp only [Bool.and_eq_true, decide_eq_true_eq] at h
  obtain ⟨⟨⟨⟨⟨⟨⟨⟨h1, h2⟩, h3⟩, h4⟩, h5⟩, h6⟩, h7⟩, h8⟩, h9⟩ := h
  subst h1 h2
  obtain ⟨b1, b2, b3⟩ := ty_boot t h3
  have pa := ia.v _ _ X Wi h9 C tk
  have m1 : X.mg ("isinstance" : Str) = none := by rw [C.hm]; exact g.bl _ h6
  have m2 : X.mg (tyS t) = none := by rw [C.hm]; exact g.bl _ h7
  have e1 := C.hK
  subst e1
  refine (pe_callB call_isi (gl_ok C h4) m1 (by decide +kernel) (pa_cons pa (pa_cons (pe_bltn (v := V.ty (tyN t)) (gl_ok C h5) m2 b1 rfl b2 b3) pa_nil) (star_ok h8)) (he := star_ok h8)).imp fun σ H Q wq => ?_
  simp only [ev] at wq
  obtain ⟨W, S, env, E, r, z⟩ := tX.one (g := fun _ x S => if notIns x S then .ok (D.bl (isaD t x)) S else .bad) wq
  refine ⟨W, S, env, E, r, z.mono fun x H1 z => ?_⟩
  obtain ⟨W1, S1, dx, env1, E1, r1, p1, z⟩ := z
  cases hn : notIns dx S1 with
  | false => rw [hn] at z; exact z.elim
  | true =>
    rw [hn] at z
    obtain ⟨ty, b, k1, k2, k3⟩ := isa_ok (t := t) r1 p1 hn (show Fin X.K nm W1 S1 H1 (.bl (isaD t dx)) Q from z)
    exact ⟨x, .ty (tyN t), ty, _, b, rfl, .ty _, k1, k2, k3⟩
/-- a built-in function or type, called by its name -/
theorem s_bf_of (g : GOk K mg G Y nm fa fd ps) (f : Bf) (as : E) (ia : Snd P w K mg base G Y nm kk N as)
    (hb : ∀ (X : Cx), X.K = K → X.calm = true → X.A.units + 64 < cLine → ∃ (id : String) (r : List V → Hp → VK → Prop), ((CallR X (.builtin id) r ∧ bootBuiltins (bfN f) = some (.builtin id)) ∨ (CallR X (.type id) r ∧ bootBuiltins (bfN f) = some (.type id))) ∧ CallK X K nm (bfD f) r)
    (hn : bfN f ≠ "__name__" := by decide +kernel) (hd : (bfN f == ("__debug__" : Str)) = false := by decide +kernel) : Snd P w K mg base G Y nm kk N (.bf f as) := by
  refine ⟨fun sc x X Wi h C tk => ?_, fun sc x X Wi h C tk => by simp [chkT] at h, fun sc a X Wi h C tk => by simp [chkA] at h⟩
  simp only [chk] at h
  split at h <;> try (cases h; done)
  simp only [Bool.and_eq_true, decide_eq_true_eq] at h
  obtain ⟨⟨⟨⟨h0, h1⟩, h2⟩, h3⟩, h4⟩ := h
  subst h1
  have pa := ia.l _ _ X Wi h4 C tk
  have m1 : X.mg (bfN f) = none := by rw [C.hm]; exact g.bl _ h3
  obtain ⟨id, r, hc, ad⟩ := hb X C.hK C.calm C.room.units
  have fin : ∀ {σ : L2.St} {H : Hp} {Q : VK}, tE K nm Wi (ev G (run G kk) (.bf f as)) σ H Q → tCB r (tA K nm Wi (ev G (run G kk) as)) σ H Q := fun {σ H Q} wq => by
    simp only [ev] at wq
    obtain ⟨W, S, env, E, r', z⟩ := tX.args (g := fun _ xs S => R.of (bfD f (toTup xs) S) S) wq
    refine ⟨W, S, env, E, r', z.mono fun vs H1 z => ?_⟩
    obtain ⟨W1, S1, xs, env1, E1, r1, p1, z⟩ := z
    obtain ⟨d, e, fi⟩ := z.fin
    exact ad W1 S1 H1 xs vs d Q r1 p1 e fi
  rcases hc with ⟨hc, hv⟩ | ⟨hc, hv⟩
  · exact (pe_callB hc (gl_ok C h2) m1 hv pa hn hd (star_ok (star1 h4)) (stars_ok1 h4)).imp fun σ H Q wq => fin wq
  · exact (pe_callTy hc (gl_ok C h2) m1 hv pa hn hd (star_ok (star1 h4)) (stars_ok1 h4)).imp fun σ H Q wq => fin wq
theorem s_bf (g : GOk K mg G Y nm fa fd ps) (f : Bf) (as : E) (ia : Snd P w K mg base G Y nm kk N as) : Snd P w K mg base G Y nm kk N (.bf f as) := by
  cases f with
  | len => exact s_bf_of g .len as ia fun X e c u => ⟨"len", _, .inl ⟨call_len3, PySem.boot_len⟩, e ▸ len_ok (X := X)⟩
  | all => exact s_bf_of g .all as ia fun X e c u => ⟨"all", _, .inl ⟨cr_all c, by decide +kernel⟩, e ▸ all_ok (X := X)⟩
  | any => exact s_bf_of g .any as ia fun X e c u => ⟨"any", _, .inl ⟨cr_any c, by decide +kernel⟩, e ▸ any_ok (X := X)⟩
  | sum => exact s_bf_of g .sum as ia fun X e c u => ⟨"sum", _, .inl ⟨cr_sum c, by decide +kernel⟩, e ▸ sum_ok (X := X)⟩
  | tuple => exact s_bf_of g .tuple as ia fun X e c u => ⟨"tuple", _, .inr ⟨call_tuple_of, by decide +kernel⟩, e ▸ tuple_ok (X := X)⟩
  | list => exact s_bf_of g .list as ia fun X e c u => ⟨"list", _, .inr ⟨call_list_of, by decide +kernel⟩, e ▸ list_ok (X := X)⟩
  | max => exact s_bf_of g .max as ia fun X e c u => ⟨"max", _, .inl ⟨call_max2 c, by decide +kernel⟩, max_ok (X := X)⟩
  | min => exact s_bf_of g .min as ia fun X e c u => ⟨"min", _, .inl ⟨call_min2 c, by decide +kernel⟩, min_ok (X := X)⟩
  | _ => exact ⟨fun sc x X Wi h C tk => by (simp only [chk] at h; split at h <;> simp [bfOk] at h), fun sc x X Wi h C tk => by simp [chkT] at h, fun sc a X Wi h C tk => by simp [chkA] at h⟩
theorem plainIx_ok {e : Expr} (h : notSlice e = true) : PlainIx e := by
  intro o i
  cases e <;> first | rfl | cases h
theorem s_ix (a i : E) (ia : Snd P w K mg base G Y nm kk N a) (ib : Snd P w K mg base G Y nm kk N i) : Snd P w K mg base G Y nm kk N (.ix a i) := by
  refine ⟨fun sc x X Wi h C tk => ?_, fun sc x X Wi h C tk => by simp [chkT] at h, fun sc a X Wi h C tk => by simp [chkA] at h⟩
  simp only [chk] at h
  split at h <;> try (cases h; done)
  simp only [Bool.and_eq_true] at h
  obtain ⟨⟨h1, h2⟩, h3⟩ := h
  have pa := ia.v _ _ X Wi h2 C tk
  have pb := ib.v _ _ X Wi h3 C tk
  have e1 := C.hK
  subst e1
  refine (pe_ix ix_seq pa pb (plainIx_ok h1)).imp fun σ H Q wq => ?_
  simp only [ev] at wq
  exact tX.op wq fun r p q z => by
    obtain ⟨d, e, f⟩ := z.fin
    exact ix_ok r p q e f
theorem s_emp : Snd P w K mg base G Y nm kk N .emp :=
  ⟨fun sc x X Wi h C tk => by simp [chk] at h, fun sc x X Wi h C tk => by simp [chkT] at h, fun sc a X Wi h C tk => by simp [chkA] at h⟩
def rpO : Wd → Hp → Option Int → Option Int → Prop := fun _ _ a b => a = b
/-- a slice's part -/
def evP (G : Tab) (call : Calls) (lo : E) (env : Env) (S : Store) : R (Option Int) := if isEmp lo then .ok none S else (ev G call lo env S).bind fun d S => R.of (part d) S
theorem part_ok {lo : E} {l : Option Expr} (il : Snd P w K mg base G Y nm kk N lo) (h : (match l with | none => isEmp lo | some l => !isEmp lo && chk Y N lo sc l) = true) (C : COk P w K mg base kk N sc X) (tk : Takes X Wi) :
    PO X l (tX K nm rpO Wi (evP G (run G kk) lo)) := by
  cases l with
  | none =>
    have h : isEmp lo = true := h
    refine ⟨fun pins s σ H Q I q => po_none.run pins s σ H Q I ?_⟩
    obtain ⟨W, S, env, E, r, z⟩ := q
    unfold evP at z
    rw [if_pos h] at z
    exact z none W H Ext.refl r rfl
  | some l =>
    simp only [Bool.and_eq_true, Bool.not_eq_true'] at h
    have pl := il.v _ _ X Wi h.2 C tk
    refine ⟨fun pins s σ H Q I q => (po_some pl).run pins s σ H Q I ?_⟩
    obtain ⟨W, S, env, E, r, z⟩ := q
    unfold evP at z
    rw [if_neg (by rw [h.1]; exact Bool.false_ne_true)] at z
    refine ⟨W, S, env, E, r, (Wq.bind (rp := rpD K) z).mono fun x H1 z => ?_⟩
    obtain ⟨W1, S1, dx, e1, r1, p1, z⟩ := z
    obtain ⟨o, e, f⟩ := z.of
    cases p1 <;> simp only [part] at e <;> first | (cases e; done) | skip
    cases e
    exact ⟨_, rfl, f _ W1 H1 Ext.refl r1 rfl⟩
theorem s_sl (a lo hi : E) (ia : Snd P w K mg base G Y nm kk N a) (il : Snd P w K mg base G Y nm kk N lo) (ih : Snd P w K mg base G Y nm kk N hi) : Snd P w K mg base G Y nm kk N (.sl a lo hi) := by
  refine ⟨fun sc x X Wi h C tk => ?_, fun sc x X Wi h C tk => by simp [chkT] at h, fun sc a X Wi h C tk => by simp [chkA] at h⟩
  simp only [chk] at h
  split at h <;> try (cases h; done)
  simp only [Bool.and_eq_true] at h
  obtain ⟨⟨h1, h2⟩, h3⟩ := h
  have pa := ia.v _ _ X Wi h1 C tk
  have pl := part_ok il h2 C tk
  have ph := part_ok ih h3 C tk
  have e1 := C.hK
  subst e1
  refine (pe_slice sl_3 pa pl ph).imp fun σ H Q wq => ?_
  obtain ⟨W, S, env, E, r, z⟩ := wq
  have z : Wq X.K nm (rpD X.K) W H ((ev G (run G kk) a env S).bind fun x S => (evP G (run G kk) lo env S).bind fun l S => (evP G (run G kk) hi env S).bind fun h S => R.of (slD x l h S) S) Q (Xw nm Wi σ) := z
  refine ⟨W, S, env, E, r, (Wq.bind (rp := rpD X.K) z).mono fun x H1 z => ?_⟩
  obtain ⟨W1, S1, dx, e1, r1, p1, z⟩ := z
  have E1 := E.mono r.trk e1
  refine ⟨W1, S1, env, E1, r1, (Wq.bind (rp := rpO) z).mono fun l H2 z => ?_⟩
  obtain ⟨W2, S2, dl, e2, r2, p2, z⟩ := z
  have E2 := E1.mono r1.trk e2
  cases (show dl = l from p2)
  refine ⟨W2, S2, env, E2, r2, (Wq.bind (rp := rpO) z).mono fun h H3 z => ?_⟩
  obtain ⟨W3, S3, dh, e3, r3, p3, z⟩ := z
  cases (show dh = h from p3)
  obtain ⟨d, e, f⟩ := z.fin
  exact sl_ok r3 ((p1.mono r1.trk e2).mono r2.trk e3) e f
end
end PL

set_option Elab.async false
set_option linter.all false
set_option maxRecDepth 100000
set_option maxHeartbeats 1000000
/-! PLK: what a loop walks. -/
namespace PL
open PySem PySem.Spec PyProof.Rows L2
section
variable {K : PySem.W.Frag} {nm : Nm} {W W' : Wd} {H H' : Hp} {S : Store}
/-- an address more is set aside -/
def Wd.add (W : Wd) (p : Addr) : Wd := ⟨W.m, p :: W.B⟩
mutual
theorem Rep.addB {p : Addr} {o : HO} (n : H p = none) : ∀ {d : D} {v : V}, Rep K W H d v → Rep K (W.add p) (upd H p o) d v
  | _, _, .non => .non
  | _, _, .bl b => .bl b
  | _, _, .int i => .int i
  | _, _, .str x => .str x
  | _, _, .tup h r => .tup (by
      rcases h with (h | ⟨u, h⟩) | h
      · exact .inl (.inl (same_upd n _ _ h))
      · exact .inl (.inr ⟨u, same_upd n _ _ h⟩)
      · exact .inr h) (Reps.addB n r)
  | _, _, .lst h a b r => .lst (by
      rcases h with h | ⟨u, h⟩
      · exact .inl (same_upd n _ _ h)
      · exact .inr ⟨u, same_upd n _ _ h⟩) a (by
      simp only [Wd.add, List.mem_cons, not_or]
      refine ⟨fun e => ?_, b⟩
      subst e
      rcases h with h | ⟨u, h⟩ <;> (rw [n] at h; cases h)) (Reps.addB n r)
  | _, _, .dct h a b r => .dct (by
      rcases h with h | ⟨u, h⟩
      · exact .inl (same_upd n _ _ h)
      · exact .inr ⟨u, same_upd n _ _ h⟩) a (by
      simp only [Wd.add, List.mem_cons, not_or]
      refine ⟨fun e => ?_, b⟩
      subst e
      rcases h with h | ⟨u, h⟩ <;> (rw [n] at h; cases h)) (RepK.addB n r)
  | _, _, .ref h => .ref h
  | _, _, .scr h => .scr (by
      rcases h with ⟨u, h⟩ | h
      · exact .inl ⟨u, same_upd n _ _ h⟩
      · exact .inr h)
theorem Reps.addB {p : Addr} {o : HO} (n : H p = none) : ∀ {d : List D} {v : List V}, Reps K W H d v → Reps K (W.add p) (upd H p o) d v
  | _, _, .nil => .nil
  | _, _, .cons r rs => .cons (Rep.addB n r) (Reps.addB n rs)
theorem RepK.addB {p : Addr} {o : HO} (n : H p = none) : ∀ {d : List (Ky × D)} {v : List (Key × V)}, RepK K W H d v → RepK K (W.add p) (upd H p o) d v
  | _, _, .nil => .nil
  | _, _, .cons r rs => .cons (Rep.addB n r) (RepK.addB n rs)
end
mutual
theorem Rep.delB {p : Addr} : ∀ {d : D} {v : V}, Rep K (W.add p) H d v → Rep K W H d v
  | _, _, .non => .non
  | _, _, .bl b => .bl b
  | _, _, .int i => .int i
  | _, _, .str x => .str x
  | _, _, .tup h r => .tup h (Reps.delB r)
  | _, _, .lst h a b r => .lst h a (fun z => b (List.mem_cons_of_mem _ z)) (Reps.delB r)
  | _, _, .dct h a b r => .dct h a (fun z => b (List.mem_cons_of_mem _ z)) (RepK.delB r)
  | _, _, .ref h => .ref h
  | _, _, .scr h => .scr h
theorem Reps.delB {p : Addr} : ∀ {d : List D} {v : List V}, Reps K (W.add p) H d v → Reps K W H d v
  | _, _, .nil => .nil
  | _, _, .cons r rs => .cons (Rep.delB r) (Reps.delB rs)
theorem RepK.delB {p : Addr} : ∀ {d : List (Ky × D)} {v : List (Key × V)}, RepK K (W.add p) H d v → RepK K W H d v
  | _, _, .nil => .nil
  | _, _, .cons r rs => .cons (Rep.delB r) (RepK.delB rs)
end
theorem ob_map {W W' : Wd} {H H' : Hp} {a : Addr} {o : Ob} (hm : ∀ d v, Rep K W H d v → Rep K W' H' d v) (hs : ∀ d v, Reps K W H d v → Reps K W' H' d v) (hk : ∀ d v, RepK K W H d v → RepK K W' H' d v) (ha : ∀ u, H a = some u → H' a = some u)
    (q : ObRep K nm W H a o) : ObRep K nm W' H' a o := by
  cases o with
  | lst xs => obtain ⟨vs, e, z⟩ := q; exact ⟨vs, ha _ e, hs _ _ z⟩
  | dct xs => obtain ⟨vs, e, z⟩ := q; exact ⟨vs, ha _ e, hk _ _ z⟩
  | dtt xs =>
    obtain ⟨vs, e, z⟩ := q
    refine ⟨vs, ha _ e, ?_⟩
    clear e
    induction z with
    | nil => exact .nil
    | cons r _ ih => exact .cons (hm _ _ r) ih
  | ins c fs =>
    obtain ⟨dx, vs, e, z⟩ := q
    refine ⟨dx, vs, ha _ e, ?_⟩
    clear e
    induction z with
    | nil => exact .nil
    | cons r _ ih => exact .cons (hm _ _ r) ih
theorem Rel.addB {p : Addr} {o : HO} (r : Rel K nm W S H) (n : H p = none) : Rel K nm (W.add p) S (upd H p o) := by
  refine ⟨r.len, r.nd, fun k a ob h1 h2 => ob_map (fun d v q => q.addB n) (fun d v q => q.addB n) (fun d v q => q.addB n) (fun u e => same_upd n _ _ e) (r.ob k a ob h1 h2), fun b hb => ?_⟩
  rcases List.mem_cons.mp hb with rfl | hb
  · exact ⟨(r.fresh n).1, o, upd_same⟩
  · obtain ⟨h1, u, h2⟩ := r.bs b hb
    exact ⟨h1, u, same_upd n _ _ h2⟩
theorem Rel.delB {p : Addr} (r : Rel K nm (W.add p) S H) : Rel K nm W S H :=
  ⟨r.len, r.nd, fun k a ob h1 h2 => ob_map (fun d v q => q.delB) (fun d v q => q.delB) (fun d v q => q.delB) (fun u e => e) (r.ob k a ob h1 h2), fun b hb => r.bs b (List.mem_cons_of_mem _ hb)⟩
/-- the list that is set aside grows -/
theorem Rel.putB {p : Addr} {o : HO} (r : Rel K nm (W.add p) S H) (hB : ∀ d v, Rep K (W.add p) H d v → Rep K (W.add p) (upd H p o) d v) (hBs : ∀ d v, Reps K (W.add p) H d v → Reps K (W.add p) (upd H p o) d v) (hBk : ∀ d v, RepK K (W.add p) H d v → RepK K (W.add p) (upd H p o) d v) :
    Rel K nm (W.add p) S (upd H p o) := by
  refine ⟨r.len, r.nd, fun k a ob h1 h2 => ob_map hB hBs hBk (fun u e => ?_) (r.ob k a ob h1 h2), fun b hb => ?_⟩
  · have : a ≠ p := fun z => (r.bs p (List.mem_cons_self)).1 (z ▸ List.mem_of_getElem? h1)
    rw [upd_ne this]; exact e
  · by_cases e : b = p
    · subst e; exact ⟨(r.bs b hb).1, o, upd_same⟩
    · obtain ⟨h1, u, h2⟩ := r.bs b hb
      exact ⟨h1, u, by rw [upd_ne e]; exact h2⟩
mutual
theorem Rep.putB {p : Addr} {xs : List V} {o : HO} (hp : H p = some (.lst xs)) : ∀ {d : D} {v : V}, Rep K (W.add p) H d v → Rep K (W.add p) (upd H p o) d v
  | _, _, .non => .non
  | _, _, .bl b => .bl b
  | _, _, .int i => .int i
  | _, _, .str x => .str x
  | _, _, .tup (a := a) h r => .tup (by
      have ne : ∀ u, H a = some u → (∀ l, u ≠ .lst l) → upd H p o a = some u := fun u e hu => by
        have : a ≠ p := fun z => by subst z; rw [hp] at e; cases e; exact hu _ rfl
        rw [upd_ne this]; exact e
      rcases h with (h | ⟨u, h⟩) | h
      · exact .inl (.inl (ne _ h (by simp)))
      · exact .inl (.inr ⟨u, ne _ h (by simp)⟩)
      · exact .inr h) (Reps.putB hp r)
  | _, _, .lst h a b r => .lst (by
      have : _ ≠ p := fun z => b (z ▸ List.mem_cons_self)
      rcases h with h | ⟨u, h⟩
      · exact .inl (by rw [upd_ne this]; exact h)
      · exact .inr ⟨u, by rw [upd_ne this]; exact h⟩) a b (Reps.putB hp r)
  | _, _, .dct h a b r => .dct (by
      have : _ ≠ p := fun z => b (z ▸ List.mem_cons_self)
      rcases h with h | ⟨u, h⟩
      · exact .inl (by rw [upd_ne this]; exact h)
      · exact .inr ⟨u, by rw [upd_ne this]; exact h⟩) a b (RepK.putB hp r)
  | _, _, .ref h => .ref h
  | _, _, .scr (a := a) h => .scr (by
      rcases h with ⟨u, h⟩ | h
      · have : a ≠ p := fun z => by subst z; rw [hp] at h; cases h
        exact .inl ⟨u, by rw [upd_ne this]; exact h⟩
      · exact .inr h)
theorem Reps.putB {p : Addr} {xs : List V} {o : HO} (hp : H p = some (.lst xs)) : ∀ {d : List D} {v : List V}, Reps K (W.add p) H d v → Reps K (W.add p) (upd H p o) d v
  | _, _, .nil => .nil
  | _, _, .cons r rs => .cons (Rep.putB hp r) (Reps.putB hp rs)
theorem RepK.putB {p : Addr} {xs : List V} {o : HO} (hp : H p = some (.lst xs)) : ∀ {d : List (Ky × D)} {v : List (Key × V)}, RepK K (W.add p) H d v → RepK K (W.add p) (upd H p o) d v
  | _, _, .nil => .nil
  | _, _, .cons r rs => .cons (Rep.putB hp r) (RepK.putB hp rs)
end
theorem ERep.addB {env : Env} {σ : L2.St} {p : Addr} {o : HO} (E : ERep K W H env σ) (n : H p = none) : ERep K (W.add p) (upd H p o) env σ :=
  ⟨E.len, fun i d h => let ⟨v, a, b⟩ := E.get i d h; ⟨v, a, b.addB n⟩⟩
theorem ERep.delB {env : Env} {σ : L2.St} {p : Addr} (E : ERep K (W.add p) H env σ) : ERep K W H env σ :=
  ⟨E.len, fun i d h => let ⟨v, a, b⟩ := E.get i d h; ⟨v, a, b.delB⟩⟩

mutual
theorem Rep.monoB {p : Addr} (t : Trk W H) (e : Ext W H W' H') (n : H p = none) : ∀ {d : D} {v : V}, Rep K W H d v → Rep K (W'.add p) H' d v
  | _, _, .non => .non
  | _, _, .bl b => .bl b
  | _, _, .int i => .int i
  | _, _, .str x => .str x
  | _, _, .tup h r => .tup (e.sqT t h) (Reps.monoB t e n r)
  | _, _, .lst h a b r => .lst (e.rd h a).1 (e.rd h a).2 (by
      simp only [Wd.add, List.mem_cons, not_or]
      refine ⟨fun z => ?_, by rw [e.B]; exact b⟩
      subst z
      rcases h with h | ⟨u, h⟩ <;> (rw [n] at h; cases h)) (Reps.monoB t e n r)
  | _, _, .dct h a b r => .dct (e.rd h a).1 (e.rd h a).2 (by
      simp only [Wd.add, List.mem_cons, not_or]
      refine ⟨fun z => ?_, by rw [e.B]; exact b⟩
      subst z
      rcases h with h | ⟨u, h⟩ <;> (rw [n] at h; cases h)) (RepK.monoB t e n r)
  | _, _, .ref h => .ref (by
      obtain ⟨t, e1, _⟩ := e.m
      show W'.m[_]? = _
      rw [e1]
      exact (List.getElem?_append_left (List.getElem?_eq_some_iff.mp h).1).trans h)
  | _, _, .scr h => .scr (e.scr t h)
theorem Reps.monoB {p : Addr} (t : Trk W H) (e : Ext W H W' H') (n : H p = none) : ∀ {d : List D} {v : List V}, Reps K W H d v → Reps K (W'.add p) H' d v
  | _, _, .nil => .nil
  | _, _, .cons r rs => .cons (Rep.monoB t e n r) (Reps.monoB t e n rs)
theorem RepK.monoB {p : Addr} (t : Trk W H) (e : Ext W H W' H') (n : H p = none) : ∀ {d : List (Ky × D)} {v : List (Key × V)}, RepK K W H d v → RepK K (W'.add p) H' d v
  | _, _, .nil => .nil
  | _, _, .cons r rs => .cons (Rep.monoB t e n r) (RepK.monoB t e n rs)
end
theorem ERep.monoB {env : Env} {σ : L2.St} {p : Addr} (t : Trk W H) (e : Ext W H W' H') (n : H p = none) (E : ERep K W H env σ) : ERep K (W'.add p) H' env σ :=
  ⟨E.len, fun i d h => let ⟨v, a, b⟩ := E.get i d h; ⟨v, a, b.monoB t e n⟩⟩

/-! ### walks of items -/
/-- wherever Gr holds J gives the items xs -/
def Wlk (K : PySem.W.Frag) (nm : Nm) (Gr : Wd → Hp → Prop) (J : It) (xs : List D) : Prop := ∃ (Gd : Hp → Prop) (Yd : Nat → Hp → V → Hp → Prop), Walk J xs.length Gd Yd ∧ (∀ W H, Gr W H → Gd H) ∧
  ∀ (i : Nat) W S H x H', i < xs.length → Gr W H → Rel K nm W S H → Yd i H x H' → ∃ d, xs[i]? = some d ∧ Ext W H W H' ∧ (∀ a o, H a = some o → H' a = some o) ∧ Rep K W H' d x
def ExtB (W0 : Wd) (H0 : Hp) (p : Addr) : Wd → Hp → Prop := fun W H => ∃ W', W = W'.add p ∧ Ext W0 H0 W' H
/-- .. with an address set aside, too -/
def ItOk (K : PySem.W.Frag) (nm : Nm) (W : Wd) (H : Hp) (J : It) (xs : List D) : Prop := Wlk K nm (Ext W H) J xs ∧ ∀ p, H p = none → Wlk K nm (ExtB W H p) J xs
variable {Gr : Wd → Hp → Prop}
theorem wlk_list {a : Addr} {xs : List D} {vs : List V} (h : ∀ W H, Gr W H → Rd H a (.lst vs)) (p : ∀ W H, Gr W H → Reps K W H xs vs) (hl : xs.length = vs.length) : Wlk K nm Gr (Itl K a) xs := by
  refine ⟨_, _, hl ▸ walk_list (xs := vs), fun W' H' e => .inl (h _ _ e), fun i W' S H' x H2 hi e r y => ?_⟩
  obtain ⟨rfl, y⟩ := y
  have hl : i < xs.length := hi
  obtain ⟨v, h1, h2⟩ := (p _ _ e).get (i := i) (d := xs[i]) (by simp [hl])
  rw [h1] at y; cases y
  exact ⟨_, by simp [hl], Ext.refl, fun _ _ z => z, h2⟩
theorem wlk_tup {a : Addr} {xs : List D} {vs : List V} (h : ∀ W H, Gr W H → SqT K H a vs) (p : ∀ W H, Gr W H → Reps K W H xs vs) (hl : xs.length = vs.length) : Wlk K nm Gr (Itt K a) xs := by
  refine ⟨_, _, hl ▸ walk_tup (xs := vs), fun W' H' e => h _ _ e, fun i W' S H' x H2 hi e r y => ?_⟩
  obtain ⟨rfl, y⟩ := y
  have hl : i < xs.length := hi
  obtain ⟨v, h1, h2⟩ := (p _ _ e).get (i := i) (d := xs[i]) (by simp [hl])
  rw [h1] at y; cases y
  exact ⟨_, by simp [hl], Ext.refl, fun _ _ z => z, h2⟩
theorem rngD_get {lo c : Int} {n i : Nat} (h : i < n) : (rngD lo c n)[i]? = some (.int (lo + i * c)) := by
  simp [rngD, h]
theorem rngD_len {lo c : Int} {n : Nat} : (rngD lo c n).length = n := by simp [rngD]
theorem wlk_range {lo : Int} {n : Nat} : Wlk K nm Gr (L2.Itr lo n) (rngD lo 1 n) := by
  refine ⟨_, _, (by rw [rngD_len]; exact walk_range), fun _ _ _ => trivial, fun i W' S H' x H2 hi e r y => ?_⟩
  obtain ⟨rfl, rfl⟩ := y
  rw [rngD_len] at hi
  exact ⟨_, rngD_get hi, Ext.refl, fun _ _ z => z, by rw [Int.mul_one]; exact .int _⟩
theorem wlk_rangeC {lo c : Int} {n : Nat} : Wlk K nm Gr (Itc lo c n) (rngD lo c n) := by
  refine ⟨_, _, (by rw [rngD_len]; exact walk_rangeC), fun _ _ _ => trivial, fun i W' S H' x H2 hi e r y => ?_⟩
  obtain ⟨rfl, rfl⟩ := y
  rw [rngD_len] at hi
  exact ⟨_, rngD_get hi, Ext.refl, fun _ _ z => z, .int _⟩
theorem chars_len {x : Str} : (chars x).length = x.cps.size := by simp [chars]
theorem wlk_str {z : Str} : Wlk K nm Gr (Its z) (chars z) := by
  refine ⟨_, _, (by rw [chars_len]; exact walk_str), fun _ _ _ => trivial, fun i W' S H' x H2 hi e r y => ?_⟩
  obtain ⟨rfl, c, h1, rfl⟩ := y
  exact ⟨.str ⟨#[c]⟩, by simp [chars, h1], Ext.refl, fun _ _ z => z, .str _⟩
theorem pair_new {W : Wd} {H : Hp} {S : Store} {T : Addr} {x y : V} {d e : D} (r : Rel K nm W S H) (n : H T = none) (p : Rep K W H d x) (q : Rep K W H e y) : Ext W H W (upd H T (.tup [x, y])) ∧ (∀ a o, H a = some o → upd H T (.tup [x, y]) a = some o) ∧ Rep K W (upd H T (.tup [x, y])) (.tup [d, e]) (.ref T) :=
  ⟨Ext.alloc n, same_upd n, .tup (SqT.of upd_same) (.cons (p.mono r.trk (Ext.alloc n)) (.cons (q.mono r.trk (Ext.alloc n)) .nil))⟩
theorem zipD_get {xs ys : List D} {i : Nat} {d e : D} (h1 : xs[i]? = some d) (h2 : ys[i]? = some e) : (xs.zipWith (fun x y => D.tup [x, y]) ys)[i]? = some (.tup [d, e]) := by
  simp [List.getElem?_zipWith, h1, h2]
theorem walk_zipT {a b : Addr} {xs ys : List V} {n : Nat} (hn : n = min xs.length ys.length) : Walk (RZ.ItzT K a b) n (fun H => SqT K H a xs ∧ SqT K H b ys) (YPair (fun i => xs[i]?) (fun i => ys[i]?)) := by
  subst hn
  refine ⟨fun i _ hi q => ?_, fun _ q => ⟨xs, ys, q.1, q.2, by omega⟩, fun i H v H' _ q y => ?_⟩
  · have h1 : i < xs.length := by omega
    have h2 : i < ys.length := by omega
    exact ⟨xs, ys, xs[i], ys[i], q.1, q.2, by simp [h1], by simp [h2]⟩
  · obtain ⟨T, x, z, h1, h2, h3, h4, h5⟩ := y
    exact ⟨T, x, z, h1, h2, h3, h4 xs q.1, h5 ys q.2⟩
theorem wlk_zip {J : It} {xs ys : List D} {vs us : List V} {Gd : Hp → Prop} (w : Walk J (xs.zipWith (fun x y => D.tup [x, y]) ys).length Gd (YPair (fun i => vs[i]?) (fun i => us[i]?))) (h : ∀ W H, Gr W H → Gd H) (p : ∀ W H, Gr W H → Reps K W H xs vs) (p' : ∀ W H, Gr W H → Reps K W H ys us) :
    Wlk K nm Gr J (xs.zipWith (fun x y => .tup [x, y]) ys) := by
  refine ⟨_, _, w, h, fun i W' S H' x H2 hi e r y => ?_⟩
  rw [List.length_zipWith] at hi
  obtain ⟨T, x1, y1, rfl, hT, rfl, g1, g2⟩ := y
  obtain ⟨v, q1, q2⟩ := (p _ _ e).get (i := i) (d := xs[i]'(by omega)) (by simp [show i < xs.length by omega])
  obtain ⟨v', q3, q4⟩ := (p' _ _ e).get (i := i) (d := ys[i]'(by omega)) (by simp [show i < ys.length by omega])
  cases q1.symm.trans g1
  cases q3.symm.trans g2
  obtain ⟨z1, z2, z3⟩ := pair_new r hT q2 q4
  exact ⟨_, zipD_get (by simp [show i < xs.length by omega]) (by simp [show i < ys.length by omega]), z1, z2, z3⟩
theorem enumD_len {xs : List D} : (enumD xs).length = xs.length := by simp [enumD]
theorem enumD_get {xs : List D} {i : Nat} {d : D} (h : xs[i]? = some d) : (enumD xs)[i]? = some (.tup [.int i, d]) := by
  have hl := (List.getElem?_eq_some_iff.mp h).1
  obtain ⟨_, rfl⟩ := List.getElem?_eq_some_iff.mp h
  simp [enumD, List.getElem?_zipWith, hl, List.getElem?_range hl]
theorem wlk_enum {J : It} {xs : List D} {vs : List V} {Gd : Hp → Prop} (w : Walk J (enumD xs).length Gd (YPair (fun i => some (.int (i : Nat))) (fun i => vs[i]?))) (h : ∀ W H, Gr W H → Gd H) (p : ∀ W H, Gr W H → Reps K W H xs vs) : Wlk K nm Gr J (enumD xs) := by
  refine ⟨_, _, w, h, fun i W' S H' x H2 hi e r y => ?_⟩
  rw [enumD_len] at hi
  obtain ⟨T, x1, y1, rfl, hT, rfl, g1, g2⟩ := y
  obtain ⟨v, q1, q2⟩ := (p _ _ e).get (i := i) (d := xs[i]) (by simp [hi])
  cases q1.symm.trans g2
  cases g1
  obtain ⟨z1, z2, z3⟩ := pair_new r hT (.int _) q2
  exact ⟨_, enumD_get (by simp [hi]), z1, z2, z3⟩
theorem ItOk.of {J : It} {xs : List D} (h : ∀ Gr : Wd → Hp → Prop, (∀ W' H', Gr W' H' → ∃ W2, Ext W H W2 H' ∧ (W' = W2 ∨ ∃ p, H p = none ∧ W' = W2.add p)) → Wlk K nm Gr J xs) : ItOk K nm W H J xs :=
  ⟨h _ fun W' H' e => ⟨W', e, .inl rfl⟩, fun p hp => h _ fun W' H' ⟨W2, e1, e2⟩ => ⟨W2, e2, .inr ⟨p, hp, e1⟩⟩⟩
theorem reps_gr {xs : List D} {vs : List V} (t : Trk W H) (p : Reps K W H xs vs) {W' W2 : Wd} {H' : Hp} (e : Ext W H W2 H') (h : W' = W2 ∨ ∃ p, H p = none ∧ W' = W2.add p) : Reps K W' H' xs vs := by
  rcases h with rfl | ⟨q, hq, rfl⟩
  · exact p.mono t e
  · exact p.monoB t e hq
theorem ItOk.list {a : Addr} {xs : List D} {vs : List V} (t : Trk W H) (h : Rd H a (.lst vs)) (n : a ∉ W.m) (p : Reps K W H xs vs) : ItOk K nm W H (Itl K a) xs :=
  .of fun Gr g => wlk_list (fun W' H' e => let ⟨_, e1, _⟩ := g _ _ e; (e1.rd h n).1) (fun W' H' e => let ⟨_, e1, e2⟩ := g _ _ e; reps_gr t p e1 e2) p.length
theorem ItOk.tup {a : Addr} {xs : List D} {vs : List V} (t : Trk W H) (h : SqT K H a vs) (p : Reps K W H xs vs) : ItOk K nm W H (Itt K a) xs :=
  .of fun Gr g => wlk_tup (fun W' H' e => let ⟨_, e1, _⟩ := g _ _ e; e1.sqT t h) (fun W' H' e => let ⟨_, e1, e2⟩ := g _ _ e; reps_gr t p e1 e2) p.length
theorem ItOk.enumL {a : Addr} {xs : List D} {vs : List V} (t : Trk W H) (h : Rd H a (.lst vs)) (n : a ∉ W.m) (p : Reps K W H xs vs) : ItOk K nm W H (Ite K a) (enumD xs) :=
  .of fun Gr g => wlk_enum (by rw [enumD_len, p.length]; exact walk_enum (xs := vs)) (fun W' H' e => let ⟨_, e1, _⟩ := g _ _ e; Or.inl (e1.rd h n).1) (fun W' H' e => let ⟨_, e1, e2⟩ := g _ _ e; reps_gr t p e1 e2)
theorem ItOk.zipL {a b : Addr} {xs ys : List D} {vs us : List V} (t : Trk W H) (h : Rd H a (.lst vs)) (n : a ∉ W.m) (p : Reps K W H xs vs) (h' : Rd H b (.lst us)) (n' : b ∉ W.m) (p' : Reps K W H ys us) : ItOk K nm W H (Itz K a b) (xs.zipWith (fun x y => .tup [x, y]) ys) :=
  .of fun Gr g => wlk_zip (walk_zip (xs := vs) (ys := us) (by rw [List.length_zipWith, p.length, p'.length])) (fun W' H' e => let ⟨_, e1, _⟩ := g _ _ e; ⟨Or.inl (e1.rd h n).1, Or.inl (e1.rd h' n').1⟩) (fun W' H' e => let ⟨_, e1, e2⟩ := g _ _ e; reps_gr t p e1 e2) (fun W' H' e => let ⟨_, e1, e2⟩ := g _ _ e; reps_gr t p' e1 e2)
theorem ItOk.zipT {a b : Addr} {xs ys : List D} {vs us : List V} (t : Trk W H) (h : SqT K H a vs) (p : Reps K W H xs vs) (h' : SqT K H b us) (p' : Reps K W H ys us) : ItOk K nm W H (RZ.ItzT K a b) (xs.zipWith (fun x y => .tup [x, y]) ys) :=
  .of fun Gr g => wlk_zip (walk_zipT (xs := vs) (ys := us) (by rw [List.length_zipWith, p.length, p'.length])) (fun W' H' e => let ⟨_, e1, _⟩ := g _ _ e; ⟨e1.sqT t h, e1.sqT t h'⟩) (fun W' H' e => let ⟨_, e1, e2⟩ := g _ _ e; reps_gr t p e1 e2) (fun W' H' e => let ⟨_, e1, e2⟩ := g _ _ e; reps_gr t p' e1 e2)
/-- what is walked -/
def ItFor (K : PySem.W.Frag) (nm : Nm) (W : Wd) (H : Hp) (it : PL.Itr) (J : It) : Prop := match it with
  | .items xs => ItOk K nm W H J xs
  | .live n en => ∃ a, W.m[n]? = some a ∧ J = (if en then Ite K a else Itl K a)
end
section
variable {P : Program} {w : World} {K : PySem.W.Frag} {mg : Str → Option Value} {base : Heap} {G : Tab} {Y : Sx} {nm : Nm} {fa : Nat → Addr} {fd : Nat → FuncData} {ps : Nat → List Str} {kk : Nat} {N : List Str}
variable {sc : Scope} {X : Cx} {Wi : WX}
theorem _root_.L2.PI.or {tg e : Expr} {w1 w2 : TI} (h1 : PI X tg e w1) (h2 : PI X tg e w2) : PI X tg e (fun σ H R => w1 σ H R ∨ w2 σ H R) :=
  ⟨fun pins s σ H R I w => w.elim (h1.run pins s σ H R I) (h2.run pins s σ H R I)⟩
theorem _root_.L2.PI.imp {tg e : Expr} {w1 w2 : TI} (h1 : PI X tg e w1) (h : ∀ σ H R, w2 σ H R → w1 σ H R) : PI X tg e w2 := ⟨fun pins s σ H R I w => h1.run pins s σ H R I (h σ H R w)⟩
def tI (K : PySem.W.Frag) (nm : Nm) (Wi : WX) (k : IK) (f : Env → Store → R D) : TI := tX K nm (ItFor K nm) Wi fun env S => (f env S).bind fun d S => R.of (mkIt k (srcL k d) S) S
theorem pi_plain {tg e : Expr} {f : Env → Store → R D} (hK : X.K = K) (he : PE X e (tE K nm Wi f)) : PI X tg e (tI K nm Wi .plain f) := by
  subst hK
  refine (((pi_list he).or (pi_tup he)).or (pi_str he)).imp fun σ H R q => ?_
  obtain ⟨W, S, env, E, r, z⟩ := q
  dsimp only at z
  cases hd : f env S with
  | bad => rw [hd] at z; exact z.elim
  | ex c S1 => rw [hd] at z; exact .inl (.inl ⟨W, S, env, E, r, by rw [hd]; exact z⟩)
  | ok d S1 =>
    rw [hd] at z
    cases d with
    | tup xs =>
      refine .inl (.inr ⟨W, S, env, E, r, ?_⟩)
      rw [hd]
      intro v W' H' e' r' p
      cases p with
      | @tup _ a vs h1 h2 => exact ⟨a, rfl, ⟨vs, h1⟩, z _ W' H' e' r' (.tup r'.trk h1 h2)⟩
    | lst xs =>
      refine .inl (.inl ⟨W, S, env, E, r, ?_⟩)
      rw [hd]
      intro v W' H' e' r' p
      cases p with
      | @lst _ a vs h1 h2 h3 h4 => exact ⟨a, rfl, ⟨vs, .inl h1⟩, z _ W' H' e' r' (.list r'.trk h1 h2 h4)⟩
    | str x =>
      refine .inr ⟨W, S, env, E, r, ?_⟩
      rw [hd]
      intro v W' H' e' r' p
      cases p
      exact ⟨x, rfl, z _ W' H' e' r' ⟨wlk_str, fun _ _ => wlk_str⟩⟩
    | ref n =>
      refine .inl (.inl ⟨W, S, env, E, r, ?_⟩)
      rw [hd]
      intro v W' H' e' r' p
      simp only [PL.R.bind_ok, srcL, mkIt] at z
      cases p with
      | @ref _ a h1 =>
        split at z
        · rename_i xs q
          obtain ⟨vs, h2, h3⟩ := r'.ob n a _ h1 q
          exact ⟨a, rfl, ⟨vs, .inl (.inl h2)⟩, z _ W' H' e' r' ⟨a, h1, rfl⟩⟩
        · exact z.elim
    | _ => exact z.elim
theorem b62_ok {i : Int} (h : b62 i = true) : -(2 ^ 62) ≤ i ∧ i < 2 ^ 62 := by
  simp only [b62, Bool.and_eq_true, decide_eq_true_eq] at h
  exact h
theorem star_one {a : Expr} {env : PySem.Env} (h : notStar a = true) : starEach [a] env = [(false, eval a env)] := star_ok h
theorem pi_args {tg iter : Expr} {es : List Expr} {ik : IK} {f : Env → Store → R D} {wi : TA → TI} (hne : ik ≠ .plain) (hi : PI X tg iter (wi (tA K nm Wi f)))
    (hw : ∀ {σ : L2.St} {H : Hp} {R : It → Hp → Prop} {Q : List V → Hp → Prop}, tA K nm Wi f σ H Q → (∀ vs H1, Q vs H1 → wi (fun _ H Q => Q vs H) σ H1 R) → wi (tA K nm Wi f) σ H R)
    (h : ∀ {W : Wd} {S : Store} {H1 : Hp} {xs : List D} {vs : List V} {it : PL.Itr} {σ : L2.St} {R : It → Hp → Prop}, Rel K nm W S H1 → Reps K W H1 xs vs → mkIt ik xs S = some it → (∀ J, ItFor K nm W H1 it J → R J H1) → wi (fun _ H Q => Q vs H) σ H1 R) : PI X tg iter (tI K nm Wi ik f) := by
  refine hi.imp fun σ H R q => ?_
  obtain ⟨W, S, env, E, r, z⟩ := tX.args (g := fun _ d S => PL.R.of (mkIt ik (srcL ik d) S) S) q
  refine hw (Q := _) ⟨W, S, env, E, r, z⟩ fun vs H1 z => ?_
  obtain ⟨W1, S1, xs, env1, E1, r1, p1, z⟩ := z
  obtain ⟨it, e, z⟩ := z.of
  have e : mkIt ik xs S1 = some it := by
    cases ik <;> first | exact absurd rfl hne | exact e
  exact h r1 p1 e fun J hJ => z J W1 H1 Ext.refl r1 hJ
theorem tA.mono {f : Env → Store → R D} {σ : L2.St} {H : Hp} {Q Q' : List V → Hp → Prop} (w : tA K nm Wi f σ H Q) (h : ∀ v H, Q v H → Q' v H) : tA K nm Wi f σ H Q' := by
  obtain ⟨W, S, env, E, r, z⟩ := w
  exact ⟨W, S, env, E, r, z.mono h⟩
theorem pi_rng1 {tg a : Expr} {f : Env → Store → R D} {p pos : Pos} (hg : Gl X "range") (hm : X.mg "range" = none) (hs : notStar a = true) (ha : PA X [a] (tA K nm Wi f)) : PI X tg (.Call (.Name "range" p) [a] [] pos) (tI K nm Wi .rng1 f) := by
  refine pi_args (es := [a]) (wi := iRng1) (by simp) (pi_range1 hg hm ha (star_one hs)) (fun q h => tA.mono q fun v H z => h v H z) fun r p1 e z => ?_
  cases p1 with
  | nil => cases e
  | cons p1 p2 => cases p2 with
    | nil =>
      cases p1 <;> simp only [mkIt] at e <;> first | (cases e; done) | skip
      split at e
      · rename_i h
        cases e
        exact ⟨_, rfl, (b62_ok h).1, (b62_ok h).2, z _ ⟨wlk_range, fun _ _ => wlk_range⟩⟩
      · cases e
    | cons p2 p3 => cases p1 <;> cases e
theorem pi_rng2 {tg a b : Expr} {f : Env → Store → R D} {p pos : Pos} (hg : Gl X "range") (hm : X.mg "range" = none) (hs : notStar a = true) (hs2 : notStar b = true) (ha : PA X [a, b] (tA K nm Wi f)) : PI X tg (.Call (.Name "range" p) [a, b] [] pos) (tI K nm Wi .rng2 f) := by
  refine pi_args (es := [a, b]) (wi := iRng2) (by simp) (pi_range2 hg hm ha (by rw [star_ok hs, star_ok hs2]; rfl) (star_one hs2)) (fun q h => tA.mono q fun v H z => h v H z) fun r p1 e z => ?_
  simp only [mkIt] at e
  split at e <;> try (rename_i h; cases h; done)
  all_goals first | (cases e; done) | skip
  rename_i i j h
  split at e
  · rename_i hb
    cases e
    simp only [Bool.and_eq_true] at hb
    obtain ⟨v, u, rfl, q1, q2⟩ := reps2 p1
    cases q1; cases q2
    exact ⟨_, _, rfl, ⟨(b62_ok hb.1).1, (b62_ok hb.1).2, (b62_ok hb.2).1, (b62_ok hb.2).2⟩, z _ ⟨wlk_range, fun _ _ => wlk_range⟩⟩
  · cases e
theorem pi_zipR {a b : Expr} {f : Env → Store → R D} {p pos tpos : Pos} {elts : List Expr} {q : Nat} (hK : X.K = K) (hg : Gl X "zip") (hm : X.mg "zip" = none) (hs : notStar a = true) (hs2 : notStar b = true) (ha : PA X [a, b] (tA K nm Wi f)) :
    PI X (.Tuple elts q tpos) (.Call (.Name "zip" p) [a, b] [] pos) (tI K nm Wi .zip f) := by
  subst hK
  refine pi_args (es := [a, b]) (wi := RZ.iZipA X.K) (by simp) (RZ.pi_zipA hg hm ha (star_ok hs) (by rw [star_ok hs2]; rfl)) (fun q h => tA.mono q fun v H z => h v H z) fun r p1 e z => ?_
  simp only [mkIt] at e
  split at e <;> try (rename_i h; cases h; done)
  all_goals first | (cases e; done) | skip
  · cases e
    obtain ⟨v, u, rfl, q1, q2⟩ := reps2 p1
    cases q1 with | tup h1 h2 => cases q2 with | tup h3 h4 => exact ⟨_, _, _, _, rfl, .inr ⟨h1, h3, z _ (.zipT r.trk h1 h2 h3 h4)⟩⟩
  · cases e
    obtain ⟨v, u, rfl, q1, q2⟩ := reps2 p1
    cases q1 with | lst h1 n1 b1 h2 => cases q2 with | lst h3 n3 b3 h4 => exact ⟨_, _, _, _, rfl, .inl ⟨.inl h1, .inl h3, z _ (.zipL r.trk h1 n1 h2 h3 n3 h4)⟩⟩

/-! ### targets -/
structure ERepO (K : PySem.W.Frag) (W : Wd) (H : Hp) (env : Env) (σ : L2.St) (sl : List Nat) : Prop where
  len : env.length = σ.length
  get : ∀ (i : Nat) (d : D), i ∉ sl → env[i]? = some (some d) → ∃ v : V, σ[i]? = some (some v) ∧ Rep K W H d v
theorem ERep.o {W : Wd} {H : Hp} {env : Env} {σ : L2.St} (E : ERep K W H env σ) (sl : List Nat) : ERepO K W H env σ sl := ⟨E.len, fun i d _ h => E.get i d h⟩
theorem ERepO.set {W : Wd} {H : Hp} {env : Env} {σ : L2.St} {i : Nat} {sl : List Nat} {d : D} {v : V} (E : ERepO K W H env σ (i :: sl)) (p : Rep K W H d v) : ERepO K W H (env.set i (some d)) (σ.set i (some v)) sl := by
  refine ⟨by simp [E.len], fun j d' hj h => ?_⟩
  by_cases e : i = j
  · subst e
    by_cases hl : i < env.length
    · rw [List.getElem?_set_self hl] at h
      cases h
      exact ⟨v, by rw [List.getElem?_set_self (by rw [← E.len]; exact hl)], p⟩
    · rw [List.getElem?_eq_none (by simpa using hl)] at h
      cases h
  · rw [List.getElem?_set_ne e] at h
    obtain ⟨v', a, b⟩ := E.get j d' (by simp only [List.mem_cons, not_or]; exact ⟨fun z => e z.symm, hj⟩) h
    exact ⟨v', by rw [List.getElem?_set_ne e]; exact a, b⟩
theorem ERepO.nil {W : Wd} {H : Hp} {env : Env} {σ : L2.St} (E : ERepO K W H env σ []) : ERep K W H env σ := ⟨E.len, fun i d h => E.get i d (by simp) h⟩
theorem wipe_comm {σ : L2.St} {v : Nat} {x : Option V} : ∀ {vs : List Nat}, wipe (σ.set v x) (v :: vs) = wipe σ (v :: vs) := by
  have key : ∀ (vs : List Nat) (σ : L2.St), (wipe (σ.set v x) vs).set v none = (wipe σ vs).set v none := by
    intro vs
    induction vs with
    | nil => intro σ; show (σ.set v x).set v none = σ.set v none; rw [List.set_set]
    | cons u us ih =>
      intro σ
      show ((wipe (σ.set v x) us).set u none).set v none = ((wipe σ us).set u none).set v none
      by_cases e : u = v
      · subst e; rw [List.set_set, List.set_set, ih]
      · rw [List.set_comm _ _ e, ih, List.set_comm _ _ (Ne.symm e)]
  exact fun {vs} => key vs σ
theorem wipe_same {σ σ' : L2.St} {v : Nat} {vs : List Nat} (h : wipe σ vs = wipe σ' vs) : wipe σ (v :: vs) = wipe σ' (v :: vs) := by
  show (wipe σ vs).set v none = (wipe σ' vs).set v none
  rw [h]
def gTg (K : PySem.W.Frag) (tg : Tg) : TG := fun v σ H Q => ∃ W d env env', ERepO K W H env σ (slots tg) ∧ Rep K W H d v ∧ bindT tg d env = some env' ∧ ∀ σ', ERep K W H env' σ' → wipe σ' (slots tg) = wipe σ (slots tg) → Q σ' H
theorem pg_one {fl : Bool} (hN : X.N = N) (nd : N.Nodup) (hs : X.env.scope = sc) (hf : fl = true → ∀ x, X.fn x = true) {i : Nat} {e : Expr} (h : tgN N fl sc i e = true) : PG X e (gName i) ∧ ∀ es env, starEach (e :: es) env = (false, eval e env) :: starEach es env ∧ assignEach (e :: es) env = (false, assign e env) :: assignEach es env := by
  cases e <;> simp only [tgN] at h <;> first | (cases h; done) | skip
  simp only [Bool.and_eq_true, Bool.or_eq_true, decide_eq_true_eq] at h
  obtain ⟨h1, h2⟩ := h
  subst hN hs
  refine ⟨?_, fun es env => ⟨rfl, rfl⟩⟩
  rcases h2 with h2 | ⟨h3, h2⟩
  · exact pg_name nd h1 (.inl h2) (.inr h2)
  · exact pg_name nd h1 (.inr h2) (.inl (hf h3 _))
def gNames : List Nat → TGs
  | [] => gNil
  | i :: is => gCons (gName i) (gNames is)
theorem pgs_ok {fl : Bool} (hN : X.N = N) (nd : N.Nodup) (hs : X.env.scope = sc) (hf : fl = true → ∀ x, X.fn x = true) : ∀ {is : List Nat} {es : List Expr}, tgNs N fl sc is es = true →
    PGs X es (gNames is) ∧ (∀ env, (assignEach es env).length = is.length) ∧ ∀ env, (assignEach es env).findIdx? (·.1) = none
  | [], [], _ => ⟨pgs_nil, fun _ => rfl, fun _ => rfl⟩
  | [], _ :: _, h => by cases h
  | _ :: _, [], h => by cases h
  | i :: is, e :: es, h => by
    simp only [tgNs, Bool.and_eq_true] at h
    obtain ⟨a, b⟩ := pg_one hN nd hs hf h.1
    obtain ⟨c, d, f⟩ := pgs_ok hN nd hs hf h.2
    exact ⟨pgs_cons a c (by rw [(b es _).2]; rfl), fun env => by rw [(b es _).2]; simp [d], fun env => by rw [(b es _).2]; simp [List.findIdx?_cons, f]⟩
theorem gNames_ok {W : Wd} {H : Hp} : ∀ {is : List Nat} {xs : List D} {vs : List V} {env env' : Env} {σ : L2.St} {Q : L2.St → Hp → Prop}, ERepO K W H env σ is → Reps K W H xs vs → bindL is xs env = some env' →
    (∀ σ', ERep K W H env' σ' → wipe σ' is = wipe σ is → Q σ' H) → gNames is vs σ H Q
  | [], [], _, env, env', σ, Q, E, .nil, h, q => by
    cases h
    exact ⟨rfl, q _ E.nil rfl⟩
  | [], _ :: _, _, env, env', σ, Q, E, _, h, q => by cases h
  | _ :: _, [], _, env, env', σ, Q, E, _, h, q => by cases h
  | i :: is, x :: xs, _, env, env', σ, Q, E, .cons a b, h, q => by
    refine ⟨_, _, rfl, ?_⟩
    refine gNames_ok (E.set a) b h fun σ' E' hw => q σ' E' ?_
    rw [wipe_same hw, wipe_comm]
theorem pg_ok {fl : Bool} {tg : Tg} {t : Expr} (hK : X.K = K) (hN : X.N = N) (nd : N.Nodup) (hs : X.env.scope = sc) (hc : X.calm = true) (hf : fl = true → ∀ x, X.fn x = true) (h : tgC N fl sc tg t = true) : PG X t (gTg K tg) := by
  subst hK
  cases tg with
  | one i =>
    obtain ⟨a, _⟩ := pg_one hN nd hs hf h
    refine ⟨fun pins s σ H v u Q I r q => a.run pins s σ H v u Q I r ?_⟩
    obtain ⟨W, d, env, env', E, p, hb, q⟩ := q
    cases hb
    exact q _ (E.set p).nil (wipe_comm (vs := []))
  | many is =>
    cases t <;> simp only [tgC] at h <;> first | (cases h; done) | skip
    obtain ⟨a, b, c⟩ := pgs_ok hN nd hs hf h
    refine ⟨fun pins s σ H v u Q I r q => (pg_tup hc a (b _) (c _)).run pins s σ H v u Q I r ?_⟩
    obtain ⟨W, d, env, env', E, p, hb, q⟩ := q
    cases p <;> simp only [bindT] at hb <;> first | (cases hb; done) | skip
    rename_i xs a' vs h1 h2
    refine ⟨a', vs, rfl, h1, ?_, gNames_ok E h2 hb q⟩
    have key : ∀ {is : List Nat} {xs : List D} {env env' : Env}, bindL is xs env = some env' → xs.length = is.length := by
      intro is
      induction is with
      | nil => intro xs env env' h; cases xs <;> first | rfl | cases h
      | cons i is ih => intro xs env env' h; cases xs with
        | nil => cases h
        | cons x xs => simp [ih h]
    rw [h2.lens]; exact key hb
end
end PL

set_option Elab.async false
set_option linter.all false
set_option maxRecDepth 100000
set_option maxHeartbeats 2000000
/-! PLL: list comprehensions. -/
namespace PL
open PySem PySem.Spec PyProof.Rows L2
section
variable {P : Program} {w : World} {K : PySem.W.Frag} {mg : Str → Option Value} {base : Heap} {G : Tab} {Y : Sx} {nm : Nm} {fa : Nat → Addr} {fd : Nat → FuncData} {ps : Nat → List Str} {kk : Nat} {N : List Str}
variable {sc : Scope} {X : Cx} {Wi : WX}
theorem fold_ok {e : Expr} (h : isSet e = false) (env : PySem.Env) (x : Value) : foldedSetIterable e env x = pure x := by
  cases e <;> first | rfl | cases h
theorem blk_ok {s : Shared} {H : Hp} {scope : Scope} {cl : List (Str × Addr)} {Ca : Addr} {fp : List Addr} (C : COk P w K mg base kk N sc X) : COk P w K mg base kk N (relS scope sc) (X.blk s H scope (compEnvC scope cl Ca X.env) fp) :=
  ⟨C.hP, C.hw, C.hK, C.hm, C.hb, C.hN, C.nd, by rw [← C.sc]; rfl, C.room, C.calm⟩
abbrev noX : WX := fun _ _ _ _ => False
theorem ext_loop {W1 W2 W4 : Wd} {H1 H H4 : Hp} {Dl : Addr} {o : HO} (e : Ext W1 H1 W2 H) (t : Trk W2 H) (e4 : Ext (W2.add Dl) H W4 H4) (n : H1 Dl = none) : Ext W1 H1 ⟨W4.m, W1.B⟩ (upd H4 Dl o) := by
  have e5 : Ext W2 H ⟨W4.m, W2.B⟩ H4 := ⟨rfl, e4.m, e4.keep⟩
  have e6 := e.trans t e5
  refine ⟨rfl, e6.m, fun a u h na => ?_⟩
  rw [upd_ne (ne_of_none h n)]
  exact e6.keep a u h na
theorem wd_eta {W2 W4 : Wd} {Dl : Addr} (h : W4.B = (W2.add Dl).B) : W4 = (⟨W4.m, W2.B⟩ : Wd).add Dl := by
  cases W4; cases h; rfl
theorem wipe_set {v : Nat} : ∀ (us : List Nat) (σ : L2.St), wipe (σ.set v none) us = (wipe σ us).set v none
  | [], _ => rfl
  | u :: us, σ => by
    show (wipe (σ.set v none) us).set u none = ((wipe σ us).set u none).set v none
    rw [wipe_set us]
    by_cases e : v = u
    · subst e; rfl
    · rw [List.set_comm _ _ e]
theorem wipe_idem (σ : L2.St) : ∀ vs : List Nat, wipe (wipe σ vs) vs = wipe σ vs
  | [] => rfl
  | v :: vs => by
    show (wipe ((wipe σ vs).set v none) vs).set v none = (wipe σ vs).set v none
    rw [wipe_set, wipe_idem σ vs, List.set_set]
/-- the target, the test, the element, of a turn -/
def cBody (G : Tab) (call : Calls) (tg : Tg) (c e : E) (env : Env) : D → Store → R (Option D) := fun x S => match bindT tg x env with
  | some env' => (mapT (ev G call c env' S)).bind fun k S => if k then (ev G call e env' S).bind fun y S => .ok (some y) S else .ok none S
  | none => .bad
theorem comp_items {call : Calls} {tg : Tg} {c e : E} {env : Env} {σ : L2.St} {W1 : Wd} {H1 : Hp} {S1 : Store} {J : It} {xs : List D} {Q : VK} {Xc : Nat → Hp → Prop}
    (E : ERep K W1 H1 env σ) (r1 : Rel K nm W1 S1 H1) (hJ : ItOk K nm W1 H1 J xs) (z : Wq K nm (rpD K) W1 H1 ((goComp (cBody G call tg c e env) xs [] S1).bind fun ys S => .ok (.lst ys) S) Q Xc) :
    ∀ Dl, H1 Dl = none → ∃ Wm : Nat → Nat → Hp → Prop, (∃ m, Wm 0 m (upd H1 Dl (.lst []))) ∧ ∀ i m H, Wm i m H →
      (J.stop i H ∧ Q (.ref Dl) H) ∨ (J.go i H ∧ ∃ Nx : Hp → Prop, (∀ H', Nx H' → ∃ m', m' < m ∧ Wm (i + 1) m' H') ∧ ∀ x H', J.yld i H x H' → gTg K tg x (wipe σ (slots tg)) H' fun σ2 H2 => wipe σ2 (slots tg) = wipe σ (slots tg) ∧ tT K nm noX (fun env S => mapT (ev G call c env S)) σ2 H2 fun b H3 =>
        if b = true then tE K nm noX (ev G call e) σ2 H3 fun y H4 => ∃ acc, H4 Dl = some (.lst acc) ∧ acc.length < sizeLine ∧ Nx (upd H4 Dl (.lst (acc ++ [y]))) else Nx H3) := by
  intro Dl hD
  obtain ⟨Gd, Yd, wk, st, yl⟩ := hJ.2 Dl hD
  refine lc_it wk (fun i H => ∃ (m2 : List Addr) (S2 : Store) (acc : List D) (av : List V), Ext W1 H1 ⟨m2, W1.B⟩ H ∧ Rel K nm ((⟨m2, W1.B⟩ : Wd).add Dl) S2 H ∧ H Dl = some (.lst av) ∧ Reps K ((⟨m2, W1.B⟩ : Wd).add Dl) H acc av ∧
    goComp (cBody G call tg c e env) xs [] S1 = goComp (cBody G call tg c e env) (xs.drop i) acc S2) ?_ ?_ ?_ ?_
  · exact ⟨W1.m, S1, [], [], Ext.alloc hD, r1.addB hD, upd_same, .nil, rfl⟩
  · rintro i H hi ⟨m2, S2, acc, av, e1, r2, hd, p2, eq⟩
    exact st _ _ ⟨_, rfl, e1⟩
  · rintro i x H H' hi ⟨m2, S2, acc, av, e1, r2, hd, p2, eq⟩ y
    obtain ⟨d, hx, ex, keep, rep⟩ := yl i _ S2 H x H' hi ⟨_, rfl, e1⟩ r2 y
    have r2' := r2.grow ex keep
    have hdrop : xs.drop i = d :: xs.drop (i + 1) := by
      obtain ⟨hl, hv⟩ := List.getElem?_eq_some_iff.mp hx
      rw [List.drop_eq_getElem_cons hl, hv]
    rw [hdrop] at eq
    have t2 : Trk ((⟨m2, W1.B⟩ : Wd).add Dl) H := r2.trk
    have hDm : Dl ∉ m2 := (r2.bs Dl (List.mem_cons_self)).1
    cases hb : bindT tg d env with
    | none =>
      rw [eq] at z
      simp only [goComp, cBody, hb] at z
      exact z.elim
    | some env' =>
      have EB : ERep K ((⟨m2, W1.B⟩ : Wd).add Dl) H' env σ := (E.monoB r1.trk e1 hD).mono t2 ex
      refine ⟨(⟨m2, W1.B⟩ : Wd).add Dl, d, env, env', ⟨by rw [EB.len, wipe_length], fun j d' hj h => ?_⟩, rep, hb, fun σ' E' hw => ⟨hw.trans (wipe_idem _ _), ?_⟩⟩
      · obtain ⟨v, a, b⟩ := EB.get j d' h
        exact ⟨v, by rw [wipe_out hj]; exact a, b⟩
      · have eq2 := eq
        simp only [goComp, cBody, hb] at eq2
        refine ⟨(⟨m2, W1.B⟩ : Wd).add Dl, S2, env', E', r2', ?_⟩
        cases hc : mapT (ev G call c env' S2) with
        | bad => rw [hc] at eq2; rw [eq2] at z; exact z.elim
        | ex _ _ => rw [hc] at eq2; rw [eq2] at z; exact z.elim
        | ok b S3 =>
          rw [hc] at eq2
          simp only [R.bind_ok] at eq2
          dsimp only
          rw [hc]
          intro b' W3 H3 e3 r3 pb
          cases (show b = b' from pb)
          have hd3 : H3 Dl = some (.lst av) := e3.keep _ _ (keep _ _ hd) hDm
          have w3 := wd_eta e3.B
          cases b with
          | false =>
            simp only [Bool.false_eq_true, if_false, R.quiet_ok, R.bind_ok] at eq2 ⊢
            have e13 := ext_loop (o := .lst av) e1 (fun a ha => t2 a ha) (ex.trans r2'.trk e3) hD
            have hup : upd H3 Dl (.lst av) = H3 := by
              funext a; unfold upd; split
              · rename_i e; rw [e, hd3]
              · rfl
            rw [hup] at e13
            refine ⟨W3.m, S3, acc, av, e13, w3 ▸ r3, hd3, ?_, eq2⟩
            exact w3 ▸ ((p2.mono t2 ex).mono r2'.trk e3)
          | true =>
            simp only [if_true] at eq2 ⊢
            refine ⟨W3, S3, env', E'.mono r2'.trk e3, r3, ?_⟩
            cases he : ev G call e env' S3 with
            | bad => rw [he] at eq2; rw [eq2] at z; exact z.elim
            | ex _ _ => rw [he] at eq2; rw [eq2] at z; exact z.elim
            | ok y S4 =>
              rw [he] at eq2
              simp only [R.bind_ok, R.quiet_ok] at eq2
              intro v W4 H4 e4 r4 p4
              have hDm3 : Dl ∉ W3.m := (r3.bs Dl (by rw [e3.B]; exact List.mem_cons_self)).1
              have hd4 : H4 Dl = some (.lst av) := e4.keep _ _ hd3 hDm3
              have w4 := wd_eta (e4.B.trans e3.B)
              have p2' := (((p2.mono t2 ex).mono r2'.trk e3).mono r3.trk e4)
              by_cases hz : acc.length < SZ
              · rw [if_pos hz] at eq2
                refine ⟨av, hd4, by rw [p2.lens, ← SZ_eq]; exact hz, W4.m, S4, acc ++ [y], av ++ [v], ext_loop e1 (fun a ha => t2 a ha) ((ex.trans r2'.trk e3).trans r3.trk e4) hD, ?_, upd_same, ?_, eq2⟩
                · rw [w4] at r4
                  exact r4.putB (fun _ _ q => q.putB hd4) (fun _ _ q => q.putB hd4) (fun _ _ q => q.putB hd4)
                · rw [w4] at p2' p4
                  exact (p2'.putB hd4).append (.cons (p4.putB hd4) .nil)
              · rw [if_neg hz] at eq2
                rw [eq2] at z
                exact z.elim
  · rintro H ⟨m2, S2, acc, av, e1, r2, hd, p2, eq⟩
    rw [List.drop_eq_nil_of_le (Nat.le_refl _)] at eq
    simp only [goComp] at eq
    rw [eq] at z
    refine z _ ⟨m2, W1.B⟩ H e1 r2.delB (.lst (.inl hd) (r2.bs Dl (List.mem_cons_self)).1 (fun hm => ?_) p2.delB)
    obtain ⟨_, o, ho⟩ := r1.bs Dl hm
    rw [hD] at ho; cases ho
theorem itArgs_no {b : List Str} {t iter : Expr} {k : IK} (h : k = .rng3 ∨ k = .enum ∨ k = .items) : itArgs b k sc t iter = none := by
  unfold itArgs
  split
  · split
    · rcases h with rfl | rfl | rfl <;> rfl
    · rfl
  · rfl
theorem pi_src (g : GOk K mg G Y nm fa fd ps) {k : IK} {src : E} (is : Snd P w K mg base G Y nm kk N src) (C : COk P w K mg base kk N sc X) (tk : Takes X Wi) {t iter : Expr}
    (h : (match k with
        | .plain => chk Y N src sc iter
        | k => match itArgs Y.blN k sc t iter with
          | some es => chkA Y N src sc es
          | none => false) = true) : PI X t iter (tI K nm Wi k (ev G (run G kk) src)) := by
  cases k with
  | plain => exact pi_plain C.hK (is.v _ _ X Wi h C tk)
  | rng1 =>
    simp only [itArgs] at h
    split at h <;> try (cases h; done)
    rename_i es hes
    split at hes <;> try (cases hes; done)
    split at hes <;> try (cases hes; done)
    rename_i hg
    simp only [Bool.and_eq_true, decide_eq_true_eq] at hg
    split at hes <;> try (cases hes; done)
    all_goals try (rename_i hk; cases hk; done)
    split at hes <;> try (cases hes; done)
    rename_i hr
    cases hes
    subst hr
    exact pi_rng1 (gl_ok C hg.1) (by rw [C.hm]; exact g.bl _ hg.2) (star1 h) (is.l _ _ X Wi h C tk)
  | rng2 =>
    simp only [itArgs] at h
    split at h <;> try (cases h; done)
    rename_i es hes
    split at hes <;> try (cases hes; done)
    split at hes <;> try (cases hes; done)
    rename_i hg
    simp only [Bool.and_eq_true, decide_eq_true_eq] at hg
    split at hes <;> try (cases hes; done)
    all_goals try (rename_i hk; cases hk; done)
    split at hes <;> try (cases hes; done)
    rename_i hr
    cases hes
    subst hr
    have h2 : notStar _ = true := star2 h
    exact pi_rng2 (gl_ok C hg.1) (by rw [C.hm]; exact g.bl _ hg.2) (star1 h) h2 (is.l _ _ X Wi h C tk)
  | zip =>
    simp only [itArgs] at h
    split at h <;> try (cases h; done)
    rename_i es hes
    split at hes <;> try (cases hes; done)
    split at hes <;> try (cases hes; done)
    rename_i hg
    simp only [Bool.and_eq_true, decide_eq_true_eq] at hg
    split at hes <;> try (cases hes; done)
    all_goals try (rename_i hk; cases hk; done)
    split at hes <;> try (cases hes; done)
    rename_i hr
    cases hes
    obtain ⟨hr, ht⟩ := hr
    subst hr
    have h2 : notStar _ = true := star2 h
    cases t <;> simp only [isTup] at ht <;> first | (cases ht; done) | skip
    exact pi_zipR C.hK (gl_ok C hg.1) (by rw [C.hm]; exact g.bl _ hg.2) (star1 h) h2 (is.l _ _ X Wi h C tk)
  | rng3 =>
    dsimp only at h
    rw [itArgs_no (k := .rng3) (by simp)] at h
    cases h
  | enum =>
    dsimp only at h
    rw [itArgs_no (k := .enum) (by simp)] at h
    cases h
  | items =>
    dsimp only at h
    rw [itArgs_no (k := .items) (by simp)] at h
    cases h
theorem s_comp (g : GOk K mg G Y nm fa fd ps) (k : IK) (src : E) (tg : Tg) (c e : E) (is : Snd P w K mg base G Y nm kk N src) (ic : Snd P w K mg base G Y nm kk N c) (ie : Snd P w K mg base G Y nm kk N e) : Snd P w K mg base G Y nm kk N (.comp k src tg c e) := by
  refine ⟨fun sc x X Wi h C tk => ?_, fun sc x X Wi h C tk => by simp [chkT] at h, fun sc a X Wi h C tk => by simp [chkA] at h⟩
  simp only [chk] at h
  split at h <;> try (cases h; done)
  rename_i elt t iter ifs asy scope pos
  simp only [Bool.and_eq_true, decide_eq_true_eq, Bool.not_eq_true'] at h
  obtain ⟨⟨⟨⟨⟨⟨⟨h1, h2⟩, h3⟩, h4⟩, h5⟩, h6⟩, h7⟩, h8⟩ := h
  subst h1
  have ok : BlkOk X.N X.env.scope scope (ownOf tg t) := by
    rw [C.hN, C.sc]
    exact blkOk_by h3
  have pcs : ∀ (s : Shared) (H : Hp) (Ca : Addr) (cl : List (Str × Addr)) (fp : List Addr), PTs (X.blk s H scope (compEnvC scope cl Ca X.env) fp) ifs (tT K nm noX (fun env S => mapT (ev G (run G kk) c env S))) := fun s H Ca cl fp => by
    have C' := blk_ok (s := s) (H := H) (scope := scope) (cl := cl) (Ca := Ca) (fp := fp) C
    cases ifs with
    | nil =>
      have h7 : isEmp c = true := h7
      cases c <;> simp only [isEmp] at h7 <;> first | (cases h7; done) | skip
      refine ⟨fun pins s σ H Q I q => pts_nil.run pins s σ H Q I ?_⟩
      obtain ⟨W, S, env, E, r, z⟩ := q
      exact z true W H Ext.refl r rfl
    | cons i is =>
      cases is with
      | nil => exact pts_one (ic.t _ _ _ _ h7 C' takes0)
      | cons _ _ => cases h7
  refine (pe_lc (own := ownOf tg t) (g := gTg K tg) (te := tE K nm noX (ev G (run G kk) e)) C.calm (by rw [C.hN]; exact C.nd) (pi_src g is C tk h6) ok (fun s H Ca cl fp => ?_) pcs (fun s H Ca cl fp => ?_) (fold_ok h2 X.env)).imp (u := tE K nm Wi (ev G (run G kk) (.comp k src tg c e))) fun σ H Q wq => ?_
  · have C' := blk_ok (s := s) (H := H) (scope := scope) (cl := cl) (Ca := Ca) (fp := fp) C
    exact pg_ok C'.hK C'.hN C'.nd C'.sc C'.calm (fl := false) (by simp) h5
  · have C' := blk_ok (s := s) (H := H) (scope := scope) (cl := cl) (Ca := Ca) (fp := fp) C
    exact ie.v _ _ _ _ h8 C' takes0
  · obtain ⟨W, S, env, E, r, z⟩ := wq
    refine ⟨W, S, env, E, r, ?_⟩
    have z : Wq K nm (rpD K) W H ((ev G (run G kk) src env S).bind fun xs S => match mkIt k (srcL k xs) S with
      | some it => (goIt it (cBody G (run G kk) tg c e env) S).bind fun ys S => .ok (.lst ys) S
      | none => .bad) Q (Xw nm Wi σ) := z
    cases hsrc : ev G (run G kk) src env S with
    | bad => rw [hsrc] at z; exact z.elim
    | ex _ _ => rw [hsrc] at z; dsimp only; rw [hsrc]; exact z
    | ok d S1 =>
      rw [hsrc] at z
      dsimp only
      rw [hsrc]
      simp only [R.bind_ok] at z ⊢
      cases hit : mkIt k (srcL k d) S1 with
      | none => rw [hit] at z; exact z.elim
      | some it =>
        rw [hit] at z
        dsimp only at z
        intro J W1 H1 e1 r1 hJ
        have z := Wq.ext e1 r1.trk z
        cases it with
        | items xs =>
          have := comp_items (E.mono r.trk e1) r1 hJ z
          rw [h4]
          exact this
        | live n en => exact z.elim
end
end PL

set_option Elab.async false
set_option linter.all false
set_option maxRecDepth 100000
set_option maxHeartbeats 2000000
/-! PLM: every expression; statements. -/
namespace PL
open PySem PySem.Spec PyProof.Rows L2
section
variable {P : Program} {w : World} {K : PySem.W.Frag} {mg : Str → Option Value} {base : Heap} {G : Tab} {Y : Sx} {nm : Nm} {fa : Nat → Addr} {fd : Nat → FuncData} {ps : Nat → List Str} {kk : Nat} {N : List Str}
variable {sc : Scope} {X : Cx} {Wi : WX}
theorem snd (g : GOk K mg G Y nm fa fd ps) (hF : ∀ f : Nat, (G.fns f).isSome = true → FnOk P w K mg base (L2.CX P w) (2 * kk) (fa f) (fd f) (ps f) (spF K nm G kk f)) (e : E) : Snd P w K mg base G Y nm kk N e := by
  induction e with
  | var i => exact s_var i
  | con d => exact s_con d
  | glb j => exact s_glb g j
  | bin o a b ia ib => exact s_bin o a b ia ib
  | cmp o a b ia ib => exact s_cmp o a b ia ib
  | chain o o' a b c ia ib ic => exact s_chain o o' a b c ia ib ic
  | isn a ia => exact s_isn a ia
  | ntn a ia => exact s_ntn a ia
  | neg a ia => exact s_neg a ia
  | nt a ia => exact s_nt a ia
  | and a b ia ib => exact s_and a b ia ib
  | or a b ia ib => exact s_or a b ia ib
  | ite c a b ic ia ib => exact s_ite c a b ic ia ib
  | isa a t ia => exact s_isa g a t ia
  | call f as ia => exact s_call g hF f as ia
  | bf f as ia => exact s_bf g f as ia
  | ix a i ia ib => exact s_ix a i ia ib
  | sl a lo hi ia il ih => exact s_sl a lo hi ia il ih
  | tup as ia => exact s_tup as ia
  | lst as ia => exact s_lst as ia
  | comp k src tg c e is ic ie => exact s_comp g k src tg c e is ic ie
  | nil => exact s_nil
  | cons a as ia ib => exact s_cons a as ia ib
  | emp => exact s_emp
  | one a ia => exact s_one a ia
  | val a ia => exact s_val a ia
  | _ => exact ⟨fun sc x X Wi h C tk => by simp [chk] at h, fun sc x X Wi h C tk => by simp [chkT] at h, fun sc a X Wi h C tk => by simp [chkA] at h⟩

/-! ### statements -/
def WqS (K : PySem.W.Frag) (nm : Nm) (W : Wd) (H : Hp) (r : RS) (D : Ends) (Wi : WX) : Prop := match r with
  | .nx env' S' => ∀ W' H' σ', Ext W H W' H' → Rel K nm W' S' H' → ERep K W' H' env' σ' → D.nx σ' H'
  | .rt d S' => ∀ v W' H', Ext W H W' H' → Rel K nm W' S' H' → Rep K W' H' d v → D.rt v H'
  | .ex c env' S' => ∀ W' H' σ', Ext W H W' H' → Rel K nm W' S' H' → ERep K W' H' env' σ' → Wi (.ref (nm.X c)) none σ' H'
  | .bad => False
def tS (K : PySem.W.Frag) (nm : Nm) (Wi : WX) (f : Env → Store → RS) : TS := fun D σ H => ∃ W S env, ERep K W H env σ ∧ Rel K nm W S H ∧ WqS K nm W H (f env S) D Wi
theorem WqS.ext {W W' : Wd} {H H' : Hp} {r : RS} {D : Ends} (e : Ext W H W' H') (t : Trk W' H') (w : WqS K nm W H r D Wi) : WqS K nm W' H' r D Wi := by
  cases r with
  | nx env S => exact fun W2 H2 σ e2 r p => w W2 H2 σ (e.trans t e2) r p
  | rt d S => exact fun v W2 H2 e2 r p => w v W2 H2 (e.trans t e2) r p
  | ex c env S => exact fun W2 H2 σ e2 r p => w W2 H2 σ (e.trans t e2) r p
  | bad => exact w
theorem WqS.andThen {W : Wd} {H : Hp} {r : RS} {f : Env → Store → RS} {D : Ends} (w : WqS K nm W H (r.andThen f) D Wi) : WqS K nm W H r { D with nx := fun σ H => tS K nm Wi f D σ H } Wi := by
  cases r with
  | nx env S => exact fun W2 H2 σ e2 r p => ⟨W2, S, env, p, r, WqS.ext e2 r.trk w⟩
  | rt d S => exact w
  | ex c env S => exact w
  | bad => exact w
theorem stm_andThen {α : Type} (r : R α) (env : Env) (f : α → Store → RS) (g : Env → Store → RS) : (r.stm env f).andThen g = r.stm env fun a S => (f a S).andThen g := by cases r <;> rfl
/-- a value within a statement -/
theorem WqS.stm {α β : Type} {rp : Wd → Hp → α → β → Prop} {W : Wd} {H : Hp} {r : R α} {env : Env} {S : Store} {σ : L2.St} {f : α → Store → RS} {D : Ends} (E : ERep K W H env σ) (r0 : Rel K nm W S H) (w : WqS K nm W H (r.stm env f) D Wi) :
    Wq K nm rp W H r (fun v H1 => ∃ W1 S1 d, Ext W H W1 H1 ∧ ERep K W1 H1 env σ ∧ Rel K nm W1 S1 H1 ∧ rp W1 H1 d v ∧ WqS K nm W1 H1 (f d S1) D Wi) (Xw nm Wi σ) := by
  cases r with
  | ok d S1 => exact fun v W1 H1 e r p => ⟨W1, S1, d, e, E.mono r0.trk e, r, p, WqS.ext e r.trk w⟩
  | ex c S1 => exact fun W1 H1 e r => w W1 H1 σ e r (E.mono r0.trk e)
  | bad => exact w
theorem pss_then {st : Stmt} {rest : List Stmt} {f g : Env → Store → RS} (h1 : PS X st (tS K nm Wi f)) (h2 : PSs X rest (tS K nm Wi g)) : PSs X (st :: rest) (tS K nm Wi fun env S => (f env S).andThen g) := by
  refine (pss_cons h1 h2).imp fun D σ H q => ?_
  obtain ⟨W, S, env, E, r, z⟩ := q
  exact ⟨W, S, env, E, r, z.andThen⟩
theorem tS_eq {f g : Env → Store → RS} (h : ∀ env S, f env S = g env S) : tS K nm Wi f = tS K nm Wi g := by
  have : f = g := by funext env S; exact h env S
  rw [this]

/-! ### the check -/
def isComp : Expr → Bool
  | .ListComp _ _ _ _ => true
  | .SetComp _ _ _ _ => true
  | .DictComp _ _ _ _ _ => true
  | _ => false
def isTupE : Expr → Bool
  | .Tuple _ _ _ => true
  | _ => false
section
variable (Y : Sx) (N : List Str) (sc : Scope)
def chkS : T → List Stmt → Bool
  | .nil, sts => match sts with
    | [] => true
    | _ => false
  | .asg i e k, sts => match sts with
    | .Assign [.Name x p] v _ :: rest => tgN N true sc i (.Name x p) && !isComp v && chk Y N e sc v && chkS k rest
    | _ => false
  | .asgT is e k, sts => match sts with
    | .Assign [.Tuple es q p] v _ :: rest => tgC N true sc (.many is) (.Tuple es q p) && !isComp v && !isTupE v && chk Y N e sc v && chkS k rest
    | _ => false
  | .exp e k, sts => match sts with
    | .Expr v _ :: rest => !isComp v && chk Y N e sc v && chkS k rest
    | _ => false
  | .ret e, sts => match sts with
    | [.Return (some v) _] => chk Y N e sc v
    | _ => false
  | .ifs c a b k, sts => match sts with
    | .If t x y _ :: rest => chkT Y N c sc t && chkS a x && chkS b y && chkS k rest
    | _ => false
  | .whl c b k, sts => match sts with
    | .While t x [] _ :: rest => chkT Y N c sc t && chkS b x && chkS k rest
    | _ => false
  | .for_ ik src tg b k, sts => match sts with
    | .For t iter x [] _ :: rest => !isSet iter && tgC N true sc tg t && (match ik with
        | .plain => chk Y N src sc iter
        | ik => match itArgs Y.blN ik sc t iter with
          | some es => chkA Y N src sc es
          | none => false) && chkS b x && chkS k rest
    | _ => false
  | _, _ => false
end
variable (P w K mg base G Y nm kk N) in
def SndS (t : T) : Prop := ∀ (sc : Scope) (sts : List Stmt) (X : Cx) (Wi : WX), chkS Y N sc t sts = true → COk P w K mg base kk N sc X → (∀ x, X.fn x = true) → Takes X Wi → PassesOwn (model X.prog X.w) X.A X.env X.xe → PSs X sts (tS K nm Wi (exT G (run G kk) t))
theorem swaps_ok {v : Expr} {o : Option Expr} {n : Nat} {env : PySem.Env} (h : isComp v = false) : swapsWith v o n env = pure false := by
  cases v <;> first | rfl | cases h
theorem swapsS_ok {t v : Expr} {n : Nat} {env : PySem.Env} (h : isComp v = false) : swapsWithSole [t] v n env = pure false := by
  show swapsWith v (some t) n env = pure false
  exact swaps_ok h
theorem z_nil : SndS P w K mg base G Y nm kk N .nil := by
  intro sc sts X Wi h C hf tk hp
  cases sts with
  | nil => exact pss_nil.imp fun D σ H ⟨W, S, env, E, r, z⟩ => z W H σ Ext.refl r E
  | cons _ _ => cases h
theorem z_asg (sn : ∀ e, Snd P w K mg base G Y nm kk N e) (i : Nat) (e : E) (k : T) (ik : SndS P w K mg base G Y nm kk N k) : SndS P w K mg base G Y nm kk N (.asg i e k) := by
  intro sc sts X Wi h C hf tk hp
  simp only [chkS] at h
  split at h <;> try (cases h; done)
  simp only [Bool.and_eq_true, Bool.not_eq_true'] at h
  obtain ⟨⟨⟨h1, h2⟩, h3⟩, h4⟩ := h
  rw [tS_eq (g := fun env S => ((ev G (run G kk) e env S).stm env fun d S => .nx (env.set i (some d)) S).andThen (exT G (run G kk) k)) (fun env S => by rw [stm_andThen]; rfl)]
  refine pss_then ?_ (ik sc _ X Wi h4 C hf tk hp)
  obtain ⟨pg, _⟩ := pg_one C.hN C.nd C.sc (fl := true) (fun _ => hf) h1
  refine (ps_asg ((sn e).v _ _ X Wi h3 C tk) pg (hs := swapsS_ok h2) (hw := rfl) (h1 := rfl)).imp fun D σ H q => ?_
  obtain ⟨W, S, env, E, r, z⟩ := q
  refine ⟨W, S, env, E, r, (WqS.stm (rp := rpD K) E r z).mono fun v H1 z => ?_⟩
  obtain ⟨W1, S1, d, e1, E1, r1, p1, z⟩ := z
  exact z W1 H1 _ Ext.refl r1 (E1.set i p1)
theorem z_asgT (sn : ∀ e, Snd P w K mg base G Y nm kk N e) (is : List Nat) (e : E) (k : T) (ik : SndS P w K mg base G Y nm kk N k) : SndS P w K mg base G Y nm kk N (.asgT is e k) := by
  intro sc sts X Wi h C hf tk hp
  simp only [chkS] at h
  split at h <;> try (cases h; done)
  simp only [Bool.and_eq_true, Bool.not_eq_true'] at h
  obtain ⟨⟨⟨⟨h1, h2⟩, h5⟩, h3⟩, h4⟩ := h
  rw [tS_eq (g := fun env S => ((ev G (run G kk) e env S).stm env fun d S => match bindT (.many is) d env with
    | some env' => .nx env' S
    | none => .bad).andThen (exT G (run G kk) k)) (fun env S => by
      rw [stm_andThen]
      simp only [exT]
      congr 1
      funext d S
      cases bindT (.many is) d env <;> rfl)]
  refine pss_then ?_ (ik sc _ X Wi h4 C hf tk hp)
  have pg := pg_ok C.hK C.hN C.nd C.sc C.calm (fl := true) (fun _ => hf) h1
  refine (ps_asg ((sn e).v _ _ X Wi h3 C tk) pg (hs := swapsS_ok h2) (hw := by rename_i v _ _; cases v <;> first | rfl | cases h5) (h1 := rfl)).imp fun D σ H q => ?_
  obtain ⟨W, S, env, E, r, z⟩ := q
  refine ⟨W, S, env, E, r, (WqS.stm (rp := rpD K) E r z).mono fun v H1 z => ?_⟩
  obtain ⟨W1, S1, d, e1, E1, r1, p1, z⟩ := z
  cases hb : bindT (.many is) d env with
  | none => rw [hb] at z; exact z.elim
  | some env' =>
    rw [hb] at z
    exact ⟨W1, d, env, env', E1.o _, p1, hb, fun σ' E' _ => z W1 H1 σ' Ext.refl r1 E'⟩
theorem z_exp (sn : ∀ e, Snd P w K mg base G Y nm kk N e) (e : E) (k : T) (ik : SndS P w K mg base G Y nm kk N k) : SndS P w K mg base G Y nm kk N (.exp e k) := by
  intro sc sts X Wi h C hf tk hp
  simp only [chkS] at h
  split at h <;> try (cases h; done)
  simp only [Bool.and_eq_true, Bool.not_eq_true'] at h
  obtain ⟨⟨h2, h3⟩, h4⟩ := h
  rw [tS_eq (g := fun env S => ((ev G (run G kk) e env S).stm env fun d S => .nx env S).andThen (exT G (run G kk) k)) (fun env S => by rw [stm_andThen]; rfl)]
  refine pss_then ?_ (ik sc _ X Wi h4 C hf tk hp)
  refine (ps_expr ((sn e).v _ _ X Wi h3 C tk) (swaps_ok h2)).imp fun D σ H q => ?_
  obtain ⟨W, S, env, E, r, z⟩ := q
  refine ⟨W, S, env, E, r, (WqS.stm (rp := rpD K) E r z).mono fun v H1 z => ?_⟩
  obtain ⟨W1, S1, d, e1, E1, r1, p1, z⟩ := z
  exact z W1 H1 _ Ext.refl r1 E1
theorem z_ret (sn : ∀ e, Snd P w K mg base G Y nm kk N e) (e : E) : SndS P w K mg base G Y nm kk N (.ret e) := by
  intro sc sts X Wi h C hf tk hp
  simp only [chkS] at h
  split at h <;> try (cases h; done)
  refine pss_one ((ps_ret ((sn e).v _ _ X Wi h C tk)).imp fun D σ H q => ?_)
  obtain ⟨W, S, env, E, r, z⟩ := q
  refine ⟨W, S, env, E, r, (WqS.stm (rp := rpD K) E r z).mono fun v H1 z => ?_⟩
  obtain ⟨W1, S1, d, e1, E1, r1, p1, z⟩ := z
  exact z v W1 H1 Ext.refl r1 p1
theorem z_ifs (sn : ∀ e, Snd P w K mg base G Y nm kk N e) (c : E) (a b k : T) (ia : SndS P w K mg base G Y nm kk N a) (ib : SndS P w K mg base G Y nm kk N b) (ik : SndS P w K mg base G Y nm kk N k) : SndS P w K mg base G Y nm kk N (.ifs c a b k) := by
  intro sc sts X Wi h C hf tk hp
  simp only [chkS] at h
  split at h <;> try (cases h; done)
  simp only [Bool.and_eq_true] at h
  obtain ⟨⟨⟨h1, h2⟩, h3⟩, h4⟩ := h
  rw [tS_eq (g := fun env S => ((mapT (ev G (run G kk) c env S)).stm env fun t S => if t then exT G (run G kk) a env S else exT G (run G kk) b env S).andThen (exT G (run G kk) k)) (fun env S => by rw [stm_andThen]; rfl)]
  refine pss_then ?_ (ik sc _ X Wi h4 C hf tk hp)
  refine (ps_if ((sn c).t _ _ X Wi h1 C tk) (ia sc _ X Wi h2 C hf tk hp) (ib sc _ X Wi h3 C hf tk hp)).imp fun D σ H q => ?_
  obtain ⟨W, S, env, E, r, z⟩ := q
  refine ⟨W, S, env, E, r, (WqS.stm (rp := rpB) E r z).mono fun t H1 z => ?_⟩
  obtain ⟨W1, S1, d, e1, E1, r1, p1, z⟩ := z
  cases (show d = t from p1)
  cases t with
  | true => exact ⟨W1, S1, env, E1, r1, z⟩
  | false => exact ⟨W1, S1, env, E1, r1, z⟩
theorem z_whl (sn : ∀ e, Snd P w K mg base G Y nm kk N e) (c : E) (b k : T) (ib : SndS P w K mg base G Y nm kk N b) (ik : SndS P w K mg base G Y nm kk N k) : SndS P w K mg base G Y nm kk N (.whl c b k) := by
  intro sc sts X Wi h C hf tk hp
  simp only [chkS] at h
  split at h <;> try (cases h; done)
  simp only [Bool.and_eq_true] at h
  obtain ⟨⟨h1, h2⟩, h4⟩ := h
  refine pss_then (f := fun env S => goWhl (fun env S => mapT (ev G (run G kk) c env S)) (fun env S => exT G (run G kk) b env S) LOOP env S) ?_ (ik sc _ X Wi h4 C hf tk hp)
  refine (ps_while hp ((sn c).t _ _ X Wi h1 C tk) (ib sc _ X Wi h2 C hf tk hp)).imp fun D σ H q => ?_
  obtain ⟨W, S, env, E, r, z⟩ := q
  refine ⟨fun m σ H => ∃ W S env, ERep K W H env σ ∧ Rel K nm W S H ∧ WqS K nm W H (goWhl (fun env S => mapT (ev G (run G kk) c env S)) (fun env S => exT G (run G kk) b env S) m env S) D Wi, ⟨LOOP, W, S, env, E, r, z⟩, ?_⟩
  rintro m σ H ⟨W, S, env, E, r, z⟩
  cases m with
  | zero => exact z.elim
  | succ m =>
    simp only [goWhl] at z
    refine ⟨W, S, env, E, r, (WqS.stm (rp := rpB) E r z).mono fun t H1 z => ?_⟩
    obtain ⟨W1, S1, d, e1, E1, r1, p1, z⟩ := z
    cases (show d = t from p1)
    cases t with
    | false => exact z W1 H1 σ Ext.refl r1 E1
    | true =>
      refine ⟨fun σ H => ∃ W S env, ERep K W H env σ ∧ Rel K nm W S H ∧ WqS K nm W H (goWhl (fun env S => mapT (ev G (run G kk) c env S)) (fun env S => exT G (run G kk) b env S) m env S) D Wi, fun σ' H' q => ⟨m, Nat.lt_succ_self _, q⟩, ?_⟩
      refine ⟨W1, S1, env, E1, r1, ?_⟩
      have z := WqS.andThen z
      revert z
      cases exT G (run G kk) b env S1 with
      | nx env' S' => exact fun z W' H' σ' e r p => z W' H' σ' e r p
      | rt d S' => exact fun z => z
      | ex c env' S' => exact fun z => z
      | bad => exact fun z => z
theorem for_items {body : PL.D → Env → Store → RS} {tg : Tg} {b : Env → Store → RS} {tb : TS} {D : Ends} {σ : L2.St} {W1 : Wd} {H1 : Hp} {S1 : Store} {env : Env} {J : It} {xs : List PL.D}
    (hbody : ∀ x env S, body x env S = match bindT tg x env with | some env' => b env' S | none => .bad)
    (hb : ∀ D σ H, tS K nm Wi b D σ H → tb D σ H)
    (E : ERep K W1 H1 env σ) (r1 : Rel K nm W1 S1 H1) (hJ : ItOk K nm W1 H1 J xs) (z : WqS K nm W1 H1 (goFor body xs env S1) D Wi) :
    ∃ Wm : Nat → Nat → L2.St → Hp → Prop, (∃ m, Wm 0 m σ H1) ∧ ∀ i m σ H, Wm i m σ H →
      (J.stop i H ∧ D.nx σ H) ∨ (J.go i H ∧ ∃ Nx : L2.St → Hp → Prop, (∀ σ' H', Nx σ' H' → ∃ m', m' < m ∧ Wm (i + 1) m' σ' H') ∧ ∀ x H', J.yld i H x H' → gTg K tg x σ H' fun σ2 H2 => tb { D with nx := Nx, ct := Nx, bk := D.nx } σ2 H2) := by
  obtain ⟨Gd, Yd, wk, st, yl⟩ := hJ.1
  refine for_it wk (fun i σ H => ∃ W2 S2 env2, Ext W1 H1 W2 H ∧ ERep K W2 H env2 σ ∧ Rel K nm W2 S2 H ∧ WqS K nm W2 H (goFor body (xs.drop i) env2 S2) D Wi) ?_ ?_ ?_ ?_
  · exact ⟨W1, S1, env, Ext.refl, E, r1, z⟩
  · rintro i σ H hi ⟨W2, S2, env2, e1, E2, r2, z⟩
    exact st _ _ e1
  · rintro i x σ H H' hi ⟨W2, S2, env2, e1, E2, r2, z⟩ y
    obtain ⟨d, hx, ex, keep, rep⟩ := yl i _ S2 H x H' hi e1 r2 y
    have r2' := r2.grow ex keep
    have hdrop : xs.drop i = d :: xs.drop (i + 1) := by
      obtain ⟨hl, hv⟩ := List.getElem?_eq_some_iff.mp hx
      rw [List.drop_eq_getElem_cons hl, hv]
    rw [hdrop] at z
    simp only [goFor, hbody] at z
    cases hbt : bindT tg d env2 with
    | none => rw [hbt] at z; exact z.elim
    | some env' =>
      rw [hbt] at z
      have z := WqS.ext ex r2'.trk z
      refine ⟨W2, d, env2, env', (E2.mono r2.trk ex).o _, rep, hbt, fun σ' E' _ => hb _ _ _ ⟨W2, S2, env', E', r2', ?_⟩⟩
      dsimp only at z
      revert z
      cases b env' S2 with
      | nx env3 S3 => exact fun z W' H' σ' e r p => ⟨W', S3, env3, (e1.trans r2.trk ex |>.trans r2'.trk e), p, r, WqS.ext e r.trk z⟩
      | rt d S3 => exact fun z => z
      | ex c env3 S3 => exact fun z => z
      | bad => exact fun z => z
  · rintro σ H ⟨W2, S2, env2, e1, E2, r2, z⟩
    rw [List.drop_eq_nil_of_le (Nat.le_refl _)] at z
    exact z W2 H σ Ext.refl r2 E2
theorem for_live {body : PL.D → Env → Store → RS} {tg : Tg} {b : Env → Store → RS} {tb : TS} {D : Ends} {σ : L2.St} {W1 : Wd} {H1 : Hp} {S1 : Store} {env : Env} {n : Nat} {a : Addr}
    (hbody : ∀ x env S, body x env S = match bindT tg x env with | some env' => b env' S | none => .bad)
    (hb : ∀ D σ H, tS K nm Wi b D σ H → tb D σ H)
    (E : ERep K W1 H1 env σ) (r1 : Rel K nm W1 S1 H1) (ha : W1.m[n]? = some a) (z : WqS K nm W1 H1 (goForL n false body LOOP 0 env S1) D Wi) :
    ∃ Wm : Nat → Nat → L2.St → Hp → Prop, (∃ m, Wm 0 m σ H1) ∧ ∀ i m σ H, Wm i m σ H →
      ((Itl K a).stop i H ∧ D.nx σ H) ∨ ((Itl K a).go i H ∧ ∃ Nx : L2.St → Hp → Prop, (∀ σ' H', Nx σ' H' → ∃ m', m' < m ∧ Wm (i + 1) m' σ' H') ∧ ∀ x H', (Itl K a).yld i H x H' → gTg K tg x σ H' fun σ2 H2 => tb { D with nx := Nx, ct := Nx, bk := D.nx } σ2 H2) := by
  refine ⟨fun i m σ H => ∃ W2 S2 env2, Ext W1 H1 W2 H ∧ ERep K W2 H env2 σ ∧ Rel K nm W2 S2 H ∧ WqS K nm W2 H (goForL n false body m i env2 S2) D Wi, ⟨LOOP, W1, S1, env, Ext.refl, E, r1, z⟩, ?_⟩
  rintro i m σ H ⟨W2, S2, env2, e1, E2, r2, z⟩
  cases m with
  | zero => exact z.elim
  | succ m =>
    have ha2 : W2.m[n]? = some a := by
      obtain ⟨t, h, _⟩ := e1.m
      rw [h]
      exact (List.getElem?_append_left (List.getElem?_eq_some_iff.mp ha).1).trans ha
    simp only [goForL, itemAt] at z
    cases hs : S2[n]? with
    | none => rw [hs] at z; exact z.elim
    | some o =>
      rw [hs] at z
      cases o with
      | lst ys =>
        obtain ⟨vs, h1, h2⟩ := r2.ob n a _ ha2 hs
        dsimp only at z
        cases hy : ys[i]? with
        | none =>
          rw [hy] at z
          refine .inl ⟨⟨vs, SqL.of h1, ?_⟩, z W2 H σ Ext.refl r2 E2⟩
          rw [h2.lens]
          exact List.getElem?_eq_none_iff.mp hy
        | some d =>
          rw [hy] at z
          obtain ⟨v, h3, h4⟩ := h2.get hy
          refine .inr ⟨⟨vs, v, SqL.of h1, h3⟩, fun σ H => ∃ W2 S2 env2, Ext W1 H1 W2 H ∧ ERep K W2 H env2 σ ∧ Rel K nm W2 S2 H ∧ WqS K nm W2 H (goForL n false body m (i + 1) env2 S2) D Wi, fun σ' H' q => ⟨m, Nat.lt_succ_self _, q⟩, ?_⟩
          rintro x H' ⟨rfl, hx⟩
          have := hx vs (SqL.of h1)
          rw [h3] at this
          cases this
          simp only [Option.map_some, Bool.false_eq_true, if_false, hbody] at z
          cases hbt : bindT tg d env2 with
          | none => rw [hbt] at z; exact z.elim
          | some env' =>
            rw [hbt] at z
            refine ⟨W2, d, env2, env', E2.o _, h4, hbt, fun σ' E' _ => hb _ _ _ ⟨W2, S2, env', E', r2, ?_⟩⟩
            dsimp only at z
            revert z
            cases b env' S2 with
            | nx env3 S3 => exact fun z W' H' σ' e r p => ⟨W', S3, env3, e1.trans r2.trk e, p, r, WqS.ext e r.trk z⟩
            | rt d S3 => exact fun z => z
            | ex c env3 S3 => exact fun z => z
            | bad => exact fun z => z
      | _ => exact z.elim
theorem z_for (g : GOk K mg G Y nm fa fd ps) (sn : ∀ e, Snd P w K mg base G Y nm kk N e) (ik : IK) (src : E) (tg : Tg) (b k : T) (ib : SndS P w K mg base G Y nm kk N b) (iK : SndS P w K mg base G Y nm kk N k) : SndS P w K mg base G Y nm kk N (.for_ ik src tg b k) := by
  intro sc sts X Wi h C hf tk hp
  simp only [chkS] at h
  split at h <;> try (cases h; done)
  simp only [Bool.and_eq_true, Bool.not_eq_true'] at h
  obtain ⟨⟨⟨⟨h1, h2⟩, h3⟩, h4⟩, h5⟩ := h
  rw [tS_eq (g := fun env S => ((ev G (run G kk) src env S).stm env fun xs S => match mkIt ik (srcL ik xs) S with
    | some it => goForI it (fun x env S => match bindT tg x env with
      | some env' => exT G (run G kk) b env' S
      | none => .bad) env S
    | none => .bad).andThen (exT G (run G kk) k)) (fun env S => by
      rw [stm_andThen]
      simp only [exT]
      congr 1
      funext d S
      cases mkIt ik (srcL ik d) S <;> rfl)]
  refine pss_then ?_ (iK sc _ X Wi h5 C hf tk hp)
  have pg := pg_ok C.hK C.hN C.nd C.sc C.calm (fl := true) (fun _ => hf) h2
  have pb := ib sc _ X Wi h4 C hf tk hp
  refine (ps_for hp C.calm (pi_src g (sn src) C tk h3) pg pb (fold_ok h1 X.env)).imp fun D σ H q => ?_
  obtain ⟨W, S, env, E, r, z⟩ := q
  refine ⟨W, S, env, E, r, ?_⟩
  dsimp only at z ⊢
  cases hsrc : ev G (run G kk) src env S with
  | bad => rw [hsrc] at z; exact z.elim
  | ex c S1 =>
    rw [hsrc] at z
    exact fun W' H' e r' => z W' H' σ e r' (E.mono r.trk e)
  | ok d S1 =>
    rw [hsrc] at z
    simp only [R.stm_ok, R.bind_ok] at z ⊢
    cases hit : mkIt ik (srcL ik d) S1 with
    | none => rw [hit] at z; exact z.elim
    | some it =>
      rw [hit] at z
      dsimp only at z
      intro J W1 H1 e1 r1 hJ
      have z := WqS.ext e1 r1.trk z
      cases it with
      | items xs => exact for_items (b := exT G (run G kk) b) (fun _ _ _ => rfl) (fun _ _ _ q => q) (E.mono r.trk e1) r1 hJ z
      | live n en =>
        obtain ⟨a, ha, hJ⟩ := hJ
        cases en with
        | false =>
          subst hJ
          rw [show goForI (.live n false) _ env S1 = goForL n false _ LOOP 0 env S1 from rfl] at z
          exact for_live (b := exT G (run G kk) b) (fun _ _ _ => rfl) (fun _ _ _ q => q) (E.mono r.trk e1) r1 ha z
        | true =>
          rw [show goForI (.live n true) _ env S1 = .bad from rfl] at z
          exact z.elim
end
end PL

set_option Elab.async false
set_option linter.all false
set_option maxRecDepth 100000
set_option maxHeartbeats 2000000
/-! PLN: defs keep the evaluator's promise. -/
namespace PL
open PySem PySem.Spec PyProof.Rows L2
section
variable {P : Program} {w : World} {K : PySem.W.Frag} {mg : Str → Option Value} {base : Heap} {G : Tab} {Y : Sx} {nm : Nm} {fa : Nat → Addr} {fd : Nat → FuncData} {ps : Nat → List Str} {kk : Nat} {N : List Str}
variable {sc : Scope} {X : Cx} {Wi : WX}
theorem sndS (g : GOk K mg G Y nm fa fd ps) (hF : ∀ f : Nat, (G.fns f).isSome = true → FnOk P w K mg base (L2.CX P w) (2 * kk) (fa f) (fd f) (ps f) (spF K nm G kk f)) (t : T) : SndS P w K mg base G Y nm kk N t := by
  have sn := fun e => snd (P := P) (w := w) (base := base) (N := N) g hF e
  induction t with
  | nil => exact z_nil
  | asg i e k ik => exact z_asg sn i e k ik
  | asgT is e k ik => exact z_asgT sn is e k ik
  | exp e k ik => exact z_exp sn e k ik
  | ret e => exact z_ret sn e
  | ifs c a b k ia ib ik => exact z_ifs sn c a b k ia ib ik
  | whl c b k ib ik => exact z_whl sn c b k ib ik
  | for_ ik src tg b k ib iK => exact z_for g sn ik src tg b k ib iK
  | _ => exact fun sc sts X Wi h C hf tk hp => by simp [chkS] at h

/-! ### pure defs -/
def W00 : Wd := ⟨[], []⟩
mutual
theorem rep_pure {W : Wd} {H : Hp} : ∀ {d : D} {v : V}, noRef d = true → Rep K W H d v → Rep K W00 H d v
  | _, _, _, .non => .non
  | _, _, _, .bl b => .bl b
  | _, _, _, .int i => .int i
  | _, _, _, .str x => .str x
  | _, _, n, .tup h r => .tup h (reps_pure (by simpa [noRef] using n) r)
  | _, _, n, .lst h a b r => .lst h (by simp [W00]) (by simp [W00]) (reps_pure (by simpa [noRef] using n) r)
  | _, _, n, .dct h a b r => .dct h (by simp [W00]) (by simp [W00]) (repK_pure (by simpa [noRef] using n) r)
  | _, _, n, .ref h => by simp [noRef] at n
  | _, _, n, .scr h => .scr h
theorem reps_pure {W : Wd} {H : Hp} : ∀ {d : List D} {v : List V}, noRefs d = true → Reps K W H d v → Reps K W00 H d v
  | _, _, _, .nil => .nil
  | _, _, n, .cons r rs => by
    simp only [noRefs, Bool.and_eq_true] at n
    exact .cons (rep_pure n.1 r) (reps_pure n.2 rs)
theorem repK_pure {W : Wd} {H : Hp} : ∀ {d : List (Ky × D)} {v : List (Key × V)}, noRefK d = true → RepK K W H d v → RepK K W00 H d v
  | _, _, _, .nil => .nil
  | _, _, n, .cons r rs => by
    simp only [noRefK, Bool.and_eq_true] at n
    exact .cons (rep_pure n.1 r) (repK_pure n.2 rs)
end
mutual
theorem rep_scl {W W' : Wd} {H : Hp} : ∀ {d : D} {v : V}, scl d = true → Rep K W H d v → Rep K W' H d v
  | _, _, _, .non => .non
  | _, _, _, .bl b => .bl b
  | _, _, _, .int i => .int i
  | _, _, _, .str x => .str x
  | _, _, n, .tup h r => .tup h (reps_scl (by simpa [scl] using n) r)
  | _, _, n, .lst h a b r => by simp [scl] at n
  | _, _, n, .dct h a b r => by simp [scl] at n
  | _, _, n, .ref h => by simp [scl] at n
  | _, _, n, .scr h => by simp [scl] at n
theorem reps_scl {W W' : Wd} {H : Hp} : ∀ {d : List D} {v : List V}, scls d = true → Reps K W H d v → Reps K W' H d v
  | _, _, _, .nil => .nil
  | _, _, n, .cons r rs => by
    simp only [scls, Bool.and_eq_true] at n
    exact .cons (rep_scl n.1 r) (reps_scl n.2 rs)
end
theorem repK_scl {W W' : Wd} {H : Hp} {d : List (Ky × D)} {v : List (Key × V)} (n : sclK d = true) (r : RepK K W H d v) : RepK K W' H d v := by
  induction d generalizing v with
  | nil => cases r; exact .nil
  | cons x xs ih =>
    cases r with
    | cons a b =>
      simp only [sclK, Bool.and_eq_true] at n
      exact .cons (rep_scl n.1 a) (ih n.2 b)
theorem frz_args {W : Wd} {S : Store} {H : Hp} (r : Rel K nm W S H) : ∀ {as : List D} {vs : List V} {as' : List D}, Reps K W H as vs → frzAs S as = some as' → Reps K W00 H as' vs
  | [], _, _, .nil, h => by cases h; exact .nil
  | d :: ds, _, as', .cons a b, h => by
    simp only [frzAs] at h
    split at h
    · rename_i x xs e1 e2
      cases h
      refine .cons ?_ (frz_args r b e2)
      cases a with
      | @ref n ad h1 =>
        simp only [frzA] at e1
        split at e1
        · rename_i ys q
          split at e1
          · rename_i hn
            cases e1
            obtain ⟨vs, h2, h3⟩ := r.ob n ad _ h1 q
            exact .lst (.inl h2) (by simp [W00]) (by simp [W00]) (reps_pure hn h3)
          · cases e1
        · rename_i ys q
          split at e1
          · rename_i hn
            cases e1
            obtain ⟨vs, h2, h3⟩ := r.ob n ad _ h1 q
            exact .dct (.inl h2) (by simp [W00]) (by simp [W00]) (repK_pure hn h3)
          · cases e1
        · cases e1
      | non => cases e1; exact .non
      | bl b => cases e1; exact .bl b
      | int i => cases e1; exact .int i
      | str x => cases e1; exact .str x
      | tup h1 h2 =>
        simp only [frzA] at e1
        split at e1
        · rename_i hn; cases e1; exact rep_pure hn (.tup h1 h2)
        · cases e1
      | lst h1 h2 h3 h4 =>
        simp only [frzA] at e1
        split at e1
        · rename_i hn; cases e1; exact rep_pure hn (.lst h1 h2 h3 h4)
        · cases e1
      | dct h1 h2 h3 h4 =>
        simp only [frzA] at e1
        split at e1
        · rename_i hn; cases e1; exact rep_pure hn (.dct h1 h2 h3 h4)
        · cases e1
      | scr h1 => cases e1; exact .scr h1
    · cases h
theorem rel00 {H : Hp} : Rel K nm W00 [] H := ⟨rfl, List.nodup_nil, fun n a o h => by simp [W00] at h, fun b hb => by simp [W00] at hb⟩
theorem erep_start {W : Wd} {H : Hp} {as : List D} {vs : List V} (p : Reps K W H as vs) (N : List Str) : ERep K W H (startE N.length as) (start N vs) := by
  refine ⟨by simp [startE, L2.start, p.length], fun i d h => ?_⟩
  by_cases hi : i < as.length
  · have hi' : i < (as.map some).length := by simpa using hi
    rw [startE, List.getElem?_append_left hi'] at h
    simp only [List.getElem?_map, Option.map_eq_some_iff, Option.some.injEq] at h
    obtain ⟨d', h1, h2⟩ := h
    subst h2
    obtain ⟨v, h3, h4⟩ := p.get h1
    refine ⟨v, ?_, h4⟩
    have hv : i < (vs.map some).length := by rw [List.length_map, p.lens]; exact hi
    show (vs.map some ++ _)[i]? = _
    rw [List.getElem?_append_left hv]
    simp [h3]
  · rw [startE, List.getElem?_append_right (by simpa using hi)] at h
    rw [List.getElem?_replicate] at h
    split at h <;> cases h
/-- where a def stands, and that its body is what the table says -/
structure FOk (K : PySem.W.Frag) (G : Tab) (Y : Sx) (f : Nat) (ad : Addr) (fdt : FuncData) (psf : List Str) : Prop where
  ex : ∃ (x qual : Str) (st : Stmt) (N : List Str) (F : Fn), G.fns f = some F ∧ Fun K x qual st ad fdt ∧ FnScope N psf (defScope st) ∧ F.np = psf.length ∧ F.nl = N.length ∧ chkS Y N (defScope st) F.body (defBody st) = true
theorem fn_all (g : GOk K mg G Y nm fa fd ps) (hO : ∀ f : Nat, (G.fns f).isSome = true → FOk K G Y f (fa f) (fd f) (ps f)) : ∀ (kk f : Nat), (G.fns f).isSome = true → FnOk P w K mg base (L2.CX P w) (2 * kk) (fa f) (fd f) (ps f) (spF K nm G kk f) := by
  intro kk
  induction kk with
  | zero => exact fun f hf => ⟨fun vs H Q E ⟨W, S, as, _, _, z⟩ => z.elim, fun A outer s H args us vs Q E _ _ _ _ ⟨W, S, as, _, _, z⟩ => z.elim⟩
  | succ kk ih =>
    intro f hf
    obtain ⟨x, qual, st, N, F, hFn, fu, S, hnp, hnl, hch⟩ := (hO f hf).ex
    refine fu.okX (k := 2 * kk + 1) (N := N) S (fun vs H Q E q => ?_) fun cdv A outer s H vs Q E hr q => ?_
    · obtain ⟨W, St, as, r, p, z⟩ := q
      simp only [run, hFn] at z
      split at z
      · exact z.elim
      · rename_i hl
        rw [p.lens, ← hnp]
        exact Decidable.not_not.mp hl
    · have hS := sndS (P := P) (w := w) (base := base) (N := N) (kk := kk) g ih F.body (defScope st) (defBody st) (cxOf (L2.CX P w) P w K mg base N qual (defScope st) (fa f) cdv A outer s H E) (fun cls d _ H => E cls d H) hch
        ⟨rfl, rfl, rfl, rfl, rfl, rfl, S.nd, rfl, hr, rfl⟩ (fun _ => rfl) (takes_of rfl rfl rfl rfl) (passes_of rfl)
      refine ⟨_, hS, ?_⟩
      obtain ⟨W, St, as, r, p, z⟩ := q
      simp only [run, hFn] at z
      split at z
      · exact z.elim
      · by_cases hp : F.pure = true
        · rw [if_pos hp] at z
          cases hfr : frzAs St as with
          | none => rw [hfr] at z; exact z.elim
          | some as' =>
            rw [hfr] at z
            dsimp only at z
            have p0 := frz_args r p hfr
            refine ⟨W00, [], startE F.nl as', by rw [hnl]; exact erep_start p0 N, rel00, ?_⟩
            have all : ∀ {W' : Wd} {H' : Hp}, Ext W00 H W' H' → (∀ a o, H a = some o → H' a = some o) ∧ Ext W H W H' := fun e => ⟨fun a o h => e.keep a o h (by simp [W00]), ⟨rfl, ⟨[], by simp⟩, fun a o h _ => e.keep a o h (by simp [W00])⟩⟩
            revert z
            cases exT G (run G kk) F.body (startE F.nl as') [] with
            | bad => exact fun z => z.elim
            | nx env' S' =>
              intro z W' H' σ' e r' _
              obtain ⟨k1, k2⟩ := all e
              exact z .non W H' k2 (r.grow k2 k1) .non
            | ex c env' S' =>
              intro z W' H' σ' e r' _
              obtain ⟨k1, k2⟩ := all e
              exact z W H' k2 (r.grow k2 k1)
            | rt d S' =>
              intro z v W' H' e r' pv
              obtain ⟨k1, k2⟩ := all e
              have rW := r.grow k2 k1
              obtain ⟨d', hd, fi⟩ := z.of
              refine fi v W H' k2 rW ?_
              cases pv with
              | @ref n ad h1 =>
                have fresh : H ad = none := by
                  obtain ⟨t, e1, e2⟩ := e.m
                  have : ad ∈ W'.m := List.mem_of_getElem? h1
                  rw [e1] at this
                  exact e2 ad (by simpa [W00] using this)
                simp only [frzR] at hd
                split at hd
                · rename_i ys q
                  split at hd
                  · rename_i hn
                    cases hd
                    obtain ⟨vs', h2, h3⟩ := r'.ob n ad _ h1 q
                    exact .lst (.inl h2) (r.fresh fresh).1 (r.fresh fresh).2 (reps_scl hn h3)
                  · cases hd
                · rename_i ys q
                  split at hd
                  · rename_i hn
                    cases hd
                    obtain ⟨vs', h2, h3⟩ := r'.ob n ad _ h1 q
                    exact .dct (.inl h2) (r.fresh fresh).1 (r.fresh fresh).2 (repK_scl hn h3)
                  · cases hd
                · cases hd
              | non => cases hd; exact .non
              | bl b => cases hd; exact .bl b
              | int i => cases hd; exact .int i
              | str x => cases hd; exact .str x
              | tup h1 h2 =>
                simp only [frzR] at hd
                split at hd
                · rename_i hn; cases hd; exact rep_scl hn (.tup h1 h2)
                · cases hd
              | lst h1 h2 h3 h4 => simp [frzR, scl] at hd
              | dct h1 h2 h3 h4 => simp [frzR, scl] at hd
              | scr h1 => simp [frzR, scl] at hd
        · rw [if_neg hp] at z
          refine ⟨W, St, startE F.nl as, by rw [hnl]; exact erep_start p N, r, ?_⟩
          revert z
          cases exT G (run G kk) F.body (startE F.nl as) St with
          | bad => exact fun z => z.elim
          | nx env' S' => exact fun z W' H' σ' e r' _ => z .non W' H' e r' .non
          | ex c env' S' => exact fun z W' H' σ' e r' _ => z W' H' e r'
          | rt d S' => exact fun z v W' H' e r' pv => z v W' H' e r' pv
end
end PL

set_option Elab.async false
set_option linter.all false
set_option maxRecDepth 100000
set_option maxHeartbeats 2000000
/-! PLO: the law's end. -/
namespace PL
open PySem PySem.Spec PyProof.Rows L2
/-- the law's promise -/
def spL (K : PySem.W.Frag) : Sp := fun vs H Q _ => ∃ (a : Addr) (ns : List Int), vs = [.ref a] ∧ SqL K H a (ns.map V.int) ∧ ns.length ≤ 63 ∧ Only H ∧ ∀ H', Q (.bl true) H'
theorem scr_at {K : PySem.W.Frag} {H : Hp} {a : Addr} {ns : List Int} (h : SqL K H a (ns.map V.int)) (o : Only H) : ScrAt K H a ns := by
  rcases h with (h | ⟨u, h⟩) | h
  · rcases o a with z | ⟨_, _, z⟩ <;> (rw [h] at z; cases z)
  · exact .inl ⟨u, h⟩
  · exact .inr h
theorem law_fn {P : Program} {w : World} {K : PySem.W.Frag} {mg : Str → Option Value} {base : Heap} {G : Tab} {nm : Nm} {kk f : Nat} {fa : Addr} {fd : FuncData} {ps : List Str} {k : Nat}
    (F : FnOk P w K mg base (L2.CX P w) k fa fd ps (spF K nm G kk f)) (h : ∀ ns : List Int, ns.length ≤ 63 → run G kk f [.scr ns] [] = .ok (.bl true) []) : FnOk P w K mg base (L2.CX P w) k fa fd ps (spL K) := by
  refine F.imp fun vs H Q E q => ?_
  obtain ⟨a, ns, e, hs, hl, ho, q⟩ := q
  subst e
  refine ⟨W00, [], [.scr ns], rel00, .cons (.scr (scr_at hs ho)) .nil, ?_⟩
  rw [h ns hl]
  intro v W' H' e r p
  cases p
  exact q H'
theorem law_walk {l : PySem.W.OpenLaw} {q : Program} {loose : List Str} {XP : (Str → Option Value) → Heap → Prop} {YP : World → Heap → Prop} {d : DefRec} {K : Params → PySem.W.Frag} {x : Str} {k : Nat} (hn : l.most = some 63) (hdf : d.params.defaults = []) (hr : Room k callerA)
    (hY : ∀ (w : World) (h : Heap), YP w h → (K w.params).In h)
    (F : ∀ (w : World) (mg : Str → Option Value) (fa : Addr) (h : Heap), (K w.params).In h → h.Ns mainGlobals mg → mg d.name = some (.ref fa) →
      ∃ fd : FuncData, (∀ (s : Shared) (u : Value), BindsTo s fd ⟨[u], []⟩ [(x, u)]) ∧ ∀ base : Heap, (K w.params).In base → base.Ns mainGlobals mg → FnOk l.prog w (K w.params) mg base (L2.CX l.prog w) k fa fd [x] (spL (K w.params))) :
    PySem.W.WalkO q loose XP YP l.row.toRowW d [] (fun f vs => PySem.call f vs) :=
  L2.walk_of (n := 63) (k := k) (x := x) (CX := fun w => L2.CX l.prog w) (sp := fun w => spL (K w.params)) hn (by decide) hdf hr hY F (fun _ _ a ns hl ho hS => ⟨a, ns, rfl, hS, hl, ho, fun _ => rfl⟩) fun _ _ _ _ _ z => by
    obtain ⟨_, _, _, _, _, _, _, _, _, _, _, _, z⟩ := z
    exact z
theorem rep_int (K : PySem.W.Frag) (i : Int) : ∀ W H, Rep K W H (.int i) (.int i) := fun _ _ => .int i
theorem rep_str (K : PySem.W.Frag) (i : Str) : ∀ W H, Rep K W H (.str i) (.str i) := fun _ _ => .str i
end PL

set_option Elab.async false
set_option linter.all false
set_option maxRecDepth 100000
set_option maxHeartbeats 1000000
/-! PM1: loops and calls of the evaluator, in general. -/
namespace PL
open PySem
/-- what a pure def's end gives -/
def fin (S : Store) : RS → R D
  | .nx _ _ => .ok .non S
  | .rt d S' => R.of (frzR S' d) S
  | .ex c _ _ => .ex c S
  | .bad => .bad
theorem run_pure {G : Tab} {k f np nl : Nat} {b : T} {as as' : List D} {S : Store} (h : G.fns f = some ⟨true, np, nl, b⟩) (hl : as.length = np) (hf : frzAs S as = some as') :
    run G (k + 1) f as S = fin S (exT G (run G k) b (startE nl as') []) := by
  simp only [run, h]
  rw [if_neg (by simpa using hl)]
  simp only [if_true, hf]
  cases exT G (run G k) b (startE nl as') [] <;> rfl
theorem fin_rt {S S' : Store} {d : D} (h : scl d = true) : fin S (.rt d S') = .ok d S := by
  unfold fin
  cases d <;> simp_all [frzR, scl]
theorem fin_ret {S S' : Store} {d : D} {r : RS} (e : r = .rt d S') (h : scl d = true) : fin S r = .ok d S := by rw [e, fin_rt h]
/-- a for over items, as a fold -/
theorem goFor_fold {α β τ : Type} {body : D → Env → Store → RS} {enc : β → D} {st : α → τ → Env} {step : α → β → α} {S : Store} {xs : List β} {a0 : α} {t0 : τ}
    (h : ∀ pre x post t, xs = pre ++ x :: post → ∃ t', body (enc x) (st (pre.foldl step a0) t) S = .nx (st (step (pre.foldl step a0) x) t') S) :
    ∃ t', goFor body (xs.map enc) (st a0 t0) S = .nx (st (xs.foldl step a0) t') S := by
  have key : ∀ (post pre : List β) (t : τ), xs = pre ++ post → ∃ t', goFor body (post.map enc) (st (pre.foldl step a0) t) S = .nx (st (xs.foldl step a0) t') S := by
    intro post
    induction post with
    | nil => intro pre t e; rw [List.append_nil] at e; subst e; exact ⟨t, rfl⟩
    | cons x post ih =>
      intro pre t e
      obtain ⟨t1, h1⟩ := h pre x post t e
      obtain ⟨t2, h2⟩ := ih (pre ++ [x]) t1 (by rw [e]; simp)
      refine ⟨t2, ?_⟩
      rw [List.foldl_append] at h2
      simp only [List.map_cons, goFor, h1, RS.andThen_nx]
      exact h2
  exact key xs [] t0 rfl
/-- a for that ends early, over items: every turn before is plain -/
theorem goFor_none {body : D → Env → Store → RS} {env : Env} {S : Store} : goFor body [] env S = .nx env S := rfl
/-- a comprehension over items without a test -/
theorem goComp_map {β : Type} {body : D → Store → R (Option D)} {enc : β → D} {f : β → D} {S : Store} {xs : List β} (hl : xs.length ≤ SZ) (h : ∀ x ∈ xs, body (enc x) S = .ok (some (f x)) S) : goComp body (xs.map enc) [] S = .ok (xs.map f) S := by
  have key : ∀ (post pre : List β), xs = pre ++ post → goComp body (post.map enc) (pre.map f) S = .ok (xs.map f) S := by
    intro post
    induction post with
    | nil => intro pre e; rw [List.append_nil] at e; subst e; rfl
    | cons x post ih =>
      intro pre e
      have hx := h x (by rw [e]; simp)
      have := ih (pre ++ [x]) (by rw [e]; simp)
      simp only [List.map_cons, goComp, hx, R.quiet_ok, R.bind_ok]
      rw [if_pos (by rw [List.length_map]; rw [e, List.length_append, List.length_cons] at hl; omega)]
      simpa using this
  exact key xs [] rfl
abbrev tupI (xs : List Int) : D := .tup (xs.map .int)
@[simp] theorem noRefs_int (xs : List Int) : noRefs (xs.map .int) = true := by induction xs <;> simp_all [noRefs, noRef]
@[simp] theorem scls_int (xs : List Int) : scls (xs.map .int) = true := by induction xs <;> simp_all [scls, scl]
theorem frz_int (S : Store) (i : Int) : frzA S (.int i) = some (.int i) := rfl
theorem frz_tupI (S : Store) (xs : List Int) : frzA S (tupI xs) = some (tupI xs) := by simp [frzA, noRef]
end PL
namespace PL
open PySem
/-! ### statements, one equation each (a loop has its own laws) -/
section
variable {G : Tab} {call : Calls} {env : Env} {S : Store}
@[simp] theorem x_nil : exT G call .nil env S = .nx env S := rfl
@[simp] theorem x_asg {i : Nat} {e : E} {k : T} : exT G call (.asg i e k) env S = (ev G call e env S).stm env fun d S => exT G call k (env.set i (some d)) S := rfl
@[simp] theorem x_exp {e : E} {k : T} : exT G call (.exp e k) env S = (ev G call e env S).stm env fun _ S => exT G call k env S := rfl
@[simp] theorem x_ret {e : E} : exT G call (.ret e) env S = (ev G call e env S).stm env fun d S => .rt d S := rfl
@[simp] theorem x_ifs {c : E} {a b k : T} : exT G call (.ifs c a b k) env S = (mapT (ev G call c env S)).stm env fun t S => (if t then exT G call a env S else exT G call b env S).andThen fun env S => exT G call k env S := rfl
@[simp] theorem x_rais {c : Nat} : exT G call (.rais c) env S = .ex c env S := rfl
def turnB (G : Tab) (call : Calls) (b : T) (tg : Tg) (x : D) (env : Env) (S : Store) : RS := match bindT tg x env with
  | some env' => exT G call b env' S
  | none => .bad
/-- the body of the first loop -/
def forB : T → T
  | .asg _ _ k => forB k
  | .exp _ k => forB k
  | .for_ _ _ _ b _ => b
  | _ => .nil
theorem x_for_eq {ik : IK} {src : E} {b k : T} {tg : Tg} : exT G call (.for_ ik src tg b k) env S = (ev G call src env S).stm env fun xs S => match mkIt ik (srcL ik xs) S with
    | some it => (goForI it (turnB G call b tg) env S).andThen fun env S => exT G call k env S
    | none => .bad := rfl
/-- a for over items -/
theorem x_for {α β τ : Type} {ik : IK} {src : E} {b k : T} {tg : Tg} {enc : β → D} {st : α → τ → Env} {step : α → β → α} {xs : List β} {a0 : α} {t0 : τ} {d : D} {r : RS}
    (hs : ev G call src (st a0 t0) S = .ok d S) (hi : mkIt ik (srcL ik d) S = some (.items (xs.map enc)))
    (h : ∀ pre x post t, xs = pre ++ x :: post → ∃ t', (match bindT tg (enc x) (st (pre.foldl step a0) t) with
      | some env' => exT G call b env' S
      | none => .bad) = .nx (st (step (pre.foldl step a0) x) t') S)
    (hk : ∀ t', exT G call k (st (xs.foldl step a0) t') S = r) : exT G call (.for_ ik src tg b k) (st a0 t0) S = r := by
  obtain ⟨t', e⟩ := goFor_fold (S := S) (xs := xs) (enc := enc) (st := st) (step := step) (a0 := a0) (t0 := t0) (body := turnB G call b tg) h
  rw [x_for_eq, hs]
  simp only [R.stm_ok, hi, goForI, e, RS.andThen_nx]
  exact hk t'
/-- the same, for any saying about the end -/
theorem x_forP {α β τ : Type} {P : RS → Prop} {ik : IK} {src : E} {b k : T} {tg : Tg} {enc : β → D} {st : α → τ → Env} {step : α → β → α} {xs : List β} {a0 : α} {t0 : τ} {d : D}
    (hs : ev G call src (st a0 t0) S = .ok d S) (hi : mkIt ik (srcL ik d) S = some (.items (xs.map enc)))
    (h : ∀ pre x post t, xs = pre ++ x :: post → ∃ t', turnB G call b tg (enc x) (st (pre.foldl step a0) t) S = .nx (st (step (pre.foldl step a0) x) t') S)
    (hk : ∀ t', P (exT G call k (st (xs.foldl step a0) t') S)) : P (exT G call (.for_ ik src tg b k) (st a0 t0) S) := by
  obtain ⟨t', e⟩ := goFor_fold (S := S) (xs := xs) (enc := enc) (st := st) (step := step) (a0 := a0) (t0 := t0) (body := turnB G call b tg) h
  rw [x_for_eq, hs]
  simp only [R.stm_ok, hi, goForI, e, RS.andThen_nx]
  exact hk t'
def NxJ (J : Env → Prop) (S : Store) (r : RS) : Prop := ∃ env, r = .nx env S ∧ J env
theorem x_forJ {P : RS → Prop} {J : Env → Prop} {ik : IK} {src : E} {b k : T} {tg : Tg} {xs : List D} {d : D}
    (hs : ev G call src env S = .ok d S) (hi : mkIt ik (srcL ik d) S = some (.items xs)) (h0 : J env)
    (h : ∀ x ∈ xs, ∀ env, J env → NxJ J S (turnB G call b tg x env S))
    (hk : ∀ env, J env → P (exT G call k env S)) : P (exT G call (.for_ ik src tg b k) env S) := by
  have key : ∀ (ys : List D) (env : Env), (∀ x ∈ ys, x ∈ xs) → J env → NxJ J S (goFor (turnB G call b tg) ys env S) := by
    intro ys
    induction ys with
    | nil => intro env _ w; exact ⟨env, rfl, w⟩
    | cons x ys ih =>
      intro env q w
      obtain ⟨e1, r1, w1⟩ := h x (q x (by simp)) env w
      obtain ⟨e2, r2, w2⟩ := ih e1 (fun y hy => q y (by simp [hy])) w1
      exact ⟨e2, by simp only [goFor, r1, RS.andThen_nx, r2], w2⟩
  obtain ⟨e1, r1, w1⟩ := key xs env (fun _ h => h) h0
  rw [x_for_eq, hs]
  simp only [R.stm_ok, hi, goForI, r1, RS.andThen_nx]
  exact hk e1 w1
/-- a while, by a number that falls -/
theorem goWhl_inv {α : Type} {c : Env → Store → R Bool} {body : Env → Store → RS} {st : α → Env} {S : Store} (m : α → Nat) (go : α → Bool) (nxt : α → α)
    (hc : ∀ a, c (st a) S = .ok (go a) S) (hb : ∀ a, go a = true → body (st a) S = .nx (st (nxt a)) S ∧ m (nxt a) < m a) (fin : α → α) (h0 : ∀ a, go a = false → fin a = a) (h1 : ∀ a, go a = true → fin a = fin (nxt a)) :
    ∀ (n : Nat) (a : α), m a < n → goWhl c body n (st a) S = .nx (st (fin a)) S := by
  intro n
  induction n with
  | zero => intro a h; omega
  | succ n ih =>
    intro a h
    simp only [goWhl, hc, R.stm_ok]
    cases g : go a with
    | false => simp [h0 a g]
    | true =>
      obtain ⟨e, l⟩ := hb a g
      simp only [if_true, e, RS.andThen_nx]
      rw [ih (nxt a) (by omega), ← h1 a g]
theorem x_whl {α : Type} {c : E} {b k : T} {st : α → Env} {m : α → Nat} {go : α → Bool} {nxt fin : α → α} {a0 : α} {r : RS}
    (hc : ∀ a, mapT (ev G call c (st a) S) = .ok (go a) S) (hb : ∀ a, go a = true → exT G call b (st a) S = .nx (st (nxt a)) S ∧ m (nxt a) < m a) (h0 : ∀ a, go a = false → fin a = a) (h1 : ∀ a, go a = true → fin a = fin (nxt a))
    (hm : m a0 < 1000000000) (hk : exT G call k (st (fin a0)) S = r) : exT G call (.whl c b k) (st a0) S = r := by
  unfold exT
  rw [goWhl_inv m go nxt hc hb fin h0 h1 LOOP a0 (by rw [LOOP_eq]; exact hm)]
  exact hk
theorem x_whlI {α : Type} {I : α → Prop} {c : E} {b k : T} {st : α → Env} {m : α → Nat} {go : α → Bool} {a0 : α} {r : RS} (hI : I a0)
    (hc : ∀ a, I a → mapT (ev G call c (st a) S) = .ok (go a) S) (hb : ∀ a, I a → go a = true → ∃ a', exT G call b (st a) S = .nx (st a') S ∧ I a' ∧ m a' < m a)
    (hm : m a0 < 1000000000) (hk : ∀ a, I a → go a = false → exT G call k (st a) S = r) : exT G call (.whl c b k) (st a0) S = r := by
  have key : ∀ (n : Nat) (a : α), I a → m a < n → ∃ a', I a' ∧ go a' = false ∧ goWhl (fun env S => mapT (ev G call c env S)) (fun env S => exT G call b env S) n (st a) S = .nx (st a') S := by
    intro n
    induction n with
    | zero => intro a _ h; omega
    | succ n ih =>
      intro a w h
      simp only [goWhl, hc a w, R.stm_ok]
      cases g : go a with
      | false => exact ⟨a, w, g, by simp⟩
      | true =>
        obtain ⟨a1, e, w1, l⟩ := hb a w g
        obtain ⟨a2, w2, g2, e2⟩ := ih a1 w1 (by omega)
        exact ⟨a2, w2, g2, by simp only [if_true, e, RS.andThen_nx, e2]⟩
  obtain ⟨a', w, g, e⟩ := key LOOP a0 hI (by rw [LOOP_eq]; exact hm)
  unfold exT
  rw [e]
  exact hk a' w g
end
end PL
namespace PL
open PySem
/-! ### the evaluator's operations on known values -/
section
variable {S : Store} {i j : Int}
@[simp] theorem bop_add_int : bop .add (.int i) (.int j) S = some (.int (i + j)) := rfl
@[simp] theorem bop_sub_int : bop .sub (.int i) (.int j) S = some (.int (i - j)) := rfl
@[simp] theorem bop_mul_l (h : small i = true) : bop .mul (.int i) (.int j) S = some (.int (i * j)) := by simp [bop, mulD, h]
@[simp] theorem bop_mul_r (h : small j = true) : bop .mul (.int i) (.int j) S = some (.int (i * j)) := by simp [bop, mulD, h]
@[simp] theorem bop_mod_int (h : 0 < j) : bop .mod (.int i) (.int j) S = some (.int (i % j)) := by simp [bop, modD, h]
@[simp] theorem bop_fdiv_int (h : 0 < j) (h' : j < 18446744073709551616) : bop .fdiv (.int i) (.int j) S = some (.int (i / j)) := by
  show (if 0 < j ∧ j < 2 ^ 64 then some (D.int (i / j)) else none) = _
  rw [if_pos ⟨h, h'⟩]
@[simp] theorem bop_add_tup {a b : List D} (h : a.length + b.length ≤ SZ) : bop .add (.tup a) (.tup b) S = some (.tup (a ++ b)) := by simp [bop, addD, h]
theorem bop_add_tupI {xs : List Int} {y : Int} (h : xs.length + 1 ≤ SZ) : bop .add (.tup (xs.map .int)) (.tup [.int y]) S = some (.tup ((xs ++ [y]).map .int)) := by
  have e : (xs.map D.int).length + [D.int y].length ≤ SZ := by rw [List.length_map]; exact h
  rw [bop_add_tup e, List.map_append]
  rfl
@[simp] theorem cop_lt : cop .lt (.int i) (.int j) S = some (decide (i < j)) := rfl
@[simp] theorem cop_le : cop .le (.int i) (.int j) S = some (decide (i ≤ j)) := rfl
@[simp] theorem cop_gt : cop .gt (.int i) (.int j) S = some (decide (j < i)) := rfl
@[simp] theorem cop_ge : cop .ge (.int i) (.int j) S = some (decide (j ≤ i)) := rfl
@[simp] theorem cop_eq_int : cop .eq (.int i) (.int j) S = some (decide (i = j)) := rfl
@[simp] theorem cop_ne_int : cop .ne (.int i) (.int j) S = some (!decide (i = j)) := rfl
@[simp] theorem truthy_bl {b : Bool} : truthy (.bl b) S = some b := rfl
@[simp] theorem truthy_int : truthy (.int i) S = some (i != 0) := rfl
@[simp] theorem truthy_tup {xs : List D} : truthy (.tup xs) S = some (!xs.isEmpty) := rfl
@[simp] theorem mapT_ok {d : D} : mapT (.ok d S) = R.of (truthy d S) S := rfl
@[simp] theorem mapT_bad : mapT .bad = .bad := rfl
@[simp] theorem toTup_tup {xs : List D} : toTup (.tup xs) = xs := rfl
theorem small_of (h : -18446744073709551616 < i) (h' : i < 18446744073709551616) : small i = true := by
  unfold small
  rw [decide_eq_true (show -(2 ^ 64) < i from h), decide_eq_true (show i < 2 ^ 64 from h')]
  rfl
@[simp] theorem small_104729 : small 104729 = true := by decide
@[simp] theorem small_48271 : small 48271 = true := by decide
@[simp] theorem small_257 : small 257 = true := by decide
@[simp] theorem mkTup_1 {a : D} : mkTup [a] = some (.tup [a]) := by simp [mkTup, SZ]
@[simp] theorem mkTup_0 : mkTup [] = some (.tup []) := by simp [mkTup, SZ]
@[simp] theorem mkTup_2 {a b : D} : mkTup [a, b] = some (.tup [a, b]) := by simp [mkTup, SZ]
@[simp] theorem mkTup_3 {a b c : D} : mkTup [a, b, c] = some (.tup [a, b, c]) := by simp [mkTup, SZ]
@[simp] theorem mkTup_4 {a b c d : D} : mkTup [a, b, c, d] = some (.tup [a, b, c, d]) := by simp [mkTup, SZ]
@[simp] theorem srcL_plain {d : D} : srcL .plain d = [d] := rfl
@[simp] theorem srcL_zip {d : D} : srcL .zip d = toTup d := rfl
@[simp] theorem srcL_rng1 {d : D} : srcL .rng1 d = toTup d := rfl
@[simp] theorem srcL_rng2 {d : D} : srcL .rng2 d = toTup d := rfl
@[simp] theorem mkIt_tup {xs : List D} : mkIt .plain [.tup xs] S = some (.items xs) := rfl
@[simp] theorem mkIt_lst {xs : List D} : mkIt .plain [.lst xs] S = some (.items xs) := rfl
theorem b62_of (h : -4611686018427387904 ≤ i) (h' : i < 4611686018427387904) : b62 i = true := by
  unfold b62
  rw [decide_eq_true (show -(2 ^ 62) ≤ i from h), decide_eq_true (show i < 2 ^ 62 from h')]
  rfl
theorem mkIt_rng1 (h : b62 j = true) : mkIt .rng1 [.int j] S = some (.items (rngD 0 1 j.toNat)) := by simp [mkIt, h]
@[simp] theorem mkIt_zipT {xs ys : List D} : mkIt .zip [.tup xs, .tup ys] S = some (.items (xs.zipWith (fun x y => .tup [x, y]) ys)) := rfl
@[simp] theorem mkIt_zipL {xs ys : List D} : mkIt .zip [.lst xs, .lst ys] S = some (.items (xs.zipWith (fun x y => .tup [x, y]) ys)) := rfl
theorem rngD_map (n : Nat) : rngD 0 1 n = (List.range n).map fun (k : Nat) => .int k := by simp [rngD]
@[simp] theorem bindT_one {d : D} {k : Nat} {env : Env} : bindT (.one k) d env = some (env.set k (some d)) := rfl
@[simp] theorem isaD_int0 {t : Nat} : isaD t (.int i) = decide (t = 0) := by
  rcases t with _ | _ | _ | _ | t <;> simp [isaD]
@[simp] theorem isaD_tup {t : Nat} {xs : List D} : isaD t (.tup xs) = decide (t = 3) := by
  rcases t with _ | _ | _ | _ | t <;> simp [isaD]
@[simp] theorem isaD_str {t : Nat} {x : Str} : isaD t (.str x) = decide (t = 2) := by
  rcases t with _ | _ | _ | _ | t <;> simp [isaD]
@[simp] theorem isaD_non {t : Nat} : isaD t .non = false := by
  rcases t with _ | _ | _ | _ | t <;> simp [isaD]
@[simp] theorem isaD_bl {t : Nat} {b : Bool} : isaD t (.bl b) = decide (t < 2) := by
  rcases t with _ | _ | _ | _ | t <;> simp [isaD]
@[simp] theorem notIns_int : notIns (.int i) S = true := rfl
@[simp] theorem notIns_tup {xs : List D} : notIns (.tup xs) S = true := rfl
@[simp] theorem notIns_str {x : Str} : notIns (.str x) S = true := rfl
@[simp] theorem notIns_bl {b : Bool} : notIns (.bl b) S = true := rfl
@[simp] theorem notIns_non : notIns .non S = true := rfl
@[simp] theorem bf_len_tup {xs : List D} : bfD .len [.tup xs] S = some (.int xs.length) := rfl
@[simp] theorem bf_len_scr {ns : List Int} : bfD .len [.scr ns] S = some (.int ns.length) := by simp [bfD, lenF, lenD, seqOf]
@[simp] theorem bf_max : bfD .max [.int i, .int j] S = some (.int (if j > i then j else i)) := rfl
@[simp] theorem bf_min : bfD .min [.int i, .int j] S = some (.int (if j < i then j else i)) := rfl
theorem allB_map {α : Type} (f : α → Bool) (xs : List α) : allB (xs.map fun x => .bl (f x)) = some (xs.all f) := by induction xs <;> simp_all [allB]
theorem bf_all_map {α : Type} {f : α → Bool} {xs : List α} : bfD .all [.lst (xs.map fun x => .bl (f x))] S = some (.bl (xs.all f)) := by simp [bfD, allF, lstOf, allB_map]
end
end PL

set_option Elab.async false
set_option linter.all false
set_option maxRecDepth 100000
set_option maxHeartbeats 1000000
/-! PM2: the defs that most laws use, and what they compute. -/
namespace PL
open PySem
abbrev i_power : Nat := 0
/-- power: many 0 found 1 square 2 left 3 -/
def b_power : T := (.asg 1 (.con (.int 1))
  (.asg 2 (.glb 1)
  (.asg 3 (.var 0)
  (.whl (.cmp .gt (.var 3) (.con (.int 0)))
  (.ifs (.cmp .eq (.bin .mod (.var 3) (.con (.int 2))) (.con (.int 1)))
  (.asg 1 (.bin .mod (.bin .mul (.var 1) (.var 2)) (.glb 0))
  .nil)
  .nil
  (.asg 2 (.bin .mod (.bin .mul (.var 2) (.var 2)) (.glb 0))
  (.asg 3 (.bin .fdiv (.var 3) (.con (.int 2)))
  .nil)))
  (.ret (.var 1))))))
def f_power : Fn := ⟨true, 1, 4, b_power⟩
abbrev i_mark_of : Nat := 1
/-- mark_of: some 0 mark 1 one 2 -/
def b_mark_of : T := (.asg 1 (.con (.int 0))
  (.for_ .plain (.var 0) (.one 2)
  (.asg 1 (.bin .mod (.bin .add (.bin .add (.bin .mul (.var 1) (.glb 1)) (.var 2)) (.con (.int 1))) (.glb 0))
  .nil)
  (.ret (.var 1))))
def f_mark_of : Fn := ⟨true, 1, 3, b_mark_of⟩
abbrev i_l_d : Nat := 2
/-- l_d: _cell 0 _place 1 _many 2 _number 3 -/
def b_l_d : T := (.asg 3 (.bin .mod (.bin .add (.var 0) (.bin .mul (.con (.int 104729)) (.var 1))) (.con (.int 4294967291)))
  (.asg 3 (.bin .mod (.bin .mul (.bin .mod (.bin .mul (.var 3) (.var 3)) (.con (.int 4294967279))) (.con (.int 48271))) (.con (.int 4294967291)))
  (.ret (.bin .mod (.bin .fdiv (.var 3) (.con (.int 64))) (.var 2)))))
def f_l_d : Fn := ⟨true, 3, 4, b_l_d⟩
abbrev i_l_same : Nat := 3
/-- l_same: _told 0 _due 1 _one 2 _other 3 -/
def b_l_same : T := (.ifs (.isn (.var 1))
  (.ret (.isn (.var 0)))
  .nil
  (.ifs (.val (.isa (.var 1) 1))
  (.ret (.and (.isa (.var 0) 1) (.one (.cmp .eq (.var 0) (.var 1)))))
  .nil
  (.ifs (.val (.isa (.var 1) 3))
  (.ifs (.or (.nt (.val (.isa (.var 0) 3))) (.one (.cmp .ne (.bf .len (.cons (.var 0) .nil)) (.bf .len (.cons (.var 1) .nil)))))
  (.ret (.con (.bl false)))
  .nil
  (.ret (.bf .all (.cons (.comp .zip (.cons (.var 0) (.cons (.var 1) .nil)) (.many [2, 3]) .emp (.call i_l_same (.cons (.var 2) (.cons (.var 3) .nil)))) .nil))))
  .nil
  (.ifs (.val (.isa (.var 1) 2))
  (.ret (.and (.isa (.var 0) 2) (.one (.cmp .eq (.var 0) (.var 1)))))
  .nil
  (.ret (.and (.isa (.var 0) 0) (.and (.nt (.isa (.var 0) 1)) (.one (.cmp .eq (.var 0) (.var 1))))))))))
def f_l_same : Fn := ⟨true, 2, 4, b_l_same⟩
abbrev i_l_bytes : Nat := 4
/-- l_bytes: _cell 0 _many 1 _found 2 _k 3 _one 4 -/
def b_l_bytes : T := (.asg 2 (.tup .nil)
  (.for_ .rng1 (.cons (.var 1) .nil) (.one 3)
  (.asg 4 (.bin .add (.bin .fdiv (.var 0) (.con (.int 4))) (.bin .mul (.var 3) (.bin .add (.call i_l_d (.cons (.var 0) (.cons (.con (.int 11)) (.cons (.con (.int 250)) .nil)))) (.con (.int 1)))))
  (.asg 4 (.bin .add (.var 4) (.bin .mul (.bin .mul (.var 3) (.var 3)) (.call i_l_d (.cons (.var 0) (.cons (.con (.int 2750)) (.cons (.con (.int 7)) .nil))))))
  (.ifs (.cmp .eq (.call i_l_d (.cons (.var 0) (.cons (.con (.int 1)) (.cons (.con (.int 4)) .nil)))) (.con (.int 0)))
  (.asg 4 (.bin .mod (.var 4) (.con (.int 3)))
  .nil)
  .nil
  (.asg 2 (.bin .add (.var 2) (.tup (.cons (.bin .mod (.var 4) (.con (.int 256))) .nil)))
  .nil))))
  (.ret (.var 2))))
def f_l_bytes : Fn := ⟨true, 2, 5, b_l_bytes⟩
abbrev i_l_mark : Nat := 5
/-- l_mark: _some 0 _mark_here 1 _one 2 -/
def b_l_mark : T := (.asg 1 (.con (.int 0))
  (.for_ .plain (.var 0) (.one 2)
  (.asg 1 (.bin .add (.bin .add (.bin .mul (.var 1) (.con (.int 257))) (.var 2)) (.con (.int 1)))
  .nil)
  (.ret (.bin .sub (.var 1) (.bin .mul (.bin .fdiv (.var 1) (.con (.int 2147483647))) (.con (.int 2147483647)))))))
def f_l_mark : Fn := ⟨true, 1, 3, b_l_mark⟩
abbrev i_mark_joined : Nat := 7
/-- mark_joined: one 0 other 1 many 2 -/
def b_mark_joined : T := (.ret (.bin .mod (.bin .add (.bin .mul (.var 0) (.call i_power (.cons (.var 2) .nil))) (.var 1)) (.glb 0)))
def f_mark_joined : Fn := ⟨true, 3, 3, b_mark_joined⟩
abbrev i_l_cell : Nat := 8
/-- l_cell: _script 0 _k 1 -/
def b_l_cell : T := (.ifs (.cmp .lt (.var 1) (.bf .len (.cons (.var 0) .nil)))
  (.ret (.ix (.var 0) (.var 1)))
  .nil
  (.ret (.con (.int 0))))
def f_l_cell : Fn := ⟨true, 2, 2, b_l_cell⟩
/-! ### the laws' draws -/
def dF (c p m : Int) : Int :=
  let n := (c + 104729 * p) % 4294967291
  (n * n % 4294967279 * 48271 % 4294967291) / 64 % m
theorem dF_nn (c p : Int) {m : Int} (h : 0 < m) : 0 ≤ dF c p m := Int.emod_nonneg _ (by omega)
theorem dF_lt (c p : Int) {m : Int} (h : 0 < m) : dF c p m < m := Int.emod_lt_of_pos _ h
section
variable {G : Tab} {k : Nat} {S : Store}
theorem run_l_d {c p m : Int} (h : G.fns i_l_d = some f_l_d) (hm : 0 < m) : run G (k + 1) i_l_d [.int c, .int p, .int m] S = .ok (.int (dF c p m)) S := by
  rw [run_pure h rfl (as' := [.int c, .int p, .int m]) rfl]
  have h1 : 0 ≤ (c + 104729 * p) % 4294967291 := Int.emod_nonneg _ (by decide)
  have h2 : (c + 104729 * p) % 4294967291 < 4294967291 := Int.emod_lt_of_pos _ (by decide)
  have h3 : small ((c + 104729 * p) % 4294967291) = true := small_of (by omega) (by omega)
  simp [b_l_d, exT, ev, startE, h3, hm]
  exact fin_rt rfl
/-! ### marks -/
def markS (m x : Int) : Int := (m * 257 + x + 1) % 2147483647
def markF (xs : List Int) : Int := xs.foldl markS 0
theorem run_mark_of {xs : List Int} (h : G.fns i_mark_of = some f_mark_of) (h0 : G.consts 0 = some (.int 2147483647)) (h1 : G.consts 1 = some (.int 257)) :
    run G (k + 1) i_mark_of [tupI xs] S = .ok (.int (markF xs)) S := by
  rw [run_pure h rfl (as' := [tupI xs]) (by simp [frzAs, frz_tupI])]
  refine fin_ret (S' := []) ?_ rfl
  simp [b_mark_of, startE, ev]
  refine x_for (xs := xs) (enc := D.int) (a0 := (0 : Int)) (t0 := (none : Option D)) (st := fun a t => [some (tupI xs), some (.int a), t]) (step := markS) (d := tupI xs) ?_ rfl (fun pre x post t e => ⟨some (.int x), ?_⟩) (fun t' => ?_)
  · simp [ev]
  · simp [ev, h0, h1, markS]
  · simp [ev, markF]
def markT (xs : List Int) : Int := xs.foldl (fun m x => m * 257 + x + 1) 0
theorem markT_F (xs : List Int) : markT xs % 2147483647 = markF xs := by
  unfold markT markF
  have key : ∀ (xs : List Int) (a b : Int), a % 2147483647 = b % 2147483647 → (xs.foldl (fun m x => m * 257 + x + 1) a) % 2147483647 = (xs.foldl markS b) % 2147483647 := by
    intro xs
    induction xs with
    | nil => intro a b e; exact e
    | cons x xs ih =>
      intro a b e
      refine ih _ _ ?_
      unfold markS
      show (a * 257 + x + 1) % 2147483647 = (b * 257 + x + 1) % 2147483647 % 2147483647
      omega
  have k2 : ∀ (xs : List Int) (b : Int), 0 ≤ b → b < 2147483647 → (xs.foldl markS b) % 2147483647 = xs.foldl markS b := by
    intro xs
    induction xs with
    | nil => intro b h1 h2; exact Int.emod_eq_of_lt h1 h2
    | cons x xs ih => intro b h1 h2; exact ih _ (Int.emod_nonneg _ (by decide)) (Int.emod_lt_of_pos _ (by decide))
  rw [key xs 0 0 rfl, k2 xs 0 (by decide) (by decide)]
theorem run_l_mark {xs : List Int} (h : G.fns i_l_mark = some f_l_mark) : run G (k + 1) i_l_mark [tupI xs] S = .ok (.int (markF xs)) S := by
  rw [run_pure h rfl (as' := [tupI xs]) (by simp [frzAs, frz_tupI])]
  refine fin_ret (S' := []) ?_ rfl
  simp [b_l_mark, startE, ev]
  refine x_for (xs := xs) (enc := D.int) (a0 := (0 : Int)) (t0 := (none : Option D)) (st := fun a t => [some (tupI xs), some (.int a), t]) (step := fun m x => m * 257 + x + 1) (d := tupI xs) ?_ rfl (fun pre x post t e => ⟨some (.int x), ?_⟩) (fun t' => ?_)
  · simp [ev]
  · simp [ev]
  · have h2 : small 2147483647 = true := by decide
    have h3 : markT xs - markT xs / 2147483647 * 2147483647 = markF xs := by rw [← markT_F]; omega
    have h4 : xs.foldl (fun m x => m * 257 + x + 1) 0 = markT xs := rfl
    simp [ev, h2, h4, h3]
/-! ### bytes -/
def byteF (c : Int) (k : Nat) : Int :=
  let one := c / 4 + k * (dF c 11 250 + 1) + k * k * dF c 2750 7
  (if dF c 1 4 = 0 then one % 3 else one) % 256
def bytesF (c : Int) (n : Nat) : List Int := (List.range n).map (byteF c)
theorem foldl_snoc {α β : Type} (f : β → α) : ∀ (xs : List β) (a : List α), xs.foldl (fun a x => a ++ [f x]) a = a ++ xs.map f
  | [], a => by simp
  | x :: xs, a => by simp [foldl_snoc f xs]
theorem byte_turn {c n X : Int} {P : List Int} {t : Option D × Option D} (hd : G.fns i_l_d = some f_l_d) (s1 : small X = true) (s2 : small (X * X) = true) (hz : P.length + 1 ≤ SZ) :
    ∃ t' : Option D × Option D, turnB G (run G (k + 1)) (forB b_l_bytes) (.one 3) (.int X) [some (.int c), some (.int n), some (tupI P), t.1, t.2] [] =
      .nx [some (.int c), some (.int n), some (tupI (P ++ [(if dF c 1 4 = 0 then (c / 4 + X * (dF c 11 250 + 1) + X * X * dF c 2750 7) % 3 else c / 4 + X * (dF c 11 250 + 1) + X * X * dF c 2750 7) % 256])), t'.1, t'.2] [] := by
  have hb := fun y => bop_add_tupI (y := y) (S := []) hz
  by_cases hc : dF c 1 4 = 0
  · refine ⟨(some (.int X), some (.int ((c / 4 + X * (dF c 11 250 + 1) + X * X * dF c 2750 7) % 3))), ?_⟩
    simp [turnB, b_l_bytes, forB, ev, run_l_d hd, s1, s2, hc, hb]
  · refine ⟨(some (.int X), some (.int (c / 4 + X * (dF c 11 250 + 1) + X * X * dF c 2750 7))), ?_⟩
    simp [turnB, b_l_bytes, forB, ev, run_l_d hd, s1, s2, hc, hb]
theorem run_l_bytes {c n : Int} (h : G.fns i_l_bytes = some f_l_bytes) (hd : G.fns i_l_d = some f_l_d) (h0 : 0 ≤ n) (h1 : n ≤ 1000) : run G (k + 2) i_l_bytes [.int c, .int n] S = .ok (tupI (bytesF c n.toNat)) S := by
  rw [run_pure h rfl (as' := [.int c, .int n]) rfl]
  refine fin_ret (S' := []) ?_ (by simp [scl])
  simp [b_l_bytes, startE, ev]
  refine x_for (xs := List.range n.toNat) (enc := fun (k : Nat) => D.int k) (a0 := ([] : List Int)) (t0 := ((none, none) : Option D × Option D)) (st := fun a t => [some (.int c), some (.int n), some (tupI a), t.1, t.2]) (step := fun a k => a ++ [byteF c k])
    (d := .tup [.int n]) ?_ ?_ (fun pre x post t e => ?_) (fun t' => ?_)
  · simp [ev]
  · rw [srcL_rng1, toTup_tup, mkIt_rng1 (b62_of (by omega) (by omega)), rngD_map]
  · have hx : x < n.toNat := by
      have : x ∈ List.range n.toNat := by rw [e]; simp
      simpa using this
    have hl : pre.length ≤ 1000 := by
      have := congrArg List.length e
      simp at this
      omega
    have s1 : small (x : Int) = true := small_of (by omega) (by omega)
    have s2 : small ((x : Int) * x) = true := by
      have : x * x ≤ 1000 * 1000 := Nat.mul_le_mul (by omega) (by omega)
      have h3 : ((x * x : Nat) : Int) = (x : Int) * x := by push_cast; rfl
      exact small_of (by omega) (by omega)
    have hz : (pre.map (byteF c)).length + 1 ≤ SZ := by rw [List.length_map]; unfold SZ; omega
    rw [foldl_snoc]
    exact byte_turn hd s1 s2 hz
  · rw [foldl_snoc]
    simp [ev, bytesF]
end
end PL

set_option Elab.async false
set_option linter.all false
set_option maxRecDepth 100000
set_option maxHeartbeats 1000000
/-! PM3: powers, and the laws' own compare. -/
namespace PL
open PySem
section
variable {G : Tab} {k : Nat} {S : Store}
def powF (n : Nat) : Int := (257 : Int) ^ n % 2147483647
theorem run_power {n : Nat} (h : G.fns i_power = some f_power) (h0 : G.consts 0 = some (.int 2147483647)) (h1 : G.consts 1 = some (.int 257)) (hn : n < 1000000000) :
    run G (k + 1) i_power [.int n] S = .ok (.int (powF n)) S := by
  rw [run_pure h rfl (as' := [.int n]) rfl]
  refine fin_ret (S' := []) ?_ rfl
  simp [b_power, startE, ev, h1]
  refine x_whlI (α := Int × Int × Nat) (a0 := (1, 257, n)) (st := fun a => [some (.int n), some (.int a.1), some (.int a.2.1), some (.int (a.2.2 : Nat))])
    (I := fun a => (0 ≤ a.1 ∧ a.1 < 2147483647) ∧ (0 ≤ a.2.1 ∧ a.2.1 < 2147483647) ∧ (a.1 * a.2.1 ^ a.2.2) % 2147483647 = powF n)
    (m := fun a => a.2.2) (go := fun a => decide (0 < a.2.2)) ?_ ?_ ?_ ?_ ?_
  · exact ⟨⟨by show (0 : Int) ≤ 1; decide, by show (1 : Int) < 2147483647; decide⟩, ⟨by show (0 : Int) ≤ 257; decide, by show (257 : Int) < 2147483647; decide⟩, by show (1 * 257 ^ n) % 2147483647 = powF n; rw [Int.one_mul]; rfl⟩
  · rintro ⟨f, s, l⟩ _
    simp [ev]
  · rintro ⟨f, s, l⟩ ⟨⟨f0, f1⟩, ⟨s0, s1⟩, e⟩ g
    simp only [decide_eq_true_eq] at g f0 f1 s0 s1 e
    have z1 : small f = true := small_of (by omega) (by omega)
    have z2 : small s = true := small_of (by omega) (by omega)
    have hl : ((l / 2 : Nat) : Int) = (l : Int) / 2 := by omega
    have key : ∀ (m : Nat), ((s * s % 2147483647) ^ m) % 2147483647 = ((s * s) ^ m) % 2147483647 := by
      intro m
      induction m with
      | zero => rw [Int.pow_zero, Int.pow_zero]
      | succ m ih => rw [Int.pow_succ, Int.pow_succ, Int.mul_emod, ih, Int.emod_emod_of_dvd _ (Int.dvd_refl _), ← Int.mul_emod]
    have hsq : ∀ (a : Int) (b : Nat), (a * (s * s % 2147483647) ^ b) % 2147483647 = (a * (s * s) ^ b) % 2147483647 := by
      intro a b
      rw [Int.mul_emod, key, ← Int.mul_emod]
    by_cases hc : l % 2 = 1
    · have hc' : (l : Int) % 2 = 1 := by omega
      refine ⟨(f * s % 2147483647, s * s % 2147483647, l / 2), ?_, ⟨⟨?_, ?_⟩, ⟨?_, ?_⟩, ?_⟩, ?_⟩
      · simp [ev, hc', h0, z1, z2]
      · exact Int.emod_nonneg _ (by decide)
      · exact Int.emod_lt_of_pos _ (by decide)
      · exact Int.emod_nonneg _ (by decide)
      · exact Int.emod_lt_of_pos _ (by decide)
      · have := hsq (f * s % 2147483647) (l / 2)
        show (f * s % 2147483647) * (s * s % 2147483647) ^ (l / 2) % 2147483647 = _
        rw [this, Int.mul_emod, Int.emod_emod_of_dvd _ (Int.dvd_refl _), ← Int.mul_emod, ← e]
        congr 1
        rw [Int.mul_assoc]
        congr 1
        conv => rhs; rw [show l = 2 * (l / 2) + 1 by omega]
        rw [Int.pow_succ, Int.pow_mul, Int.mul_comm, show s ^ 2 = s * s from by rw [Int.pow_succ, Int.pow_succ]; simp]
      · show l / 2 < l
        omega
    · have hc' : ¬ (l : Int) % 2 = 1 := by omega
      refine ⟨(f, s * s % 2147483647, l / 2), ?_, ⟨⟨f0, f1⟩, ⟨?_, ?_⟩, ?_⟩, ?_⟩
      · simp [ev, hc', h0, z1, z2]
      · exact Int.emod_nonneg _ (by decide)
      · exact Int.emod_lt_of_pos _ (by decide)
      · have := hsq f (l / 2)
        show f * (s * s % 2147483647) ^ (l / 2) % 2147483647 = _
        rw [this, ← e]
        congr 2
        conv => rhs; rw [show l = 2 * (l / 2) by omega]
        rw [Int.pow_mul, show s ^ 2 = s * s from by rw [Int.pow_succ, Int.pow_succ]; simp]
      · show l / 2 < l
        omega
  · exact hn
  · rintro ⟨f, s, l⟩ ⟨⟨f0, f1⟩, _, e⟩ g
    simp only [decide_eq_false_iff_not, Nat.not_lt, Nat.le_zero] at g f0 f1 e
    subst g
    simp only [Int.pow_zero, Int.mul_one, Int.emod_eq_of_lt f0 f1] at e
    simp [ev, e]
/-! ### the compare -/
def okD : Nat → D → Bool
  | 0, _ => false
  | k + 1, .tup xs => decide (xs.length ≤ SZ) && xs.all (okD k)
  | _ + 1, .int _ => true
  | _ + 1, .str _ => true
  | _ + 1, .bl _ => true
  | _ + 1, .non => true
  | _ + 1, _ => false
theorem noRefs_all : ∀ xs : List D, noRefs xs = xs.all noRef
  | [] => rfl
  | x :: xs => by simp [noRefs, noRefs_all xs]
theorem okD_noRef : ∀ (k : Nat) (d : D), okD k d = true → noRef d = true
  | 0, _, h => by simp [okD] at h
  | k + 1, .tup xs, h => by
    simp only [okD, Bool.and_eq_true, List.all_eq_true] at h
    simp only [noRef, noRefs_all, List.all_eq_true]
    exact fun x hx => okD_noRef k x (h.2 x hx)
  | k + 1, .int _, h => rfl
  | k + 1, .str _, h => rfl
  | k + 1, .bl _, h => rfl
  | k + 1, .non, h => rfl
  | k + 1, .lst _, h => by simp [okD] at h
  | k + 1, .dct _, h => by simp [okD] at h
  | k + 1, .ref _, h => by simp [okD] at h
  | k + 1, .scr _, h => by simp [okD] at h
theorem frzA_noRef {d : D} (h : noRef d = true) : frzA S d = some d := by
  cases d <;> simp_all [frzA, noRef]
theorem zipWith_self {α β : Type} (f : α → α → β) : ∀ xs : List α, xs.zipWith f xs = xs.map fun x => f x x
  | [] => rfl
  | x :: xs => by simp [zipWith_self f xs]
@[simp] theorem isNonD_int {i : Int} : isNonD (.int i) = false := rfl
@[simp] theorem isNonD_bl {i : Bool} : isNonD (.bl i) = false := rfl
@[simp] theorem isNonD_str {i : Str} : isNonD (.str i) = false := rfl
@[simp] theorem isNonD_tup {i : List D} : isNonD (.tup i) = false := rfl
@[simp] theorem isNonD_non : isNonD .non = true := rfl
@[simp] theorem cop_eq_str {i j : Str} : cop .eq (.str i) (.str j) S = some (decide (i = j)) := rfl
@[simp] theorem cop_eq_bl {i j : Bool} : cop .eq (.bl i) (.bl j) S = some (decide (i = j)) := rfl
@[simp] theorem bindT_many2 {x y : D} {i j : Nat} {env : Env} : bindT (.many [i, j]) (.tup [x, y]) env = some ((env.set i (some x)).set j (some y)) := rfl
theorem run_same (h : G.fns i_l_same = some f_l_same) : ∀ (k : Nat) (d : D) (S : Store), okD k d = true → run G k i_l_same [d, d] S = .ok (.bl true) S := by
  intro k
  induction k with
  | zero => intro d S e; simp [okD] at e
  | succ k ih =>
    intro d S e
    have hn := okD_noRef _ _ e
    rw [run_pure h rfl (as' := [d, d]) (by simp only [frzAs, frzA_noRef hn])]
    refine fin_ret (S' := []) ?_ rfl
    cases d with
    | non => simp [b_l_same, startE, ev]
    | bl b => simp [b_l_same, startE, ev]
    | int i => simp [b_l_same, startE, ev]
    | str x => simp [b_l_same, startE, ev]
    | tup xs =>
      simp only [okD, Bool.and_eq_true, List.all_eq_true, decide_eq_true_eq] at e
      simp [b_l_same, startE, ev, goIt, zipWith_self]
      rw [goComp_map (f := fun _ => D.bl true) (enc := fun x => D.tup [x, x]) e.1 (fun x hx => by simp [isEmp, ih x [] (e.2 x hx)])]
      have := bf_all_map (S := []) (f := fun _ => true) (xs := xs)
      simp [this]
    | lst xs => simp [okD] at e
    | dct xs => simp [okD] at e
    | ref xs => simp [okD] at e
    | scr xs => simp [okD] at e
end
end PL

set_option Elab.async false
set_option linter.all false
set_option maxRecDepth 100000
set_option maxHeartbeats 1000000
/-! PM4: cells, slices and joins of tuples of numbers, marks of joined bytes. -/
namespace PL
open PySem
section
variable {G : Tab} {k : Nat} {S : Store}
theorem ix_int {xs : List Int} {i : Int} (h0 : 0 ≤ i) (h1 : i < xs.length) : getD_ (.tup (xs.map .int)) (.int i) S = some (.int (xs.getD i.toNat 0)) := by
  obtain ⟨j, rfl⟩ := Int.eq_ofNat_of_zero_le h0
  show L2.atI (xs.map D.int) (j : Int) = _
  have hj : j < xs.length := by omega
  refine L2.atI_nat ?_
  rw [List.getElem?_map, Int.toNat_natCast, List.getD_eq_getElem?_getD, List.getElem?_eq_getElem hj]
  rfl
theorem ix_scr {ns : List Int} {j : Nat} (h1 : j < ns.length) : getD_ (.scr ns) (.int (j : Int)) S = some (.int (ns.getD j 0)) := by
  show L2.atI (ns.map D.int) (j : Int) = _
  refine L2.atI_nat ?_
  rw [List.getElem?_map, List.getD_eq_getElem?_getD, List.getElem?_eq_getElem h1]
  rfl
theorem run_l_cell {ns : List Int} {j : Nat} (h : G.fns i_l_cell = some f_l_cell) : run G (k + 1) i_l_cell [.scr ns, .int (j : Int)] S = .ok (.int (ns.getD j 0)) S := by
  rw [run_pure h rfl (as' := [.scr ns, .int (j : Int)]) rfl]
  refine fin_ret (S' := []) ?_ rfl
  by_cases hj : j < ns.length
  · simp [b_l_cell, startE, ev, hj, ix_scr hj]
  · have : ns.getD j 0 = 0 := by rw [List.getD_eq_getElem?_getD, List.getElem?_eq_none (by omega)]; rfl
    simp [b_l_cell, startE, ev, hj]
theorem bop_add_tupII {xs ys : List Int} (h : xs.length + ys.length ≤ SZ) : bop .add (.tup (xs.map .int)) (.tup (ys.map .int)) S = some (.tup ((xs ++ ys).map .int)) := by
  have e : (xs.map D.int).length + (ys.map D.int).length ≤ SZ := by rw [List.length_map, List.length_map]; exact h
  rw [bop_add_tup e, List.map_append]
theorem sIx_ok {n d : Nat} {v : Int} (h0 : 0 ≤ v) (h1 : v ≤ n) : HT.sIx n d (some v) = v.toNat := by
  show (if v < 0 then (v + (n : Int)).toNat else min v.toNat n) = v.toNat
  rw [if_neg (by omega)]
  omega
theorem sl_to {xs : List Int} {v : Int} (h0 : 0 ≤ v) (h1 : v ≤ xs.length) : slD (.tup (xs.map .int)) none (some v) S = some (.tup ((xs.take v.toNat).map .int)) := by
  show some (D.tup (cutD (xs.map D.int) none (some v))) = _
  unfold cutD
  rw [List.length_map, sIx_ok h0 h1]
  show some (D.tup ((List.drop 0 (xs.map D.int)).take (v.toNat - 0))) = _
  rw [List.drop_zero, Nat.sub_zero, List.map_take]
theorem sl_from {xs : List Int} {v : Int} (h0 : 0 ≤ v) (h1 : v ≤ xs.length) : slD (.tup (xs.map .int)) (some v) none S = some (.tup ((xs.drop v.toNat).map .int)) := by
  show some (D.tup (cutD (xs.map D.int) (some v) none)) = _
  unfold cutD
  rw [List.length_map, sIx_ok h0 h1]
  show some (D.tup ((List.drop v.toNat (xs.map D.int)).take (xs.length - v.toNat))) = _
  rw [List.take_of_length_le (by simp), List.map_drop]
theorem sl_mid {xs : List Int} {v w : Int} (h0 : 0 ≤ v) (h1 : v ≤ w) (h2 : w ≤ xs.length) : slD (.tup (xs.map .int)) (some v) (some w) S = some (.tup (((xs.drop v.toNat).take (w.toNat - v.toNat)).map .int)) := by
  show some (D.tup (cutD (xs.map D.int) (some v) (some w))) = _
  unfold cutD
  rw [List.length_map, sIx_ok h0 (by omega), sIx_ok (by omega) h2, List.map_take, List.map_drop]
/-! ### marks of joined bytes -/
theorem markT_app (xs ys : List Int) : markT (xs ++ ys) = markT xs * 257 ^ ys.length + markT ys := by
  have key : ∀ (ys : List Int) (a : Int), ys.foldl (fun m x => m * 257 + x + 1) a = a * 257 ^ ys.length + ys.foldl (fun m x => m * 257 + x + 1) 0 := by
    intro ys
    induction ys with
    | nil => intro a; simp
    | cons y ys ih =>
      intro a
      simp only [List.foldl_cons, List.length_cons]
      rw [ih (a * 257 + y + 1), ih (0 * 257 + y + 1), Int.pow_succ, show a * 257 + y + 1 = a * 257 + (0 * 257 + y + 1) by omega, Int.add_mul, Int.mul_assoc, Int.mul_comm 257, Int.add_assoc]
  unfold markT
  rw [List.foldl_append, key ys]
theorem markF_lt (xs : List Int) : 0 ≤ markF xs ∧ markF xs < 2147483647 := by
  rw [← markT_F]
  exact ⟨Int.emod_nonneg _ (by decide), Int.emod_lt_of_pos _ (by decide)⟩
theorem markF_app (xs ys : List Int) : (markF xs * powF ys.length + markF ys) % 2147483647 = markF (xs ++ ys) := by
  rw [← markT_F (xs ++ ys), markT_app, ← markT_F xs, ← markT_F ys]
  unfold powF
  rw [Int.add_emod, ← Int.mul_emod, Int.emod_emod_of_dvd _ (Int.dvd_refl _), ← Int.add_emod]
theorem run_mark_joined {xs ys : List Int} {L : Int} (h : G.fns i_mark_joined = some f_mark_joined) (hp : G.fns i_power = some f_power) (h0 : G.consts 0 = some (.int 2147483647)) (h1 : G.consts 1 = some (.int 257))
    (hL : L = ys.length) (hl : L < 1000000000) : run G (k + 2) i_mark_joined [.int (markF xs), .int (markF ys), .int L] S = .ok (.int (markF (xs ++ ys))) S := by
  rw [run_pure h rfl (as' := [.int (markF xs), .int (markF ys), .int L]) rfl]
  refine fin_ret (S' := []) ?_ rfl
  have hw := fun S => run_power (k := k) (S := S) (n := ys.length) hp h0 h1 (by omega)
  rw [← hL] at hw
  have s1 : small (markF xs) = true := by have := markF_lt xs; exact small_of (by omega) (by omega)
  have e := markF_app xs ys
  generalize markF (xs ++ ys) = R at e ⊢
  generalize powF ys.length = q at hw e
  generalize markF xs = a at s1 e ⊢
  generalize markF ys = b at e ⊢
  simp [b_mark_joined, startE, ev, hw, s1, h0, e]
end
end PL
namespace PL
open PySem
abbrev i_law_k04 : Nat := 10
/-- law_k04: _script 0 _cell 1 _more 2 _some 3 _mark 4 _at 5 _new 6 -/
def b_law_k04 : T := (.for_ .zip (.cons (.sl (.var 0) .emp (.con (.int 6))) (.cons (.sl (.var 0) (.con (.int 1)) (.con (.int 7))) .nil)) (.many [1, 2])
  (.asg 3 (.call i_l_bytes (.cons (.var 1) (.cons (.bin .add (.bin .mod (.var 2) (.con (.int 60))) (.con (.int 1))) .nil)))
  (.asg 4 (.call i_mark_of (.cons (.var 3) .nil))
  (.for_ .rng1 (.cons (.bf .len (.cons (.var 3) .nil)) .nil) (.one 5)
  (.asg 6 (.bin .mod (.bin .add (.bin .add (.ix (.var 3) (.var 5)) (.con (.int 1))) (.bin .mod (.bin .add (.bin .fdiv (.var 1) (.con (.int 3))) (.bin .mul (.var 5) (.bin .mod (.var 2) (.con (.int 97))))) (.con (.int 255)))) (.con (.int 256)))
  (.ifs (.cmp .eq (.call i_mark_of (.cons (.bin .add (.bin .add (.sl (.var 3) .emp (.var 5)) (.tup (.cons (.var 6) .nil))) (.sl (.var 3) (.bin .add (.var 5) (.con (.int 1))) .emp)) .nil)) (.var 4))
  (.ret (.con (.bl false)))
  .nil
  (.ifs (.and (.cmp .gt (.var 5) (.con (.int 0))) (.one (.cmp .ne (.ix (.var 3) (.bin .sub (.var 5) (.con (.int 1)))) (.ix (.var 3) (.var 5)))))
  (.ifs (.cmp .eq (.call i_mark_of (.cons (.bin .add (.bin .add (.sl (.var 3) .emp (.bin .sub (.var 5) (.con (.int 1)))) (.tup (.cons (.ix (.var 3) (.var 5)) (.cons (.ix (.var 3) (.bin .sub (.var 5) (.con (.int 1)))) .nil)))) (.sl (.var 3) (.bin .add (.var 5) (.con (.int 1))) .emp)) .nil)) (.var 4))
  (.ret (.con (.bl false)))
  .nil
  .nil)
  .nil
  .nil)))
  .nil)))
  (.ret (.con (.bl true))))
def f_law_k04 : Fn := ⟨true, 1, 7, b_law_k04⟩
def Gt : Tab := ⟨lookN [(i_mark_of, f_mark_of), (i_l_d, f_l_d), (i_l_bytes, f_l_bytes), (i_law_k04, f_law_k04)], lookN [(0, (.int 2147483647)), (1, (.int 257))], fun _ _ => none, fun _ => none⟩
abbrev LI : Nat := i_law_k04
abbrev KK : Nat := 12
end PL
namespace PL
open PySem
theorem bytesF_len (c : Int) (n : Nat) : (bytesF c n).length = n := by simp [bytesF]
theorem bytesF_rng (c : Int) (n : Nat) : ∀ x ∈ bytesF c n, 0 ≤ x ∧ x < 256 := by
  intro x hx
  obtain ⟨j, _, rfl⟩ := List.mem_map.mp hx
  exact ⟨Int.emod_nonneg _ (by decide), Int.emod_lt_of_pos _ (by decide)⟩
theorem markS_rng (m x : Int) : 0 ≤ markS m x ∧ markS m x < 2147483647 := ⟨Int.emod_nonneg _ (by decide), Int.emod_lt_of_pos _ (by decide)⟩
theorem foldM_inj : ∀ (zs : List Int) (a b : Int), 0 ≤ a ∧ a < 2147483647 → 0 ≤ b ∧ b < 2147483647 → zs.foldl markS a = zs.foldl markS b → a = b := by
  intro zs
  induction zs with
  | nil => intro a b _ _ e; exact e
  | cons z zs ih =>
    intro a b ha hb e
    have := ih _ _ (markS_rng a z) (markS_rng b z) e
    unfold markS at this
    omega
theorem markF_ne1 {P Q : List Int} {x y : Int} (hx : 0 ≤ x ∧ x < 256) (hy : 0 ≤ y ∧ y < 256) (h : x ≠ y) : markF (P ++ [x] ++ Q) ≠ markF (P ++ [y] ++ Q) := by
  intro e
  unfold markF at e
  simp only [List.foldl_append] at e
  have := foldM_inj _ _ _ (markS_rng _ x) (markS_rng _ y) e
  generalize List.foldl markS 0 P = m at this
  unfold markS at this
  omega
theorem markF_ne2 {P Q : List Int} {x y : Int} (hx : 0 ≤ x ∧ x < 256) (hy : 0 ≤ y ∧ y < 256) (h : x ≠ y) : markF (P ++ [x, y] ++ Q) ≠ markF (P ++ [y, x] ++ Q) := by
  intro e
  unfold markF at e
  simp only [List.foldl_append] at e
  have := foldM_inj _ _ _ (markS_rng _ y) (markS_rng _ x) e
  generalize List.foldl markS 0 P = m at this
  unfold markS at this
  omega
theorem split1 {xs : List Int} {i : Nat} (h : i < xs.length) : xs = xs.take i ++ [xs.getD i 0] ++ xs.drop (i + 1) := by
  rw [List.getD_eq_getElem?_getD, List.getElem?_eq_getElem h, List.append_assoc]
  show xs = xs.take i ++ (xs[i] :: xs.drop (i + 1))
  rw [← List.drop_eq_getElem_cons h, List.take_append_drop]
theorem split2 {xs : List Int} {i : Nat} (h : i + 1 < xs.length) : xs = xs.take i ++ [xs.getD i 0, xs.getD (i + 1) 0] ++ xs.drop (i + 2) := by
  rw [List.getD_eq_getElem?_getD, List.getD_eq_getElem?_getD, List.getElem?_eq_getElem h, List.getElem?_eq_getElem (by omega), List.append_assoc]
  show xs = xs.take i ++ (xs[i] :: xs[i + 1] :: xs.drop (i + 2))
  rw [← List.drop_eq_getElem_cons h, ← List.drop_eq_getElem_cons (by omega), List.take_append_drop]
section
variable {k : Nat}
theorem bop_add_tup2 {xs : List Int} {a b : Int} {S : Store} (h : xs.length + 2 ≤ SZ) : bop .add (.tup (xs.map .int)) (.tup [.int a, .int b]) S = some (.tup ((xs ++ [a, b]).map .int)) := by
  have e : (xs.map D.int).length + [D.int a, .int b].length ≤ SZ := by rw [List.length_map]; exact h
  rw [bop_add_tup e, List.map_append]
  rfl
abbrev J04 (ns : List Int) (env : Env) : Prop := ∃ t0 t1 t2 t3 t4 t5 : Option D, env = [some (.scr ns), t0, t1, t2, t3, t4, t5]
abbrev I04 (ns xs : List Int) (c m : Int) (env : Env) : Prop := ∃ t4 t5 : Option D, env = [some (.scr ns), some (.int c), some (.int m), some (tupI xs), some (.int (markF xs)), t4, t5]
theorem in_turn {ns xs : List Int} {c m A : Int} {env : Env} (hr : ∀ x ∈ xs, 0 ≤ x ∧ x < 256) (hx : xs.length ≤ 1000) (h0 : 0 ≤ A) (h1 : A < xs.length) (hj : I04 ns xs c m env) : NxJ (I04 ns xs c m) [] (turnB Gt (run Gt (k + 1)) (forB (forB b_law_k04)) (.one 5) (.int A) env []) := by
  obtain ⟨t4, t5, rfl⟩ := hj
  have hlen : ∀ S, bfD .len [.tup (xs.map .int)] S = some (.int (xs.length : Int)) := fun S => by rw [bf_len_tup, List.length_map]
  obtain ⟨L, hL⟩ : ∃ L : Int, L = (xs.length : Int) := ⟨_, rfl⟩
  rw [← hL] at hlen
  have s1 : small A = true := small_of (by omega) (by omega)
  have rm := fun xs S => run_mark_of (G := Gt) (k := k) (S := S) (xs := xs) rfl rfl rfl
  have hi : A.toNat < xs.length := by omega
  have gr : ∀ i < xs.length, 0 ≤ xs.getD i 0 ∧ xs.getD i 0 < 256 := fun i h => hr _ (by rw [List.getD_eq_getElem?_getD, List.getElem?_eq_getElem h]; exact List.getElem_mem h)
  have i1 := fun S => ix_int (S := S) (xs := xs) h0 h1
  have e1 := fun S => sl_to (S := S) (xs := xs) (v := A) h0 (by omega)
  have e2 := fun S => sl_from (S := S) (xs := xs) (v := A + 1) (by omega) (by omega)
  have hn : (A + 1).toNat = A.toNat + 1 := by omega
  rw [hn] at e2
  have g1 := gr _ hi
  have sp := split1 hi
  generalize hN : (xs.getD A.toNat 0 + 1 + (c / 3 + A * (m % 97)) % 255) % 256 = N
  have n0 : 0 ≤ N ∧ N < 256 := by omega
  have nn : xs.getD A.toNat 0 ≠ N := by omega
  have z1 : (xs.take A.toNat).length + 1 ≤ SZ := by rw [List.length_take]; unfold SZ; omega
  have z2 : (xs.take A.toNat ++ [N]).length + (xs.drop (A.toNat + 1)).length ≤ SZ := by rw [List.length_append, List.length_take, List.length_drop, List.length_singleton]; unfold SZ; omega
  have w1 := fun S => bop_add_tupI (S := S) (y := N) z1
  have w2 := fun S => bop_add_tupII (S := S) z2
  have ne1 : ¬ markF (xs.take A.toNat ++ [N] ++ xs.drop (A.toNat + 1)) = markF xs := by
    intro e
    refine markF_ne1 (P := xs.take A.toNat) (Q := xs.drop (A.toNat + 1)) g1 n0 nn ?_
    rw [e, ← sp]
  generalize xs.take A.toNat ++ [N] ++ xs.drop (A.toNat + 1) = M1 at *
  generalize xs.take A.toNat ++ [N] = M0 at *
  by_cases ha : 0 < A
  · have i2 := fun S => ix_int (S := S) (xs := xs) (i := A - 1) (by omega) (by omega)
    have e3 := fun S => sl_to (S := S) (xs := xs) (v := A - 1) (by omega) (by omega)
    obtain ⟨j, hj⟩ : ∃ j : Nat, A.toNat = j + 1 := ⟨A.toNat - 1, by omega⟩
    have hj' : (A - 1).toNat = j := by omega
    rw [hj'] at i2 e3
    have g2 := gr j (by omega)
    have sp2 := split2 (xs := xs) (i := j) (by omega)
    rw [← hj] at sp2
    rw [show j + 2 = A.toNat + 1 by omega] at sp2
    generalize xs.getD A.toNat 0 = x at *
    generalize xs.getD j 0 = y at *
    have z3 : (xs.take j).length + 2 ≤ SZ := by rw [List.length_take]; unfold SZ; omega
    have z4 : (xs.take j ++ [x, y]).length + (xs.drop (A.toNat + 1)).length ≤ SZ := by
      rw [List.length_append, List.length_take, List.length_drop]
      show min j xs.length + 2 + (xs.length - (A.toNat + 1)) ≤ SZ
      unfold SZ; omega
    have w3 := fun S => bop_add_tup2 (S := S) (a := x) (b := y) z3
    have w4 := fun S => bop_add_tupII (S := S) z4
    have ne2 : ¬ y = x → ¬ markF (xs.take j ++ [x, y] ++ xs.drop (A.toNat + 1)) = markF xs := by
      intro hxy e
      refine markF_ne2 (P := xs.take j) (Q := xs.drop (A.toNat + 1)) g2 g1 hxy ?_
      rw [e, ← sp2]
    clear sp2 z1 z2 z3 z4
    generalize xs.take j ++ [x, y] ++ xs.drop (A.toNat + 1) = M3 at *
    generalize xs.take j ++ [x, y] = M2 at *
    generalize xs.take j = X2 at *
    clear sp
    generalize xs.take A.toNat = X1 at *
    generalize xs.drop (A.toNat + 1) = X3 at *
    by_cases hxy : y = x
    · simp [turnB, b_law_k04, forB, ev, isEmp, part, hlen, i1, i2, e1, e2, s1, hN, w1, w2, ne1, rm, ha, hxy, -List.map_append, -List.map_take, -List.map_drop]
      exact ⟨_, rfl, _, _, rfl⟩
    · have ne2 := ne2 hxy
      simp [turnB, b_law_k04, forB, ev, isEmp, part, hlen, i1, i2, e1, e2, e3, s1, hN, w1, w2, w3, w4, ne1, ne2, rm, ha, hxy, -List.map_append, -List.map_take, -List.map_drop]
      exact ⟨_, rfl, _, _, rfl⟩
  · generalize xs.getD A.toNat 0 = x at *
    clear sp z1 z2
    generalize xs.take A.toNat = X1 at *
    generalize xs.drop (A.toNat + 1) = X3 at *
    simp [turnB, b_law_k04, forB, ev, isEmp, part, hlen, i1, e1, e2, s1, hN, w1, w2, ne1, rm, ha, -List.map_append, -List.map_take, -List.map_drop]
    exact ⟨_, rfl, _, _, rfl⟩
abbrev a60 : E := .bin .add (.bin .mod (.var 2) (.con (.int 60))) (.con (.int 1))
theorem arg60 {m : Int} {call : Calls} {x0 x1 x3 x4 x5 x6 : Option D} {S : Store} : ev Gt call a60 [x0, x1, some (.int m), x3, x4, x5, x6] S = .ok (.int (m % 60 + 1)) S := by
  have h : bop .mod (.int m) (.int 60) S = some (.int (m % 60)) := bop_mod_int (by decide)
  show ((R.of (bop .mod (.int m) (.int 60) S) S).bind fun x S => (R.ok (D.int 1) S).bind fun y S => R.of (bop .add x y S) S) = _
  rw [h]
  rfl
theorem call60 {c m : Int} {xs : List Int} {call : Calls} {x0 x3 x4 x5 x6 : Option D} {S : Store} (hb : call i_l_bytes [.int c, .int (m % 60 + 1)] S = .ok (tupI xs) S) : ev Gt call (.call i_l_bytes (.cons (.var 1) (.cons a60 .nil))) [x0, some (.int c), some (.int m), x3, x4, x5, x6] S = .ok (tupI xs) S := by
  have e : ev Gt call (.cons (.var 1) (.cons a60 .nil)) [x0, some (.int c), some (.int m), x3, x4, x5, x6] S = .ok (.tup [.int c, .int (m % 60 + 1)]) S := by
    show ((R.ok (D.int c) S).bind fun x S => ((ev Gt call a60 [x0, some (.int c), some (.int m), x3, x4, x5, x6] S).bind fun y S => (R.ok (D.tup []) S).bind fun xs S => R.ok (D.tup (y :: toTup xs)) S).bind fun xs S => R.ok (D.tup (x :: toTup xs)) S) = _
    rw [R.bind_ok, arg60]
    rfl
  show ((ev Gt call (.cons (.var 1) (.cons a60 .nil)) [x0, some (.int c), some (.int m), x3, x4, x5, x6] S).bind fun xs S => call i_l_bytes (toTup xs) S) = _
  rw [e]
  exact hb
theorem law_turn {ns : List Int} {c m : Int} {env : Env} (hj : J04 ns env) : NxJ (J04 ns) [] (turnB Gt (run Gt (k + 3)) (forB b_law_k04) (.many [1, 2]) (.tup [.int c, .int m]) env []) := by
  obtain ⟨t0, t1, t2, t3, t4, t5, rfl⟩ := hj
  have h0 : 0 ≤ m % 60 := Int.emod_nonneg _ (by decide)
  have h1 : m % 60 < 60 := Int.emod_lt_of_pos _ (by decide)
  have n0 : 0 ≤ m % 60 + 1 := by omega
  have n1 : m % 60 + 1 ≤ 1000 := by omega
  have rb : ∀ S, run Gt (k + 3) i_l_bytes [.int c, .int (m % 60 + 1)] S = _ := fun S => run_l_bytes (G := Gt) (k := k + 1) (S := S) (c := c) (n := m % 60 + 1) rfl rfl n0 n1
  have rm : ∀ xs S, run Gt (k + 3) i_mark_of [tupI xs] S = _ := fun xs S => run_mark_of (G := Gt) (k := k + 2) (S := S) (xs := xs) rfl rfl rfl
  have hr := bytesF_rng c (m % 60 + 1).toNat
  have hx0 : (bytesF c (m % 60 + 1).toNat).length ≤ 1000 := by rw [bytesF_len]; omega
  generalize bytesF c (m % 60 + 1).toNat = xs at *
  have hlen : ∀ S, bfD .len [.tup (xs.map .int)] S = some (.int (xs.length : Int)) := fun S => by rw [bf_len_tup, List.length_map]
  obtain ⟨L, hL⟩ : ∃ L : Int, L = (xs.length : Int) := ⟨_, rfl⟩
  rw [← hL] at hlen
  have hb : b62 L = true := b62_of (by omega) (by omega)
  have F : forB b_law_k04 = .asg 3 (.call i_l_bytes (.cons (.var 1) (.cons a60 .nil))) (.asg 4 (.call i_mark_of (.cons (.var 3) .nil)) (.for_ .rng1 (.cons (.bf .len (.cons (.var 3) .nil)) .nil) (.one 5) (forB (forB b_law_k04)) .nil)) := rfl
  have E : turnB Gt (run Gt (k + 3)) (forB b_law_k04) (.many [1, 2]) (.tup [.int c, .int m]) [some (.scr ns), t0, t1, t2, t3, t4, t5] [] = exT Gt (run Gt (k + 3)) (forB b_law_k04) [some (.scr ns), some (.int c), some (.int m), t2, t3, t4, t5] [] := rfl
  have e1 := call60 (m := m) (xs := xs) (call := run Gt (k + 3)) (x0 := some (.scr ns)) (x3 := t2) (x4 := t3) (x5 := t4) (x6 := t5) (rb [])
  have e2 : ev Gt (run Gt (k + 3)) (.call i_mark_of (.cons (.var 3) .nil)) [some (.scr ns), some (.int c), some (.int m), some (tupI xs), t3, t4, t5] [] = .ok (.int (markF xs)) [] := rm xs []
  rw [E, F, x_asg, e1, R.stm_ok, x_asg]
  show NxJ (J04 ns) [] ((ev Gt (run Gt (k + 3)) (.call i_mark_of (.cons (.var 3) .nil)) [some (.scr ns), some (.int c), some (.int m), some (tupI xs), t3, t4, t5] []).stm _ _)
  rw [e2, R.stm_ok]
  show NxJ (J04 ns) [] (exT Gt (run Gt (k + 3)) _ [some (.scr ns), some (.int c), some (.int m), some (tupI xs), some (.int (markF xs)), t4, t5] [])
  refine x_forJ (P := NxJ (J04 ns) []) (J := I04 ns xs c m) (xs := (List.range L.toNat).map fun (k : Nat) => .int k) (d := .tup [.int L]) ?_ ?_ ⟨_, _, rfl⟩ (fun x hx env w => ?_) (fun env w => ?_)
  · simp [ev, hlen]
  · rw [srcL_rng1, toTup_tup, mkIt_rng1 hb, rngD_map]
  · obtain ⟨j, hj, rfl⟩ := List.mem_map.mp hx
    rw [List.mem_range] at hj
    obtain ⟨A, hA⟩ : ∃ A : Int, A = ((j : Nat) : Int) := ⟨_, rfl⟩
    have a0 : 0 ≤ A := by omega
    have a1 : A < xs.length := by omega
    rw [← hA]
    clear hA hj hx hL
    exact in_turn (k := k + 2) hr hx0 a0 a1 w
  · obtain ⟨t4, t5, rfl⟩ := w
    simp
    exact ⟨_, rfl, _, _, _, _, _, _, rfl⟩
end
theorem law_true : ∀ ns : List Int, ns.length ≤ 63 → run Gt KK LI [.scr ns] [] = .ok (.bl true) [] := by
  intro ns hn
  have hc : ∀ lo hi, cutD (ns.map D.int) lo hi = (cutD ns lo hi).map D.int := fun lo hi => by simp [cutD]
  rw [show KK = 8 + 3 + 1 from rfl, run_pure rfl rfl (as' := [.scr ns]) rfl]
  refine fin_ret (S' := []) ?_ rfl
  refine x_forJ (P := fun r => r = .rt (.bl true) []) (J := J04 ns) (xs := ((cutD ns none (some 6)).zip (cutD ns (some 1) (some 7))).map fun p => .tup [.int p.1, .int p.2])
    (d := .tup [.lst (cutD (ns.map .int) none (some 6)), .lst (cutD (ns.map .int) (some 1) (some 7))]) ?_ ?_ ⟨_, _, _, _, _, _, rfl⟩ (fun x hx env w => ?_) (fun env w => ?_)
  · simp [startE, ev, isEmp, slD, part]
  · rw [hc, hc, srcL_zip, toTup_tup, mkIt_zipL, List.zipWith_map, List.zip, List.map_zipWith]
  · obtain ⟨p, _, rfl⟩ := List.mem_map.mp hx
    exact law_turn w
  · obtain ⟨t0, t1, t2, t3, t4, t5, rfl⟩ := w
    simp [ev]
end PL
namespace PL
open PySem PySem.Spec PyProof.Rows L2
def topS (i : Nat) : Stmt := PySem.Challenge.pw_piecehaul_k04_whole_damage_has_another_m.main.body.getD i (.Pass ⟨0, 0, 0, 0⟩)
def Yt : Sx := ⟨lookN ([(i_mark_of, "mark_of"), (i_l_d, "_law_d"), (i_l_bytes, "_law_bytes"), (i_law_k04, "law")] : List (Nat × Str)), lookN ([(0, "PRIME"), (1, "BASE")] : List (Nat × Str)), ["range", "zip", "len"], [], [], [], []⟩
def nmt : Nm := ⟨fun _ => 0, fun _ => "", fun _ => 0⟩
def pst (i : Nat) : List Str := (lookN ([(i_mark_of, ["some"]), (i_l_d, ["_law_cell", "_law_place", "_law_many"]), (i_l_bytes, ["_law_cell", "_law_many"]), (i_law_k04, ["_law_script"])] : List (Nat × List Str)) i).getD []
abbrev s0 : Stmt := topS 3
def n0 : List Str := ["some", "mark", "one"]
theorem c0 : chkS Yt n0 (defScope s0) b_mark_of (defBody s0) = true := by decide +kernel
theorem z0 : FnScope n0 (pst i_mark_of) (defScope s0) := ⟨rfl, rfl, rfl, by decide +kernel, rfl, by decide +kernel, by decide +kernel⟩
abbrev s1 : Stmt := topS 5
def n1 : List Str := ["_law_cell", "_law_place", "_law_many", "_law_number"]
theorem c1 : chkS Yt n1 (defScope s1) b_l_d (defBody s1) = true := by decide +kernel
theorem z1 : FnScope n1 (pst i_l_d) (defScope s1) := ⟨rfl, rfl, rfl, by decide +kernel, rfl, by decide +kernel, by decide +kernel⟩
abbrev s2 : Stmt := topS 6
def n2 : List Str := ["_law_cell", "_law_many", "_law_found", "_law_k", "_law_one"]
theorem c2 : chkS Yt n2 (defScope s2) b_l_bytes (defBody s2) = true := by decide +kernel
theorem z2 : FnScope n2 (pst i_l_bytes) (defScope s2) := ⟨rfl, rfl, rfl, by decide +kernel, rfl, by decide +kernel, by decide +kernel⟩
abbrev s3 : Stmt := topS 7
def n3 : List Str := ["_law_script", "_law_cell", "_law_more", "_law_some", "_law_mark", "_law_at", "_law_new"]
theorem c3 : chkS Yt n3 (defScope s3) b_law_k04 (defBody s3) = true := by decide +kernel
theorem z3 : FnScope n3 (pst i_law_k04) (defScope s3) := ⟨rfl, rfl, rfl, by decide +kernel, rfl, by decide +kernel, by decide +kernel⟩
theorem all_mk {l : PySem.W.OpenLaw} {w : World} {K : PySem.W.Frag} {h : Heap} {mg : Str → Option Value} {fa : Addr} (X : K.In h) (Ns : h.Ns mainGlobals mg) (hfa : mg "law" = some (.ref fa))
    {f0 : Addr} {od0 an0 : Option Addr} {sl0 : Array (Option Value)} {oc0 kV0 dc0 pm0 cd0 ct0 : Value}
    {f1 : Addr} {od1 an1 : Option Addr} {sl1 : Array (Option Value)} {oc1 kV1 dc1 pm1 cd1 ct1 : Value}
    {f2 : Addr} {od2 an2 : Option Addr} {sl2 : Array (Option Value)} {oc2 kV2 dc2 pm2 cd2 ct2 : Value}
    {f3 : Addr} {od3 an3 : Option Addr} {sl3 : Array (Option Value)} {oc3 kV3 dc3 pm3 cd3 ct3 : Value}
    {t0 : Tok}
    {t1 : Tok}
    (a0 : PySem.W.nsIn K mainGlobals "mark_of" = some (some (.ref f0))) (l0 : K.lookup f0 = some ⟨oc0, od0, .func (PySem.W.fnOf "mark_of" "mark_of" (defArgs s0) (defBody s0) (defScope s0) .none kV0 dc0 pm0 an0 cd0 ct0), sl0⟩) (cc0 : PySem.W.codeIn K cd0 "mark_of" = true) (k0 : PySem.W.keepIn K (.ref f0) = true)
    (a1 : PySem.W.nsIn K mainGlobals "_law_d" = some (some (.ref f1))) (l1 : K.lookup f1 = some ⟨oc1, od1, .func (PySem.W.fnOf "_law_d" "_law_d" (defArgs s1) (defBody s1) (defScope s1) .none kV1 dc1 pm1 an1 cd1 ct1), sl1⟩) (cc1 : PySem.W.codeIn K cd1 "_law_d" = true) (k1 : PySem.W.keepIn K (.ref f1) = true)
    (a2 : PySem.W.nsIn K mainGlobals "_law_bytes" = some (some (.ref f2))) (l2 : K.lookup f2 = some ⟨oc2, od2, .func (PySem.W.fnOf "_law_bytes" "_law_bytes" (defArgs s2) (defBody s2) (defScope s2) .none kV2 dc2 pm2 an2 cd2 ct2), sl2⟩) (cc2 : PySem.W.codeIn K cd2 "_law_bytes" = true) (k2 : PySem.W.keepIn K (.ref f2) = true)
    (a3 : PySem.W.nsIn K mainGlobals "law" = some (some (.ref f3))) (l3 : K.lookup f3 = some ⟨oc3, od3, .func (PySem.W.fnOf "law" "law" (defArgs s3) (defBody s3) (defScope s3) .none kV3 dc3 pm3 an3 cd3 ct3), sl3⟩) (cc3 : PySem.W.codeIn K cd3 "law" = true) (k3 : PySem.W.keepIn K (.ref f3) = true)
    (p0 : PySem.W.nsIn K mainGlobals "PRIME" = some (some (.int 2147483647 t0)))
    (p1 : PySem.W.nsIn K mainGlobals "BASE" = some (some (.int 257 t1)))
    (y0 : PySem.W.nsIn K mainGlobals "range" = some none)
    (y1 : PySem.W.nsIn K mainGlobals "zip" = some none)
    (y2 : PySem.W.nsIn K mainGlobals "len" = some none)
    (hl : ∀ ns : List Int, ns.length ≤ 63 → run Gt KK LI [.scr ns] [] = .ok (.bl true) []) :
    ∃ fd : FuncData, (∀ (s : Shared) (v : Value), BindsTo s fd ⟨[v], []⟩ [("_law_script", v)]) ∧ ∀ base : Heap, K.In base → base.Ns mainGlobals mg → FnOk l.prog w K mg base (L2.CX l.prog w) (2 * KK) fa fd ["_law_script"] (spL K) := by
  have efa : fa = f3 := by
    injection hfa.symm.trans (PySem.W.mg_of X Ns a3) with e
    injection e
  rw [efa]
  have F0 := fun_mk (st := s0) l0 cc0 k0
  have F1 := fun_mk (st := s1) l1 cc1 k1
  have F2 := fun_mk (st := s2) l2 cc2 k2
  have F3 := fun_mk (st := s3) l3 cc3 k3
  let fas : Nat → Addr := fun i => (lookN ([(i_mark_of, f0), (i_l_d, f1), (i_l_bytes, f2), (i_law_k04, f3)] : List (Nat × Addr)) i).getD 0
  let fds : Nat → FuncData := fun i => (lookN ([(i_mark_of, PySem.W.fnOf "mark_of" "mark_of" (defArgs s0) (defBody s0) (defScope s0) .none kV0 dc0 pm0 an0 cd0 ct0), (i_l_d, PySem.W.fnOf "_law_d" "_law_d" (defArgs s1) (defBody s1) (defScope s1) .none kV1 dc1 pm1 an1 cd1 ct1), (i_l_bytes, PySem.W.fnOf "_law_bytes" "_law_bytes" (defArgs s2) (defBody s2) (defScope s2) .none kV2 dc2 pm2 an2 cd2 ct2), (i_law_k04, PySem.W.fnOf "law" "law" (defArgs s3) (defBody s3) (defScope s3) .none kV3 dc3 pm3 an3 cd3 ct3)] : List (Nat × FuncData)) i).getD (PySem.W.fnOf "mark_of" "mark_of" (defArgs s0) (defBody s0) (defScope s0) .none kV0 dc0 pm0 an0 cd0 ct0)
  have g : GOk K mg Gt Yt nmt fas fds pst := by
    refine ⟨fun j x h => ?_, fun j x h => ?_, fun j h => ?_, fun x h => ?_⟩
    · have h := lookN_mem h
      simp only [List.mem_cons, List.not_mem_nil, or_false, Prod.mk.injEq] at h
      rcases h with ⟨rfl, rfl⟩ | ⟨rfl, rfl⟩
      · exact ⟨_, _, V.int 2147483647, rfl, PySem.W.mg_of X Ns p0, ⟨_, rfl⟩, rep_int K _⟩
      · exact ⟨_, _, V.int 257, rfl, PySem.W.mg_of X Ns p1, ⟨_, rfl⟩, rep_int K _⟩
    · have h := lookN_mem h
      simp only [List.mem_cons, List.not_mem_nil, or_false, Prod.mk.injEq] at h
      rcases h with ⟨rfl, rfl⟩ | ⟨rfl, rfl⟩ | ⟨rfl, rfl⟩ | ⟨rfl, rfl⟩
      · exact ⟨rfl, PySem.W.mg_of X Ns a0, k0⟩
      · exact ⟨rfl, PySem.W.mg_of X Ns a1, k1⟩
      · exact ⟨rfl, PySem.W.mg_of X Ns a2, k2⟩
      · exact ⟨rfl, PySem.W.mg_of X Ns a3, k3⟩
    · obtain ⟨F, h⟩ := Option.isSome_iff_exists.mp h
      have h := lookN_mem h
      simp only [List.mem_cons, List.not_mem_nil, or_false, Prod.mk.injEq] at h
      rcases h with ⟨rfl, rfl⟩ | ⟨rfl, rfl⟩ | ⟨rfl, rfl⟩ | ⟨rfl, rfl⟩
      · exact F0.binds (ps := pst i_mark_of) fun _ _ _ _ _ _ us hl => match us, hl with | [_], _ => rfl
      · exact F1.binds (ps := pst i_l_d) fun _ _ _ _ _ _ us hl => match us, hl with | [_, _, _], _ => rfl
      · exact F2.binds (ps := pst i_l_bytes) fun _ _ _ _ _ _ us hl => match us, hl with | [_, _], _ => rfl
      · exact F3.binds (ps := pst i_law_k04) fun _ _ _ _ _ _ us hl => match us, hl with | [_], _ => rfl
    · simp only [Yt, List.mem_cons, List.not_mem_nil, or_false] at h
      rcases h with rfl | rfl | rfl
      · exact PySem.W.mg_none_of X Ns y0
      · exact PySem.W.mg_none_of X Ns y1
      · exact PySem.W.mg_none_of X Ns y2
  have O : ∀ f : Nat, (Gt.fns f).isSome = true → FOk K Gt Yt f (fas f) (fds f) (pst f) := fun f h => by
    obtain ⟨F, h⟩ := Option.isSome_iff_exists.mp h
    have h := lookN_mem h
    simp only [List.mem_cons, List.not_mem_nil, or_false, Prod.mk.injEq] at h
    rcases h with ⟨rfl, rfl⟩ | ⟨rfl, rfl⟩ | ⟨rfl, rfl⟩ | ⟨rfl, rfl⟩
    · exact ⟨⟨_, _, s0, n0, _, rfl, F0, z0, rfl, rfl, c0⟩⟩
    · exact ⟨⟨_, _, s1, n1, _, rfl, F1, z1, rfl, rfl, c1⟩⟩
    · exact ⟨⟨_, _, s2, n2, _, rfl, F2, z2, rfl, rfl, c2⟩⟩
    · exact ⟨⟨_, _, s3, n3, _, rfl, F3, z3, rfl, rfl, c3⟩⟩
  exact ⟨_, fun s v => .of_eq rfl, fun base _ _ => law_fn (fn_all (P := l.prog) (w := w) (base := base) g O KK LI rfl) hl⟩
end PL
open PySem PySem.W PyProof.Rows
set_option maxRecDepth 100000 in
set_option maxHeartbeats 0 in
theorem PySem.Challenge.cw_piecehaul_k04_whole_damage_has_another_m_holds : PySem.Challenge.rw_piecehaul_k04_whole_damage_has_another_m.Holds := by
  w_on; o_law; k_head; (case hw => w_witness2)
  k_fill
  refine PL.law_walk (l := PySem.Challenge.rw_piecehaul_k04_whole_damage_has_another_m) (x := "_law_script") (k := 2 * 12) rfl rfl ⟨rfl, by decide, by decide⟩ (fun w h Y => PySem.W.kIn_of Y) ?F
  case F =>
    intro w mg fa h KX Ns hmg
    refine' PL.all_mk KX Ns hmg ?a0 ?l0 ?cc0 ?k0 ?a1 ?l1 ?cc1 ?k1 ?a2 ?l2 ?cc2 ?k2 ?a3 ?l3 ?cc3 ?k3 ?p0 ?p1 ?y0 ?y1 ?y2 PL.law_true
    (case a0 => k_is)
    (case l0 => k_is)
    (case cc0 => k_is)
    (case k0 => k_is)
    (case a1 => k_is)
    (case l1 => k_is)
    (case cc1 => k_is)
    (case k1 => k_is)
    (case a2 => k_is)
    (case l2 => k_is)
    (case cc2 => k_is)
    (case k2 => k_is)
    (case a3 => k_is)
    (case l3 => k_is)
    (case cc3 => k_is)
    (case k3 => k_is)
    (case p0 => k_is)
    (case p1 => k_is)
    (case y0 => k_is)
    (case y1 => k_is)
    (case y2 => k_is)

