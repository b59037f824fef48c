import PyProof.Rows.All
import HandS.List
import HandS.Comp
import HandS.ForMost
import HandS.ForExc
import HandS.Flow
import HandS.Style
import HandS.TupAny
import HandS.TupMul
import HandS.TupLe
import HandS.Deep
import HandS.IsInst
import HandS.Small
import HandS.Conv
import KE.SortData
import HandS.TupLen
import HandS.Flt
import KE.KDictCopyH
import KE.KDictSum
import HandS.More
import HandS.CallSlots
import PyProof.SliceStr2
import HandS.Iter
import HandS.Zip
import KE.GoesEnum
import HandS.TryOnly
import HandS.ExcOwn
import HandS.WordsExc
import PySem.Challenge.RW_headways_k15_whole_steps_done
set_option Elab.async false
set_option linter.all false
set_option maxRecDepth 100000
/-! The pure interpreter: values, store, clean syntax, semantics. -/
namespace HW
open PySem

inductive D where
  | non
  | bl (b : Bool)
  | int (i : Int)
  | str (x : List Nat)
  | tup (ds : List D)
  | lst (ds : List D)
  | ref (n : Nat)
  deriving Inhabited

mutual
/-- equality of data -/
def D.eq : D → D → Bool
  | .non, .non => true
  | .bl a, .bl b => a == b
  | .int a, .int b => a == b
  | .str a, .str b => a == b
  | .tup a, .tup b => D.eqL a b
  | .lst a, .lst b => D.eqL a b
  | .ref a, .ref b => a == b
  | _, _ => false
def D.eqL : List D → List D → Bool
  | [], [] => true
  | a :: as, b :: bs => D.eq a b && D.eqL as bs
  | _, _ => false
end

mutual
theorem D.eq_iff : ∀ a b : D, D.eq a b = true ↔ a = b
  | .non, b => by cases b <;> simp [D.eq]
  | .bl _, b => by cases b <;> simp [D.eq]
  | .int _, b => by cases b <;> simp [D.eq]
  | .str _, b => by cases b <;> simp [D.eq]
  | .ref _, b => by cases b <;> simp [D.eq]
  | .tup as, b => by
    cases b with
    | tup bs => simp only [D.eq, D.tup.injEq]; exact D.eqL_iff as bs
    | _ => simp [D.eq]
  | .lst as, b => by
    cases b with
    | lst bs => simp only [D.eq, D.lst.injEq]; exact D.eqL_iff as bs
    | _ => simp [D.eq]
theorem D.eqL_iff : ∀ as bs : List D, D.eqL as bs = true ↔ as = bs
  | [], bs => by cases bs <;> simp [D.eqL]
  | a :: as, bs => by
    cases bs with
    | nil => simp [D.eqL]
    | cons b bs => simp only [D.eqL, Bool.and_eq_true, List.cons.injEq, D.eq_iff a b, D.eqL_iff as bs]
end
instance : DecidableEq D := fun a b => if h : D.eq a b = true then .isTrue ((D.eq_iff a b).mp h) else .isFalse fun e => h ((D.eq_iff a b).mpr e)

inductive Ob where
  | lst (ds : List D)
  | dct (kvs : List (D × D))
  | ins (c : Nat) (fs : List (Nat × D))
  deriving Inhabited, DecidableEq

abbrev Sto := List Ob
abbrev Env := List (Option D)

inductive R (α : Type) where
  | ok (a : α) (S : Sto)
  | exc (c : Nat) (S : Sto)
  | bad
def R.bind {α β : Type} : R α → (α → Sto → R β) → R β
  | .ok a S, f => f a S
  | .exc c S, _ => .exc c S
  | .bad, _ => .bad
def R.of {α : Type} : Option α → Sto → R α
  | some a, S => .ok a S
  | none, _ => .bad
@[simp] theorem R.of_some {α : Type} (a : α) (S : Sto) : R.of (some a) S = .ok a S := rfl
@[simp] theorem R.of_none {α : Type} (S : Sto) : R.of (none : Option α) S = .bad := rfl

/-- the outcome of a statement -/
inductive O where
  | next (env : Env) (S : Sto)
  | ret (d : D) (S : Sto)
  | brk (env : Env) (S : Sto)
  | cont (env : Env) (S : Sto)
  | exc (c : Nat) (env : Env) (S : Sto)
  | bad
def R.stm {α : Type} (r : R α) (env : Env) (f : α → Sto → O) : O :=
  match r with
  | .ok a S => f a S
  | .exc c S => .exc c env S
  | .bad => .bad
@[simp] theorem R.stm_ok {α : Type} (a : α) (S : Sto) (env : Env) (f : α → Sto → O) : (R.ok a S).stm env f = f a S := rfl
@[simp] theorem R.stm_exc {α : Type} (c : Nat) (S : Sto) (env : Env) (f : α → Sto → O) : (R.exc c S : R α).stm env f = .exc c env S := rfl
@[simp] theorem R.stm_bad {α : Type} (env : Env) (f : α → Sto → O) : (R.bad : R α).stm env f = .bad := rfl
def O.andThen (o : O) (f : Env → Sto → O) : O :=
  match o with
  | .next env S => f env S
  | o => o

/-! ### what is in data -/
abbrev SZ : Nat := 16777216
def cpsOk (x : List Nat) : Bool := x.all (· < 0x110000) && decide (x.length ≤ SZ)
mutual
/-- no reference within -/
def D.flat : D → Bool
  | .tup ds | .lst ds => D.flatL ds
  | .ref _ => false
  | _ => true
def D.flatL : List D → Bool
  | [] => true
  | d :: ds => D.flat d && D.flatL ds
end
mutual
def D.dep : D → Nat
  | .tup ds | .lst ds => D.depL ds + 1
  | _ => 0
def D.depL : List D → Nat
  | [] => 0
  | d :: ds => max (D.dep d) (D.depL ds)
end
mutual
/-- no reference at or above n -/
def D.und (n : Nat) : D → Bool
  | .tup ds | .lst ds => D.undL n ds
  | .ref m => decide (m < n)
  | _ => true
def D.undL (n : Nat) : List D → Bool
  | [] => true
  | d :: ds => D.und n d && D.undL n ds
end
def Ob.und (n : Nat) : Ob → Bool
  | .lst ds => D.undL n ds
  | .dct kvs => kvs.all fun p => D.und n p.1 && D.und n p.2
  | .ins _ fs => fs.all fun p => D.und n p.2
mutual
/-- Python's == on data -/
def D.eqv : D → D → Bool
  | .non, .non => true
  | .bl a, .bl b => a == b
  | .bl a, .int j => (if a then 1 else 0) == j
  | .int i, .bl b => i == (if b then 1 else 0)
  | .int i, .int j => i == j
  | .str x, .str y => x == y
  | .tup xs, .tup ys => D.eqvL xs ys
  | .lst xs, .lst ys => D.eqvL xs ys
  | _, _ => false
def D.eqvL : List D → List D → Bool
  | [], [] => true
  | x :: xs, y :: ys => D.eqv x y && D.eqvL xs ys
  | _, _ => false
end
def D.isKey0 : D → Bool
  | .int _ => true
  | .str _ => true
  | _ => false
/-- 1: an int or a text; 2: a tuple of such; 0: no key -/
def D.kcls : D → Nat
  | .int _ => 1
  | .str _ => 1
  | .tup ds => if ds.all D.isKey0 then 2 else 0
  | _ => 0
/-- may it be asked of a dict with such entries -/
def fitK (kvs : List (D × D)) (k : D) : Bool := k.kcls != 0 && (match kvs with | [] => true | p :: _ => p.1.kcls == k.kcls)
/-! ### operations -/
def okIf (b : Bool) (d : D) : Option D := if b then some d else none
def mulOk (i j : Int) : Bool := (decide (-(2 ^ 64) < i) && decide (i < 2 ^ 64)) || (decide (-(2 ^ 64) < j) && decide (j < 2 ^ 64))
def repL {α : Type} (xs : List α) (k : Nat) : List α := (List.replicate k xs).flatten
def addD : D → D → Option D
  | .int i, .int j => some (.int (i + j))
  | .str x, .str y => if x.length + y.length ≤ SZ then some (.str (x ++ y)) else none
  | .tup x, .tup y => if x.length + y.length ≤ SZ then some (.tup (x ++ y)) else none
  | .lst x, .lst y => if x.length + y.length ≤ SZ then some (.lst (x ++ y)) else none
  | _, _ => none
def subD : D → D → Option D
  | .int i, .int j => some (.int (i - j))
  | _, _ => none
def mulD : D → D → Option D
  | .int i, .int j => if mulOk i j then some (.int (i * j)) else none
  | .tup x, .int j => if x ≠ [] ∧ x.length ≤ 1000 ∧ j ≤ 1000 ∧ 2 ≤ j then some (.tup (repL x j.toNat)) else none
  | .lst x, .int j => if x.length ≤ 1000 ∧ j ≤ 1000 ∧ 0 ≤ j then some (.lst (repL x j.toNat)) else none
  | _, _ => none
def fdivD : D → D → Option D
  | .int i, .int j => if 0 < j ∧ j < 1073741824 then some (.int (i / j)) else none
  | _, _ => none
def modD : D → D → Option D
  | .int i, .int j => if 0 < j then some (.int (i % j)) else none
  | _, _ => none
def binD : Operator → D → D → Option D
  | .Add, a, b => addD a b
  | .Sub, a, b => subD a b
  | .Mult, a, b => mulD a b
  | .FloorDiv, a, b => fdivD a b
  | .Mod, a, b => modD a b
  | _, _, _ => none
/-- a reference to a list, read as that list -/
def vw (S : Sto) : D → D
  | .ref n => match S[n]? with
    | some (.lst ds) => .lst ds
    | _ => .ref n
  | d => d
def truD (S : Sto) : D → Option Bool
  | .non => some false
  | .bl b => some b
  | .int i => some (i != 0)
  | .str x => some !x.isEmpty
  | .tup ds => some !ds.isEmpty
  | .lst ds => some !ds.isEmpty
  | .ref n => match S[n]? with
    | some (.lst ds) => some !ds.isEmpty
    | _ => none
/-- order of texts and of alike tuples -/
def ltS : List Nat → List Nat → Bool
  | [], [] => false
  | [], _ :: _ => true
  | _ :: _, [] => false
  | a :: as, b :: bs => if a < b then true else if b < a then false else ltS as bs
mutual
/-- of one kind at each place, for < -/
def D.alike : D → D → Bool
  | .int _, .int _ => true
  | .str _, .str _ => true
  | .bl _, .bl _ => true
  | .tup a, .tup b => D.alikeL a b
  | _, _ => false
def D.alikeL : List D → List D → Bool
  | [], _ => true
  | _, [] => true
  | a :: as, b :: bs => D.alike a b && D.alikeL as bs
end
mutual
def D.lt : D → D → Bool
  | .int a, .int b => decide (a < b)
  | .bl a, .bl b => !a && b
  | .str a, .str b => ltS a b
  | .tup a, .tup b => D.ltL a b
  | _, _ => false
def D.ltL : List D → List D → Bool
  | [], [] => false
  | [], _ :: _ => true
  | _ :: _, [] => false
  | a :: as, b :: bs => if D.eqv a b then D.ltL as bs else D.lt a b
end
def eqD (a b : D) : Option Bool := if a.flat && b.flat && decide (a.dep ≤ 60) && decide (b.dep ≤ 60) then some (a.eqv b) else none
def dget (kvs : List (D × D)) (k : D) : Option D := (kvs.find? fun p => decide (p.1 = k)).map (·.2)
def dput (kvs : List (D × D)) (k v : D) : List (D × D) :=
  if kvs.any fun p => decide (p.1 = k) then kvs.map fun p => if p.1 = k then (p.1, v) else p else kvs ++ [(k, v)]
/-- x in ys: scalars within data -/
def inD (x : D) (ys : List D) : Option Bool := if x.flat && D.flatL ys && decide (x.dep ≤ 60) && decide (D.depL ys ≤ 60) then some (ys.any fun y => D.eqv y x) else none
def ltD : D → D → Option Bool
  | .int a, .int b => some (decide (a < b))
  | .str a, .str b => some (ltS a b)
  | .tup a, .tup b => if D.alikeL a b && D.flatL a && D.flatL b && decide (D.depL a ≤ 50) && decide (D.depL b ≤ 50) then some (D.ltL a b) else none
  | _, _ => none
def leqD : D → D → Option Bool
  | .int a, .int b => some (decide (a ≤ b))
  | .str a, .str b => some (!ltS b a)
  | _, _ => none
def gtD : D → D → Option Bool
  | .int a, .int b => some (decide (b < a))
  | .str a, .str b => some (ltS b a)
  | _, _ => none
def geD : D → D → Option Bool
  | .int a, .int b => some (decide (b ≤ a))
  | .str a, .str b => some (!ltS a b)
  | _, _ => none
def isD : D → D → Option Bool
  | .non, .non => some true
  | .bl a, .bl b => some (a == b)
  | .bl _, .non => some false
  | .int _, .non => some false
  | .str _, .non => some false
  | .tup _, .non => some false
  | .lst _, .non => some false
  | .ref _, .non => some false
  | _, _ => none
def memD (S : Sto) (a b : D) : Option Bool :=
  match b with
  | .str y => match a with
    | .str [c] => some (y.contains c)
    | _ => none
  | .tup ds => inD a ds
  | .lst ds => inD a ds
  | .ref n => match S[n]? with
    | some (.dct kvs) => if fitK kvs a then some (dget kvs a).isSome else none
    | some (.lst ds) => inD a ds
    | _ => none
  | _ => none
def cmpD (S : Sto) : CmpOp → D → D → Option Bool
  | .Eq, a, b => eqD (vw S a) (vw S b)
  | .NotEq, a, b => (eqD (vw S a) (vw S b)).map (!·)
  | .Lt, a, b => ltD a b
  | .LtE, a, b => leqD a b
  | .Gt, a, b => gtD a b
  | .GtE, a, b => geD a b
  | .Is, a, b => isD a b
  | .IsNot, a, b => (isD a b).map (!·)
  | .In, a, b => memD S a b
  | .NotIn, a, b => (memD S a b).map (!·)
abbrev atI {α : Type} (xs : List α) (i : Int) : Option α := L2.atI xs i
def idxD (S : Sto) (a i : D) : Option D :=
  match a, i with
  | .tup ds, .int i => atI ds i
  | .lst ds, .int i => atI ds i
  | .str x, .int i => (atI x i).map fun c => .str [c]
  | .ref n, i => match S[n]?, i with
    | some (.lst ds), .int i => atI ds i
    | some (.dct kvs), k => if fitK kvs k then dget kvs k else none
    | _, _ => none
  | _, _ => none
def cut {α : Type} (xs : List α) (lo hi : Option Int) : List α := (xs.drop (HT.sIx xs.length 0 lo)).take (HT.sIx xs.length xs.length hi - HT.sIx xs.length 0 lo)
def slcD (S : Sto) (a : D) (lo hi : Option Int) : Option D :=
  match vw S a with
  | .tup ds => some (.tup (cut ds lo hi))
  | .lst ds => some (.lst (cut ds lo hi))
  | .str x => some (.str (cut x lo hi))
  | _ => none
def revD (S : Sto) (a : D) : Option D :=
  match vw S a with
  | .lst ds => some (.lst ds.reverse)
  | .str x => some (.str x.reverse)
  | _ => none
def intsOf : List D → Option (List Int)
  | [] => some []
  | .int i :: r => (intsOf r).map (i :: ·)
  | _ :: _ => none
def blsOf : List D → Option (List Bool)
  | [] => some []
  | .bl i :: r => (blsOf r).map (i :: ·)
  | _ :: _ => none
def strsOf : List D → Option (List (List Nat))
  | [] => some []
  | .str i :: r => (strsOf r).map (i :: ·)
  | _ :: _ => none
def itemsD (S : Sto) (d : D) : Option (List D) :=
  match vw S d with
  | .tup ds => some ds
  | .lst ds => some ds
  | _ => none
/-! ### syntax -/
/-- built-in functions of one kind of arguments each -/
inductive Bf where
  | len | abs | max2 | min2 | min3 | maxL | minL | sum | all | any | int | str | sorted | tuple | list | dict
  | isInt | isBool | isStr | isTuple | isList | rangeL | zipL | setL | repr
  deriving DecidableEq, Inhabited
/-- methods of built-in types -/
inductive Bm where
  | append | extend | pop | popAt | get | setdef | join | split | strip | lstrip | rstrip | replace | values | items
  deriving DecidableEq, Inhabited
/-- a target of names -/
inductive Tg where
  | name (i : Nat)
  | tup (ts : List Tg)
  deriving Inhabited

mutual
inductive X where
  | nope
  | var (i : Nat)
  | lit (d : D)
  | tup (es : List X)
  | lst (es : List X)
  | newL (es : List X)
  | newD (es : List X)
  | bin (op : Operator) (a b : X)
  | neg (a : X)
  | not (a : X)
  | and (a b : X)
  | or (a b : X)
  | ife (c : T) (a b : X)
  | cmp (op : CmpOp) (a b : X)
  | chn (op op' : CmpOp) (a b c : X)
  | idx (a i : X)
  | slc (a : X) (lo hi : Option X)
  | rev (a : X)
  | call (f : Nat) (es : List X)
  | blt (f : Bf) (es : List X)
  | mth (m : Bm) (a : X) (es : List X)
  | fld (a : X) (n : Nat)
  | inv (a : X) (m : Nat) (es : List X)
  | mk (c : Nat) (es : List X)
  | comp (elt : X) (tg : Tg) (it : It) (ifs : List T) (vs : List Nat)
  | newC (elt : X) (tg : Tg) (it : It) (ifs : List T) (vs : List Nat)
  | fstr (es : List X)
/-- a test -/
inductive T where
  | val (e : X)
  | not (a : T)
  | and (a b : T)
  | or (a b : T)
  | ife (c a b : T)
/-- what is walked -/
inductive It where
  | seq (e : X)
  | rng1 (e : X)
  | rng2 (a b : X)
  | enum (e : X)
  | zip (a b : X)
  | zip3 (a b c : X)
  | keys (e : X)
  | items (e : X)
end
instance : Inhabited X := ⟨.nope⟩
instance : Inhabited T := ⟨.val .nope⟩
instance : Inhabited It := ⟨.seq .nope⟩

inductive St where
  | expr (e : X)
  | asg (tg : Tg) (e : X)
  | sub (o i e : X)
  | sub2 (o i o' i' : X) (e : X)
  | fld (o : X) (n : Nat) (e : X)
  | ret (e : X)
  | retN
  | ite (c : T) (a b : List St)
  | for (tg : Tg) (it : It) (body : List St)
  | while (c : T) (body : List St)
  | pass
  | cont
  | brk
  | raise (c : Nat)
  | try (body : List St) (hs : List (Nat × List St))
  | wipe (vs : List Nat)
  | nope
  deriving Inhabited

structure Def where
  np : Nat
  ns : Nat
  body : List St
  gc : Bool
  deriving Inhabited

structure Prog where
  defs : List Def
  meth : List ((Nat × Nat) × Nat)
  init : List (Nat × Nat)
  sub : List (Nat × Nat)
  nx : List Nat

/-! ### semantics -/
mutual
def setTg : Tg → D → Env → Option Env
  | .name i, d, env => some (env.set i (some d))
  | .tup ts, .tup ds, env => setTgs ts ds env
  | .tup _, _, _ => none
def setTgs : List Tg → List D → Env → Option Env
  | [], [], env => some env
  | t :: ts, d :: ds, env => match setTg t d env with
    | some env' => setTgs ts ds env'
    | none => none
  | _, _, _ => none
end
def wipeE (env : Env) : List Nat → Env
  | [] => env
  | v :: vs => (wipeE env vs).set v none

def enumFrom : Nat → List D → List D
  | _, [] => []
  | n, d :: ds => .tup [.int n, d] :: enumFrom (n + 1) ds
def zipD : List D → List D → List D
  | a :: as, b :: bs => .tup [a, b] :: zipD as bs
  | _, _ => []
def zipD3 : List D → List D → List D → List D
  | a :: as, b :: bs, c :: cs => .tup [a, b, c] :: zipD3 as bs cs
  | _, _, _ => []
def rangeD (lo : Int) : Nat → List D
  | 0 => []
  | n + 1 => .int lo :: rangeD (lo + 1) n
def seqOf (S : Sto) (d : D) : Option (List D) :=
  match vw S d with
  | .tup ds => some ds
  | .lst ds => some ds
  | .str x => some (x.map fun c => .str [c])
  | _ => none
def listD (S : Sto) (d : D) : Option (List D) :=
  match vw S d with
  | .lst ds => some ds
  | _ => none
def leD (a b : D) : Bool := !D.lt b a
def sortD (ds : List D) : List D := ds.mergeSort leD
/-- all alike, for a sort: tuples with an item at least, or no tuples -/
def tupOk : D → Bool
  | .tup (_ :: _) => true
  | _ => false
def atomOk : D → Bool
  | .int _ => true
  | .str _ => true
  | .bl _ => true
  | _ => false
def sortable (ds : List D) : Bool := (ds.all fun a => ds.all fun b => D.alike a b) && (ds.all tupOk || ds.all atomOk) && D.flatL ds && decide (D.depL ds ≤ 50) && decide (ds.length ≤ SZ)
def maxI : List Int → Option Int
  | [] => none
  | i :: r => some (r.foldl (fun m j => if m < j then j else m) i)
def minI : List Int → Option Int
  | [] => none
  | i :: r => some (r.foldl (fun m j => if j < m then j else m) i)
def minDs : List D → Option D
  | [] => none
  | d :: r => some (r.foldl (fun m j => if D.lt j m then j else m) d)
def strI (i : Int) : List Nat := (toString i).toList.map Char.toNat
def pairsOf : List D → Option (List (D × D))
  | [] => some []
  | .tup [a, b] :: r => (pairsOf r).map ((a, b) :: ·)
  | _ :: _ => none
def kvOf : List D → Option (List (D × D))
  | [] => some []
  | k :: v :: r => (kvOf r).map ((k, v) :: ·)
  | _ => none
def mergeD (kvs more : List (D × D)) : List (D × D) := more.foldl (fun acc kv => dput acc kv.1 kv.2) kvs
def digitVal (c : Nat) : Option Nat := if 48 ≤ c ∧ c ≤ 57 then some (c - 48) else none
def digitsVal : Nat → List Nat → Option Nat
  | acc, [] => some acc
  | acc, c :: r => match digitVal c with
    | some v => digitsVal (acc * 10 + v) r
    | none => none
def joinS (sep : List Nat) : List (List Nat) → List Nat
  | [] => []
  | [x] => x
  | x :: r => x ++ sep ++ joinS sep r
def dedup : List D → List D → List D
  | acc, [] => acc
  | acc, d :: r => if acc.contains d then dedup acc r else dedup (acc ++ [d]) r

def sortedD (S : Sto) (d : D) : Option D :=
  match vw S d with
  | .lst ds => if sortable ds then some (.lst (sortD ds)) else none
  | .tup ds => if sortable ds then some (.lst (sortD ds)) else none
  | .ref n => match S[n]? with
    | some (.dct kvs) => if sortable (kvs.map (·.1)) then some (.lst (sortD (kvs.map (·.1)))) else none
    | _ => none
  | _ => none
def bfD (S : Sto) : Bf → List D → Option D
  | .len, [d] => match d with
    | .str x => some (.int x.length)
    | .tup x => some (.int x.length)
    | .lst x => some (.int x.length)
    | .ref n => match S[n]? with
      | some (.lst x) => some (.int x.length)
      | some (.dct x) => some (.int x.length)
      | _ => none
    | _ => none
  | .abs, [.int i] => some (.int (if i < 0 then -i else i))
  | .max2, [.int i, .int j] => some (.int (if j > i then j else i))
  | .min2, [.int i, .int j] => some (.int (if j < i then j else i))
  | .min3, [.int i, .int j, .int k] => some (.int (if j < i then (if k < j then k else j) else (if k < i then k else i)))
  | .maxL, [d] => ((listD S d).bind intsOf).bind fun ns => (maxI ns).map .int
  | .minL, [d] => ((listD S d).bind intsOf).bind fun ns => (minI ns).map .int
  | .sum, [d] => ((listD S d).bind intsOf).map fun ns => .int ns.sum
  | .all, [d] => ((listD S d).bind blsOf).map fun bs => .bl (bs.all id)
  | .any, [d] => ((listD S d).bind blsOf).map fun bs => .bl (bs.any id)
  | .int, [.int i] => some (.int i)
  | .int, [.bl b] => some (.int (if b then 1 else 0))
  | .sorted, [d] => sortedD S d
  | .tuple, [d] => (itemsD S d).map .tup
  | .list, [d] => (itemsD S d).map .lst
  | .isInt, [d] => match d with | .int _ => some (.bl true) | .bl _ => some (.bl true) | .ref _ => none | _ => some (.bl false)
  | .isBool, [d] => match d with | .bl _ => some (.bl true) | .ref _ => none | _ => some (.bl false)
  | .isStr, [d] => match d with | .str _ => some (.bl true) | .ref _ => none | _ => some (.bl false)
  | .isTuple, [d] => match d with | .tup _ => some (.bl true) | .ref _ => none | _ => some (.bl false)
  | .isList, [d] => match d with | .lst _ => some (.bl true) | .ref _ => none | _ => some (.bl false)
  | _, _ => none

/-- built-in methods, those that look alone -/
def bmD (S : Sto) : Bm → D → List D → Option D
  | .get, .ref n, [k, x] => match S[n]? with
    | some (.dct kvs) => if fitK kvs k then some ((dget kvs k).getD x) else none
    | _ => none
  | .join, .str s, [d] => ((listD S d).bind strsOf).bind fun xs => if (xs.map List.length).sum + xs.length * s.length ≤ SZ then some (.str (joinS s xs)) else none
  | _, _, _ => none
def bmR (m : Bm) (d : D) (ds : List D) (S : Sto) : R D :=
  match m, d, ds with
  | .append, .ref n, [x] => match S[n]? with
    | some (.lst xs) => if xs.length < SZ then .ok .non (S.set n (.lst (xs ++ [x]))) else .bad
    | _ => .bad
  | .extend, .ref n, [y] => match S[n]?, listD S y with
    | some (.lst xs), some ys => if xs.length + ys.length ≤ SZ then .ok .non (S.set n (.lst (xs ++ ys))) else .bad
    | _, _ => .bad
  | .pop, .ref n, [] => match S[n]? with
    | some (.lst xs) => match xs.getLast? with
      | some x => .ok x (S.set n (.lst xs.dropLast))
      | none => .bad
    | _ => .bad
  | .popAt, .ref n, [.int i] => match S[n]? with
    | some (.lst xs) => if 0 ≤ i ∧ i < 2 ^ 62 then match xs[i.toNat]? with
        | some x => .ok x (S.set n (.lst (xs.eraseIdx i.toNat)))
        | none => .bad
      else .bad
    | _ => .bad
  | .setdef, .ref n, [k, x] => match S[n]? with
    | some (.dct kvs) => if fitK kvs k && (k.kcls == 2) then match dget kvs k with
        | some v => .ok v S
        | none => if kvs.length < SZ then .ok x (S.set n (.dct (dput kvs k x))) else .bad
      else .bad
    | _ => .bad
  | m, d, ds => R.of (bmD S m d ds) S

/-- the receiver of a method is of its type -/
def kindOk (m : Bm) (d : D) (S : Sto) : Bool :=
  match m, d with
  | .append, .ref n | .extend, .ref n | .pop, .ref n | .popAt, .ref n => match S[n]? with | some (.lst _) => true | _ => false
  | .get, .ref n | .setdef, .ref n | .values, .ref n => match S[n]? with | some (.dct _) => true | _ => false
  | .join, .str _ | .split, .str _ | .strip, .str _ | .lstrip, .str _ | .rstrip, .str _ | .replace, .str _ => true
  | _, _ => false
/-- what is walked, and which lists of the store are to stay -/
structure Src where
  items : List D
  own : List (Nat × List D)
def stay (own : List (Nat × List D)) (S : Sto) : Bool := own.all fun p => match S[p.1]? with | some (.lst ds) => decide (ds = p.2) | _ => false
@[simp] theorem stay_nil (S : Sto) : stay [] S = true := rfl
def ownD (S : Sto) : D → List (Nat × List D)
  | .ref n => match S[n]? with
    | some (.lst ds) => [(n, ds)]
    | _ => []
  | _ => []
def isT : D → Bool
  | .tup _ => true
  | _ => false
def fgetD (fs : List (Nat × D)) (n : Nat) : Option D := fs.lookup n
def fputD (fs : List (Nat × D)) (n : Nat) (v : D) : List (Nat × D) :=
  match fs with
  | [] => [(n, v)]
  | (m, w) :: r => if m = n then (m, v) :: r else (m, w) :: fputD r n v

abbrev Call := Nat → List D → Sto → R D
section
variable (P : Prog) (call : Call)

/-- a walk of a comprehension's turns -/
def compL (own : List (Nat × List D)) (turn : D → Sto → R (Option D)) : List D → List D → Sto → R (List D)
  | [], acc, S => if stay own S then .ok acc S else .bad
  | d :: ds, acc, S => if stay own S then (turn d S).bind fun o S => match o with
      | some x => compL own turn ds (acc ++ [x]) S
      | none => compL own turn ds acc S
    else .bad

mutual
def evalE : X → Env → Sto → R D
  | .nope, _, _ => .bad
  | .var i, env, S => match env[i]? with
    | some (some d) => .ok d S
    | _ => .bad
  | .lit d, _, S => .ok d S
  | .tup es, env, S => (evalL es env S).bind fun ds S => if ds.length ≤ SZ then .ok (.tup ds) S else .bad
  | .lst es, env, S => (evalL es env S).bind fun ds S => if ds.length ≤ SZ then .ok (.lst ds) S else .bad
  | .newL es, env, S => (evalL es env S).bind fun ds S => if ds.length ≤ SZ then .ok (.ref S.length) (S ++ [.lst ds]) else .bad
  | .newD es, env, S => (evalL es env S).bind fun ds S => match kvOf ds with
    | some kvs => if (kvs.all fun p => p.1.kcls == 1) && decide (kvs.length ≤ 15) then .ok (.ref S.length) (S ++ [.dct (mergeD [] kvs)]) else .bad
    | none => .bad
  | .bin op a b, env, S => (evalE a env S).bind fun x S => (evalE b env S).bind fun y S => R.of (binD op x y) S
  | .neg a, env, S => (evalE a env S).bind fun x S => match x with
    | .int i => .ok (.int (-i)) S
    | _ => .bad
  | .not a, env, S => (evalE a env S).bind fun x S => match truD S x with
    | some b => .ok (.bl !b) S
    | none => .bad
  | .and a b, env, S => (evalE a env S).bind fun x S => match truD S x with
    | some true => evalE b env S
    | some false => .ok x S
    | none => .bad
  | .or a b, env, S => (evalE a env S).bind fun x S => match truD S x with
    | some true => .ok x S
    | some false => evalE b env S
    | none => .bad
  | .ife c a b, env, S => (evalT c env S).bind fun k S => if k then evalE a env S else evalE b env S
  | .cmp op a b, env, S => (evalE a env S).bind fun x S => (evalE b env S).bind fun y S => R.of ((cmpD S op x y).map .bl) S
  | .chn op op' a b c, env, S => (evalE a env S).bind fun x S => (evalE b env S).bind fun y S => match cmpD S op x y with
    | some true => (evalE c env S).bind fun z S => R.of ((cmpD S op' y z).map .bl) S
    | some false => .ok (.bl false) S
    | none => .bad
  | .idx a i, env, S => (evalE a env S).bind fun x S => (evalE i env S).bind fun y S => R.of (idxD S x y) S
  | .slc a lo hi, env, S => (evalE a env S).bind fun x S => (evalO lo env S).bind fun l S => (evalO hi env S).bind fun h S => R.of (slcD S x l h) S
  | .rev a, env, S => (evalE a env S).bind fun x S => R.of (revD S x) S
  | .call f es, env, S => (evalL es env S).bind fun ds S => call f ds S
  | .blt f es, env, S => (evalL es env S).bind fun ds S =>
      match f, ds with
      | .dict, [d] => match (itemsD S d).bind pairsOf with
        | some kvs => if (kvs.all fun p => fitK kvs p.1) then .ok (.ref S.length) (S ++ [.dct (mergeD [] kvs)]) else .bad
        | none => .bad
      | f, ds => R.of (bfD S f ds) S
  | .mth m a es, env, S => (evalE a env S).bind fun x S => if kindOk m x S then (evalL es env S).bind fun ds S => bmR m x ds S else .bad
  | .fld a n, env, S => (evalE a env S).bind fun x S => match x with
    | .ref p => match S[p]? with
      | some (.ins _ fs) => R.of (fgetD fs n) S
      | _ => .bad
    | _ => .bad
  | .inv a m es, env, S => (evalE a env S).bind fun x S => match x with
    | .ref p => match S[p]? with
      | some (.ins c _) => match P.meth.lookup (c, m) with
        | some f => (evalL es env S).bind fun ds S => match S[p]? with
          | some (.ins c' _) => if c' = c then call f (.ref p :: ds) S else .bad
          | _ => .bad
        | none => .bad
      | _ => .bad
    | _ => .bad
  | .mk c es, env, S => (evalL es env S).bind fun ds S => match P.init.lookup c with
    | some f => match call f (.ref S.length :: ds) (S ++ [.ins c []]) with
      | .ok .non S' => .ok (.ref S.length) S'
      | _ => .bad
    | none => .bad
  | .comp elt tg it ifs vs, env, S => (evalI it env S).bind fun src S =>
      match compL src.own (fun d S => match setTg tg d (wipeE env vs) with
        | some env' => (evalTs ifs env' S).bind fun k S => if k then (evalE elt env' S).bind fun x S => .ok (some x) S else .ok none S
        | none => .bad) src.items [] S with
      | .ok ds S' => if ds.length ≤ SZ then .ok (.lst ds) S' else .bad
      | _ => .bad
  | .newC elt tg it ifs vs, env, S => (evalI it env S).bind fun src S =>
      match compL src.own (fun d S => match setTg tg d (wipeE env vs) with
        | some env' => (evalTs ifs env' S).bind fun k S => if k then (evalE elt env' S).bind fun x S => .ok (some x) S else .ok none S
        | none => .bad) src.items [] S with
      | .ok ds S' => if ds.length ≤ SZ then .ok (.ref S'.length) (S' ++ [.lst ds]) else .bad
      | _ => .bad
  | .fstr es, env, S => (evalL es env S).bind fun ds S => .bad
/-- as a test -/
def evalT : T → Env → Sto → R Bool
  | .not a, env, S => (evalT a env S).bind fun k S => .ok (!k) S
  | .and a b, env, S => (evalT a env S).bind fun k S => if k then evalT b env S else .ok false S
  | .or a b, env, S => (evalT a env S).bind fun k S => if k then .ok true S else evalT b env S
  | .ife c a b, env, S => (evalT c env S).bind fun k S => if k then evalT a env S else evalT b env S
  | .val e, env, S => (evalE e env S).bind fun x S => R.of (truD S x) S
def evalTs : List T → Env → Sto → R Bool
  | [], _, S => .ok true S
  | e :: es, env, S => (evalT e env S).bind fun k S => if k then evalTs es env S else .ok false S
def evalL : List X → Env → Sto → R (List D)
  | [], _, S => .ok [] S
  | e :: es, env, S => (evalE e env S).bind fun d S => (evalL es env S).bind fun ds S => .ok (d :: ds) S
def evalO : Option X → Env → Sto → R (Option Int)
  | none, _, S => .ok none S
  | some e, env, S => (evalE e env S).bind fun x S => match x with
    | .int i => .ok (some i) S
    | _ => .bad
def evalI : It → Env → Sto → R Src
  | .seq e, env, S => (evalE e env S).bind fun d S => match seqOf S d with
    | some ds => .ok ⟨ds, ownD S d⟩ S
    | none => .bad
  | .rng1 e, env, S => (evalE e env S).bind fun d S => match d with
    | .int j => if -(2 ^ 61) < j ∧ j < 2 ^ 61 then .ok ⟨rangeD 0 j.toNat, []⟩ S else .bad
    | _ => .bad
  | .rng2 a b, env, S => (evalE a env S).bind fun d S => (evalE b env S).bind fun e S => match d, e with
    | .int i, .int j => if -(2 ^ 61) < i ∧ i < 2 ^ 61 ∧ -(2 ^ 61) < j ∧ j < 2 ^ 61 then .ok ⟨rangeD i (j - i).toNat, []⟩ S else .bad
    | _, _ => .bad
  | .enum e, env, S => (evalE e env S).bind fun d S => match seqOf S d with
    | some ds => .ok ⟨enumFrom 0 ds, ownD S d⟩ S
    | none => .bad
  | .zip a b, env, S => (evalE a env S).bind fun d S => (evalE b env S).bind fun e S => match itemsD S d, itemsD S e with
    | some x, some y => if isT d == isT e then .ok ⟨zipD x y, ownD S d ++ ownD S e⟩ S else .bad
    | _, _ => .bad
  | .zip3 _ _ _, _, _ => .bad
  | .keys _, _, _ => .bad
  | .items _, _, _ => .bad
end

def storeD (o i v : D) (S : Sto) : Option Sto :=
  match o with
  | .ref n => match S[n]? with
    | some (.lst xs) => match i with
      | .int j => if 0 ≤ j ∧ j < xs.length then some (S.set n (.lst (xs.set j.toNat v))) else none
      | _ => none
    | some (.dct kvs) => if fitK kvs i && decide (kvs.length < SZ) then some (S.set n (.dct (dput kvs i v))) else none
    | _ => none
  | _ => none

/-- the turns of a for -/
def forL (own : List (Nat × List D)) (turn : D → Env → Sto → O) : List D → Env → Sto → O
  | [], env, S => if stay own S then .next env S else .bad
  | d :: ds, env, S => if stay own S then match turn d env S with
      | .next env' S' => forL own turn ds env' S'
      | .cont env' S' => forL own turn ds env' S'
      | .brk env' S' => .next env' S'
      | o => o
    else .bad
/-- the turns of a while, at most so many -/
def whileL (test : Env → Sto → R Bool) (body : Env → Sto → O) : Nat → Env → Sto → O
  | 0, _, _ => .bad
  | n + 1, env, S => match test env S with
    | .ok true S' => match body env S' with
      | .next env' S'' => whileL test body n env' S''
      | .cont env' S'' => whileL test body n env' S''
      | .brk env' S'' => .next env' S''
      | o => o
    | .ok false S' => .next env S'
    | .exc c S' => .exc c env S'
    | .bad => .bad

/-- no error leaves a suite -/
def noExc : O → O
  | .exc _ _ _ => .bad
  | o => o
def subOf (c h : Nat) : Bool := c == h || P.sub.contains (c, h)
mutual
def execS : St → Env → Sto → O
  | .expr e, env, S => (evalE P call e env S).stm env fun _ S => .next env S
  | .asg tg e, env, S => (evalE P call e env S).stm env fun d S => match setTg tg d env with
    | some env' => .next env' S
    | none => .bad
  | .sub o i e, env, S => (evalE P call e env S).stm env fun v S => (evalE P call o env S).stm env fun x S => (evalE P call i env S).stm env fun y S => match storeD x y v S with
    | some S' => .next env S'
    | none => .bad
  | .sub2 o i o' i' e, env, S => (evalE P call e env S).stm env fun v S => match v with
    | .tup [v, v'] => (evalE P call o env S).stm env fun x S => (evalE P call i env S).stm env fun y S => match storeD x y v S with
      | some S => (evalE P call o' env S).stm env fun x S => (evalE P call i' env S).stm env fun y S => match storeD x y v' S with
        | some S => .next env S
        | none => .bad
      | none => .bad
    | _ => .bad
  | .fld o n e, env, S => (evalE P call e env S).stm env fun v S => (evalE P call o env S).stm env fun x S => match x with
    | .ref p => match S[p]? with
      | some (.ins c fs) => if fs.length < 1000 then .next env (S.set p (.ins c (fputD fs n v))) else .bad
      | _ => .bad
    | _ => .bad
  | .ret e, env, S => (evalE P call e env S).stm env fun d S => .ret d S
  | .retN, _, S => .ret .non S
  | .ite c a b, env, S => (evalT P call c env S).stm env fun k S => if k then execs a env S else execs b env S
  | .for tg it body, env, S => (evalI P call it env S).stm env fun src S => forL src.own (fun d env S => match setTg tg d env with
      | some env' => execs body env' S
      | none => .bad) src.items env S
  | .while c body, env, S => whileL (evalT P call c) (execs body) 100000 env S
  | .pass, env, S => .next env S
  | .cont, env, S => .cont env S
  | .brk, env, S => .brk env S
  | .raise c, env, S => .exc c env S
  | .try body hs, env, S => match execs body env S with
    | .exc c env' S' => if P.nx.contains c then handle hs c env' S' else .bad
    | o => o
  | .wipe vs, env, S => .next (wipeE env vs) S
  | .nope, _, _ => .bad
def execs : List St → Env → Sto → O
  | [], env, S => .next env S
  | s :: ss, env, S => (execS s env S).andThen fun env S => execs ss env S
def handle : List (Nat × List St) → Nat → Env → Sto → O
  | [], c, env, S => .exc c env S
  | (h, body) :: hs, c, env, S => if subOf P c h then noExc (execs body env S) else handle hs c env S
end
end

/-- a new list that is handed back is a plain one from now on -/
def thaw (n : Nat) (S : Sto) : D → D
  | .ref m => if n ≤ m then (match S[m]? with | some (.lst ds) => .lst ds | _ => .ref m) else .ref m
  | d => d
/-- what was made within is let go, if nothing speaks of it -/
def sweep (gc : Bool) (S : Sto) (d : D) (S' : Sto) (k : D → Sto → R D) : R D :=
  if gc then (if (thaw S.length S' d).und S.length && ((S'.take S.length).zip S).all (fun p => decide (p.1 = p.2) || p.1.und S.length) then k (thaw S.length S' d) (S'.take S.length) else .bad) else k d S'
def runDef (P : Prog) (call : Call) (df : Def) (args : List D) (S : Sto) : R D :=
  if args.length = df.np then
    match execs P call df.body (args.map some ++ List.replicate (df.ns - df.np) none) S with
    | .ret d S' => sweep df.gc S d S' fun d S'' => .ok d S''
    | .next _ S' => sweep df.gc S .non S' fun d S'' => .ok d S''
    | .exc c _ S' => sweep df.gc S .non S' fun _ S'' => .exc c S''
    | _ => .bad
  else .bad
def run (P : Prog) : Nat → Call
  | 0, _, _, _ => .bad
  | n + 1, f, args, S => match P.defs[f]? with
    | some df => runDef P (run P n) df args S
    | none => .bad
end HW
/-! Forgetting what is not needed any more: less is known, never anything else. -/
namespace HW
def R.le {α : Type} (r r' : R α) : Prop := r = .bad ∨ r = r'
def Env.le (e e' : Env) : Prop := ∀ (i : Nat) (d : D), e[i]? = some (some d) → e'[i]? = some (some d)
theorem Env.le.refl (e : Env) : Env.le e e := fun _ _ h => h
theorem Env.le.set {e e' : Env} (h : Env.le e e') (i : Nat) (d : D) (hl : e.length = e'.length) : Env.le (e.set i (some d)) (e'.set i (some d)) := by
  intro j x hx
  rw [List.getElem?_set] at hx ⊢
  split at hx
  · rename_i hij
    rw [if_pos hij]
    split at hx
    · rename_i hlt
      rw [if_pos (by omega)]
      exact hx
    · cases hx
  · rename_i hij
    rw [if_neg hij]
    exact h j x hx
theorem Env.le.emp {e e' : Env} (h : Env.le e e') (i : Nat) : Env.le (e.set i none) e' := by
  intro j x hx
  rw [List.getElem?_set] at hx
  split at hx
  · split at hx <;> cases hx
  · exact h j x hx
theorem Env.le.emp2 {e e' : Env} (h : Env.le e e') (i : Nat) : Env.le (e.set i none) (e'.set i none) := by
  intro j x hx
  rw [List.getElem?_set] at hx ⊢
  split at hx
  · split at hx <;> cases hx
  · rename_i hij
    rw [if_neg hij]
    exact h j x hx
/-- the same length, and less is known -/
structure EL (e e' : Env) : Prop where
  len : e.length = e'.length
  le : Env.le e e'
theorem EL.refl (e : Env) : EL e e := ⟨rfl, Env.le.refl e⟩
def O.le : O → O → Prop
  | .bad, _ => True
  | .next e S, o' => ∃ e', o' = .next e' S ∧ EL e e'
  | .brk e S, o' => ∃ e', o' = .brk e' S ∧ EL e e'
  | .cont e S, o' => ∃ e', o' = .cont e' S ∧ EL e e'
  | .exc c e S, o' => ∃ e', o' = .exc c e' S ∧ EL e e'
  | .ret d S, o' => o' = .ret d S
theorem EL.set {e e' : Env} (h : EL e e') (i : Nat) (d : D) : EL (e.set i (some d)) (e'.set i (some d)) := ⟨by simp [h.len], h.le.set i d h.len⟩
theorem EL.wipe {e e' : Env} (h : EL e e') : ∀ vs : List Nat, EL (wipeE e vs) e'
  | [] => h
  | v :: vs => ⟨by simp [wipeE, (EL.wipe h vs).len], (EL.wipe h vs).le.emp v⟩
theorem EL.wipe2 {e e' : Env} (h : EL e e') : ∀ vs : List Nat, EL (wipeE e vs) (wipeE e' vs)
  | [] => h
  | v :: vs => ⟨by simp [wipeE, (EL.wipe2 h vs).len], (EL.wipe2 h vs).le.emp2 v⟩
mutual
theorem setTg_le : ∀ (t : Tg) (d : D) {e e' e1 : Env}, EL e e' → setTg t d e = some e1 → ∃ e1', setTg t d e' = some e1' ∧ EL e1 e1'
  | .name i, d, e, e', e1, h, hs => by
    simp only [setTg, Option.some.injEq] at hs ⊢
    subst hs
    exact ⟨_, rfl, h.set i d⟩
  | .tup ts, .tup ds, e, e', e1, h, hs => by
    simp only [setTg] at hs ⊢
    exact setTgs_le ts ds h hs
  | .tup ts, .non, _, _, _, _, hs => by simp [setTg] at hs
  | .tup ts, .bl _, _, _, _, _, hs => by simp [setTg] at hs
  | .tup ts, .int _, _, _, _, _, hs => by simp [setTg] at hs
  | .tup ts, .str _, _, _, _, _, hs => by simp [setTg] at hs
  | .tup ts, .lst _, _, _, _, _, hs => by simp [setTg] at hs
  | .tup ts, .ref _, _, _, _, _, hs => by simp [setTg] at hs
theorem setTgs_le : ∀ (ts : List Tg) (ds : List D) {e e' e1 : Env}, EL e e' → setTgs ts ds e = some e1 → ∃ e1', setTgs ts ds e' = some e1' ∧ EL e1 e1'
  | [], [], e, e', e1, h, hs => by
    simp only [setTgs, Option.some.injEq] at hs ⊢
    subst hs
    exact ⟨_, rfl, h⟩
  | t :: ts, d :: ds, e, e', e1, h, hs => by
    simp only [setTgs] at hs ⊢
    cases ht : setTg t d e with
    | none => simp [ht] at hs
    | some e2 =>
      simp only [ht] at hs
      obtain ⟨e2', h1, h2⟩ := setTg_le t d h ht
      rw [h1]
      exact setTgs_le ts ds h2 hs
  | [], _ :: _, _, _, _, _, hs => by simp [setTgs] at hs
  | _ :: _, [], _, _, _, _, hs => by simp [setTgs] at hs
end
theorem R.le.refl {α : Type} (r : R α) : R.le r r := .inr rfl
theorem R.le.bad {α : Type} (r : R α) : R.le .bad r := .inl rfl
theorem R.le.bind {α β : Type} {r r' : R α} {f f' : α → Sto → R β} (h : R.le r r') (hf : ∀ a S, R.le (f a S) (f' a S)) : R.le (r.bind f) (r'.bind f') := by
  rcases h with rfl | rfl
  · exact .inl rfl
  · cases r with
    | ok a S => exact hf a S
    | exc c S => exact .inr rfl
    | bad => exact .inl rfl
theorem compL_le {own : List (Nat × List D)} {t t' : D → Sto → R (Option D)} (h : ∀ d S, R.le (t d S) (t' d S)) : ∀ (ds acc : List D) (S : Sto), R.le (compL own t ds acc S) (compL own t' ds acc S)
  | [], acc, S => .inr rfl
  | d :: ds, acc, S => by
    simp only [compL]
    split
    · refine (h d S).bind fun o S => ?_
      cases o with
      | some x => exact compL_le h ds _ S
      | none => exact compL_le h ds _ S
    · exact .inl rfl
def compK (g : List D → Sto → R D) : R (List D) → R D
  | .ok ds S => g ds S
  | _ => .bad
theorem compM_le {r r' : R (List D)} (g : List D → Sto → R D) (h : R.le r r') : R.le (compK g r) (compK g r') := by
  rcases h with rfl | rfl
  · exact .inl rfl
  · exact .inr rfl
theorem turn_le {P P' : Prog} {c c' : Call} (elt : X) (tg : Tg) (ifs : List T) (vs : List Nat) (hE : ∀ {e e' : Env} (S : Sto), EL e e' → R.le (evalE P c elt e S) (evalE P' c' elt e' S)) (hT : ∀ {e e' : Env} (S : Sto), EL e e' → R.le (evalTs P c ifs e S) (evalTs P' c' ifs e' S)) {e e' : Env} (h : EL e e') (d : D) (S : Sto) : R.le
      (match setTg tg d (wipeE e vs) with
        | some env' => (evalTs P c ifs env' S).bind fun k S => if k then (evalE P c elt env' S).bind fun x S => .ok (some x) S else .ok none S
        | none => .bad)
      (match setTg tg d (wipeE e' vs) with
        | some env' => (evalTs P' c' ifs env' S).bind fun k S => if k then (evalE P' c' elt env' S).bind fun x S => .ok (some x) S else .ok none S
        | none => .bad) := by
  cases hs : setTg tg d (wipeE e vs) with
  | none => exact .inl rfl
  | some e1 =>
    obtain ⟨e1', h1, h2⟩ := setTg_le tg d (h.wipe2 vs) hs
    rw [h1]
    refine (hT S h2).bind fun k S => ?_
    split
    · exact (hE S h2).bind fun x S => .refl _
    · exact .refl _
section
variable {P P' : Prog} (hm : P'.meth = P.meth) (hi : P'.init = P.init) {c c' : Call} (hc : ∀ f ds S, R.le (c f ds S) (c' f ds S))
include hm hi hc
mutual
theorem evalE_le : ∀ (x : X) {e e' : Env} (S : Sto), EL e e' → R.le (evalE P c x e S) (evalE P' c' x e' S)
  | .nope, e, e', S, h => by simp only [evalE]; exact .inl rfl
  | .var i, e, e', S, h => by
    simp only [evalE]
    split
    · rename_i d hd
      rw [h.le i d hd]
      exact .inr rfl
    · exact .inl rfl
  | .lit d, e, e', S, h => by simp only [evalE]; exact .inr rfl
  | .tup es, e, e', S, h => by simp only [evalE]; exact (evalL_le es S h).bind fun ds S => .refl _
  | .lst es, e, e', S, h => by simp only [evalE]; exact (evalL_le es S h).bind fun ds S => .refl _
  | .newL es, e, e', S, h => by simp only [evalE]; exact (evalL_le es S h).bind fun ds S => .refl _
  | .newD es, e, e', S, h => by simp only [evalE]; exact (evalL_le es S h).bind fun ds S => .refl _
  | .bin op a b, e, e', S, h => by simp only [evalE]; exact (evalE_le a S h).bind fun x S => (evalE_le b S h).bind fun y S => .refl _
  | .neg a, e, e', S, h => by simp only [evalE]; exact (evalE_le a S h).bind fun x S => .refl _
  | .not a, e, e', S, h => by simp only [evalE]; exact (evalE_le a S h).bind fun x S => .refl _
  | .and a b, e, e', S, h => by
    simp only [evalE]
    refine (evalE_le a S h).bind fun x S => ?_
    split
    · exact evalE_le b S h
    · exact .refl _
    · exact .refl _
  | .or a b, e, e', S, h => by
    simp only [evalE]
    refine (evalE_le a S h).bind fun x S => ?_
    split
    · exact .refl _
    · exact evalE_le b S h
    · exact .refl _
  | .ife t a b, e, e', S, h => by
    simp only [evalE]
    refine (evalT_le t S h).bind fun k S => ?_
    split
    · exact evalE_le a S h
    · exact evalE_le b S h
  | .cmp op a b, e, e', S, h => by simp only [evalE]; exact (evalE_le a S h).bind fun x S => (evalE_le b S h).bind fun y S => .refl _
  | .chn op op' a b d, e, e', S, h => by
    simp only [evalE]
    refine (evalE_le a S h).bind fun x S => (evalE_le b S h).bind fun y S => ?_
    split
    · exact (evalE_le d S h).bind fun z S => .refl _
    · exact .refl _
    · exact .refl _
  | .idx a i, e, e', S, h => by simp only [evalE]; exact (evalE_le a S h).bind fun x S => (evalE_le i S h).bind fun y S => .refl _
  | .slc a lo hi', e, e', S, h => by simp only [evalE]; exact (evalE_le a S h).bind fun x S => (evalO_le lo S h).bind fun l S => (evalO_le hi' S h).bind fun u S => .refl _
  | .rev a, e, e', S, h => by simp only [evalE]; exact (evalE_le a S h).bind fun x S => .refl _
  | .call f es, e, e', S, h => by simp only [evalE]; exact (evalL_le es S h).bind fun ds S => hc f ds S
  | .blt f es, e, e', S, h => by simp only [evalE]; exact (evalL_le es S h).bind fun ds S => .refl _
  | .mth m a es, e, e', S, h => by
    simp only [evalE]
    refine (evalE_le a S h).bind fun x S => ?_
    split
    · exact (evalL_le es S h).bind fun ds S => .refl _
    · exact .refl _
  | .fld a n, e, e', S, h => by simp only [evalE]; exact (evalE_le a S h).bind fun x S => .refl _
  | .inv a m es, e, e', S, h => by
    simp only [evalE, hm]
    refine (evalE_le a S h).bind fun x S => ?_
    cases x with
    | ref p =>
      dsimp only
      split
      · split
        · refine (evalL_le es S h).bind fun ds S => ?_
          split
          · split
            · exact hc _ _ _
            · exact .refl _
          · exact .refl _
        · exact .refl _
      · exact .refl _
    | _ => exact .refl _
  | .mk k es, e, e', S, h => by
    simp only [evalE, hi]
    refine (evalL_le es S h).bind fun ds S => ?_
    split
    · rename_i f hf
      rcases hc f (.ref S.length :: ds) (S ++ [.ins k []]) with q | q
      · rw [q]; exact .inl rfl
      · rw [q]; exact .refl _
    · exact .refl _
  | .comp elt tg it ifs vs, e, e', S, h => by
    simp only [evalE]
    refine (evalI_le it S h).bind fun src S => ?_
    exact compM_le (fun ds S' => if ds.length ≤ SZ then .ok (.lst ds) S' else .bad) (compL_le (own := src.own) (turn_le elt tg ifs vs (fun S h => evalE_le elt S h) (fun S h => evalTs_le ifs S h) h) src.items [] S)
  | .newC elt tg it ifs vs, e, e', S, h => by
    simp only [evalE]
    refine (evalI_le it S h).bind fun src S => ?_
    exact compM_le (fun ds S' => if ds.length ≤ SZ then .ok (.ref S'.length) (S' ++ [.lst ds]) else .bad) (compL_le (own := src.own) (turn_le elt tg ifs vs (fun S h => evalE_le elt S h) (fun S h => evalTs_le ifs S h) h) src.items [] S)
  | .fstr es, e, e', S, h => by simp only [evalE]; exact (evalL_le es S h).bind fun ds S => .refl _
theorem evalT_le : ∀ (x : T) {e e' : Env} (S : Sto), EL e e' → R.le (evalT P c x e S) (evalT P' c' x e' S)
  | .not a, e, e', S, h => by simp only [evalT]; exact (evalT_le a S h).bind fun k S => .refl _
  | .and a b, e, e', S, h => by
    simp only [evalT]
    refine (evalT_le a S h).bind fun k S => ?_
    split
    · exact evalT_le b S h
    · exact .refl _
  | .or a b, e, e', S, h => by
    simp only [evalT]
    refine (evalT_le a S h).bind fun k S => ?_
    split
    · exact .refl _
    · exact evalT_le b S h
  | .ife t a b, e, e', S, h => by
    simp only [evalT]
    refine (evalT_le t S h).bind fun k S => ?_
    split
    · exact evalT_le a S h
    · exact evalT_le b S h
  | .val a, e, e', S, h => by simp only [evalT]; exact (evalE_le a S h).bind fun x S => .refl _
theorem evalTs_le : ∀ (x : List T) {e e' : Env} (S : Sto), EL e e' → R.le (evalTs P c x e S) (evalTs P' c' x e' S)
  | [], e, e', S, h => by simp only [evalTs]; exact .refl _
  | t :: ts, e, e', S, h => by
    simp only [evalTs]
    refine (evalT_le t S h).bind fun k S => ?_
    split
    · exact evalTs_le ts S h
    · exact .refl _
theorem evalL_le : ∀ (x : List X) {e e' : Env} (S : Sto), EL e e' → R.le (evalL P c x e S) (evalL P' c' x e' S)
  | [], e, e', S, h => by simp only [evalL]; exact .refl _
  | t :: ts, e, e', S, h => by
    simp only [evalL]
    exact (evalE_le t S h).bind fun k S => (evalL_le ts S h).bind fun ds S => .refl _
theorem evalO_le : ∀ (x : Option X) {e e' : Env} (S : Sto), EL e e' → R.le (evalO P c x e S) (evalO P' c' x e' S)
  | none, e, e', S, h => by simp only [evalO]; exact .refl _
  | some t, e, e', S, h => by
    simp only [evalO]
    exact (evalE_le t S h).bind fun k S => .refl _
theorem evalI_le : ∀ (x : It) {e e' : Env} (S : Sto), EL e e' → R.le (evalI P c x e S) (evalI P' c' x e' S)
  | .seq a, e, e', S, h => by simp only [evalI]; exact (evalE_le a S h).bind fun k S => .refl _
  | .rng1 a, e, e', S, h => by simp only [evalI]; exact (evalE_le a S h).bind fun k S => .refl _
  | .rng2 a b, e, e', S, h => by simp only [evalI]; exact (evalE_le a S h).bind fun k S => (evalE_le b S h).bind fun k S => .refl _
  | .enum a, e, e', S, h => by simp only [evalI]; exact (evalE_le a S h).bind fun k S => .refl _
  | .zip a b, e, e', S, h => by simp only [evalI]; exact (evalE_le a S h).bind fun k S => (evalE_le b S h).bind fun k S => .refl _
  | .zip3 a b d, e, e', S, h => by simp only [evalI]; exact .refl _
  | .keys a, e, e', S, h => by simp only [evalI]; exact .refl _
  | .items a, e, e', S, h => by simp only [evalI]; exact .refl _
end
end
theorem O.le.refl (o : O) : O.le o o := by
  cases o <;> first | trivial | rfl | exact ⟨_, rfl, EL.refl _⟩
theorem O.le.andThen {o o' : O} {f f' : Env → Sto → O} (h : O.le o o') (hf : ∀ e e' S, EL e e' → O.le (f e S) (f' e' S)) : O.le (o.andThen f) (o'.andThen f') := by
  cases o with
  | next e S => obtain ⟨e', rfl, q⟩ := h; exact hf e e' S q
  | brk e S => obtain ⟨e', rfl, q⟩ := h; exact ⟨e', rfl, q⟩
  | cont e S => obtain ⟨e', rfl, q⟩ := h; exact ⟨e', rfl, q⟩
  | exc c e S => obtain ⟨e', rfl, q⟩ := h; exact ⟨e', rfl, q⟩
  | ret d S => simp only [O.le] at h; subst h; exact rfl
  | bad => trivial
theorem R.le.stm {α : Type} {r r' : R α} {e e' : Env} {f f' : α → Sto → O} (h : R.le r r') (q : EL e e') (hf : ∀ a S, O.le (f a S) (f' a S)) : O.le (r.stm e f) (r'.stm e' f') := by
  rcases h with rfl | rfl
  · trivial
  · cases r with
    | ok a S => exact hf a S
    | exc c S => exact ⟨e', rfl, q⟩
    | bad => trivial
theorem forL_le {own : List (Nat × List D)} {t t' : D → Env → Sto → O} (h : ∀ d e e' S, EL e e' → O.le (t d e S) (t' d e' S)) : ∀ (ds : List D) (e e' : Env) (S : Sto), EL e e' → O.le (forL own t ds e S) (forL own t' ds e' S)
  | [], e, e', S, q => by
    simp only [forL]
    split
    · exact ⟨e', rfl, q⟩
    · trivial
  | d :: ds, e, e', S, q => by
    simp only [forL]
    split
    · have := h d e e' S q
      cases ho : t d e S with
      | next e1 S1 => rw [ho] at this; obtain ⟨e1', h1, h2⟩ := this; rw [h1]; exact forL_le h ds e1 e1' S1 h2
      | cont e1 S1 => rw [ho] at this; obtain ⟨e1', h1, h2⟩ := this; rw [h1]; exact forL_le h ds e1 e1' S1 h2
      | brk e1 S1 => rw [ho] at this; obtain ⟨e1', h1, h2⟩ := this; rw [h1]; exact ⟨e1', rfl, h2⟩
      | exc c1 e1 S1 => rw [ho] at this; obtain ⟨e1', h1, h2⟩ := this; rw [h1]; exact ⟨e1', rfl, h2⟩
      | ret d1 S1 => rw [ho] at this; simp only [O.le] at this; rw [this]; exact rfl
      | bad => trivial
    · trivial
theorem whileL_le {t t' : Env → Sto → R Bool} {b b' : Env → Sto → O} (ht : ∀ e e' S, EL e e' → R.le (t e S) (t' e' S)) (h : ∀ e e' S, EL e e' → O.le (b e S) (b' e' S)) : ∀ (n : Nat) (e e' : Env) (S : Sto), EL e e' → O.le (whileL t b n e S) (whileL t' b' n e' S)
  | 0, e, e', S, q => by simp only [whileL]; trivial
  | n + 1, e, e', S, q => by
    simp only [whileL]
    rcases ht e e' S q with hr | hr
    · rw [hr]; trivial
    · rw [← hr]
      cases t e S with
      | ok k S1 =>
        cases k with
        | true =>
          have := h e e' S1 q
          dsimp only
          cases ho : b e S1 with
          | next e1 S1 => rw [ho] at this; obtain ⟨e1', h1, h2⟩ := this; rw [h1]; exact whileL_le ht h n e1 e1' S1 h2
          | cont e1 S1 => rw [ho] at this; obtain ⟨e1', h1, h2⟩ := this; rw [h1]; exact whileL_le ht h n e1 e1' S1 h2
          | brk e1 S1 => rw [ho] at this; obtain ⟨e1', h1, h2⟩ := this; rw [h1]; exact ⟨e1', rfl, h2⟩
          | exc c1 e1 S1 => rw [ho] at this; obtain ⟨e1', h1, h2⟩ := this; rw [h1]; exact ⟨e1', rfl, h2⟩
          | ret d1 S1 => rw [ho] at this; simp only [O.le] at this; rw [this]; exact rfl
          | bad => trivial
        | false => exact ⟨e', rfl, q⟩
      | exc c S1 => exact ⟨e', rfl, q⟩
      | bad => trivial
mutual
def stripS : St → List St
  | .wipe _ => []
  | .ite c a b => [.ite c (strips a) (strips b)]
  | .for tg it body => [.for tg it (strips body)]
  | .while c body => [.while c (strips body)]
  | .try body hs => [.try (strips body) (stripH hs)]
  | .expr e => [.expr e]
  | .asg t e => [.asg t e]
  | .sub o i e => [.sub o i e]
  | .sub2 o i o' i' e => [.sub2 o i o' i' e]
  | .fld o n e => [.fld o n e]
  | .ret e => [.ret e]
  | .retN => [.retN]
  | .pass => [.pass]
  | .cont => [.cont]
  | .brk => [.brk]
  | .raise c => [.raise c]
  | .nope => [.nope]
def strips : List St → List St
  | [] => []
  | s :: ss => stripS s ++ strips ss
def stripH : List (Nat × List St) → List (Nat × List St)
  | [] => []
  | (h, b) :: r => (h, strips b) :: stripH r
end
theorem execs_one {P : Prog} {c : Call} (s : St) (e : Env) (S : Sto) : execs P c [s] e S = execS P c s e S := by
  simp only [execs]
  cases execS P c s e S <;> rfl
theorem execs_ap {P : Prog} {c : Call} : ∀ (a b : List St) (e : Env) (S : Sto), execs P c (a ++ b) e S = (execs P c a e S).andThen fun e S => execs P c b e S
  | [], b, e, S => by simp only [List.nil_append, execs]; rfl
  | s :: a, b, e, S => by
    simp only [List.cons_append, execs]
    cases execS P c s e S with
    | next e1 S1 => exact execs_ap a b e1 S1
    | _ => rfl
section
variable {P P' : Prog} (hm : P'.meth = P.meth) (hi : P'.init = P.init) (hs : P'.sub = P.sub) (hn : P'.nx = P.nx) {c c' : Call} (hc : ∀ f ds S, R.le (c f ds S) (c' f ds S))
include hm hi hs hn hc
mutual
theorem execS_le : ∀ (s : St) {e e' : Env} (S : Sto), EL e e' → O.le (execS P c s e S) (execs P' c' (stripS s) e' S)
  | .wipe vs, e, e', S, q => by
    simp only [stripS, execS, execs]
    exact ⟨e', rfl, q.wipe vs⟩
  | .expr x, e, e', S, q => by
    simp only [stripS, execs_one, execS]
    exact (evalE_le hm hi hc x S q).stm q fun a S => ⟨e', rfl, q⟩
  | .asg t x, e, e', S, q => by
    simp only [stripS, execs_one, execS]
    refine (evalE_le hm hi hc x S q).stm q fun a S => ?_
    cases ht : setTg t a e with
    | none => trivial
    | some e1 =>
      obtain ⟨e1', h1, h2⟩ := setTg_le t a q ht
      rw [h1]
      exact ⟨e1', rfl, h2⟩
  | .sub o i x, e, e', S, q => by
    simp only [stripS, execs_one, execS]
    refine (evalE_le hm hi hc x S q).stm q fun a S => (evalE_le hm hi hc o S q).stm q fun b S => (evalE_le hm hi hc i S q).stm q fun d S => ?_
    split
    · exact ⟨e', rfl, q⟩
    · trivial
  | .sub2 o i o' i' x, e, e', S, q => by
    simp only [stripS, execs_one, execS]
    refine (evalE_le hm hi hc x S q).stm q fun a S => ?_
    split
    · refine (evalE_le hm hi hc o S q).stm q fun b S => (evalE_le hm hi hc i S q).stm q fun d S => ?_
      split
      · refine (evalE_le hm hi hc o' _ q).stm q fun b S => (evalE_le hm hi hc i' S q).stm q fun d S => ?_
        split
        · exact ⟨e', rfl, q⟩
        · trivial
      · trivial
    · trivial
  | .fld o n x, e, e', S, q => by
    simp only [stripS, execs_one, execS]
    refine (evalE_le hm hi hc x S q).stm q fun a S => (evalE_le hm hi hc o S q).stm q fun b S => ?_
    cases b with
    | ref p =>
      dsimp only
      split
      · split
        · exact ⟨e', rfl, q⟩
        · trivial
      · trivial
    | _ => trivial
  | .ret x, e, e', S, q => by
    simp only [stripS, execs_one, execS]
    exact (evalE_le hm hi hc x S q).stm q fun a S => rfl
  | .retN, e, e', S, q => by
    simp only [stripS, execs_one, execS]
    exact rfl
  | .ite t a b, e, e', S, q => by
    simp only [stripS, execs_one, execS]
    refine (evalT_le hm hi hc t S q).stm q fun k S => ?_
    cases k with
    | true => exact execs_le a S q
    | false => exact execs_le b S q
  | .for tg it body, e, e', S, q => by
    simp only [stripS, execs_one, execS]
    refine (evalI_le hm hi hc it S q).stm q fun src S => ?_
    refine forL_le (fun d e e' S q => ?_) src.items e e' S q
    cases ht : setTg tg d e with
    | none => trivial
    | some e1 =>
      obtain ⟨e1', h1, h2⟩ := setTg_le tg d q ht
      rw [h1]
      exact execs_le body S h2
  | .while t body, e, e', S, q => by
    simp only [stripS, execs_one, execS]
    exact whileL_le (fun e e' S q => evalT_le hm hi hc t S q) (fun e e' S q => execs_le body S q) 100000 e e' S q
  | .pass, e, e', S, q => by simp only [stripS, execs_one, execS]; exact ⟨e', rfl, q⟩
  | .cont, e, e', S, q => by simp only [stripS, execs_one, execS]; exact ⟨e', rfl, q⟩
  | .brk, e, e', S, q => by simp only [stripS, execs_one, execS]; exact ⟨e', rfl, q⟩
  | .raise k, e, e', S, q => by simp only [stripS, execs_one, execS]; exact ⟨e', rfl, q⟩
  | .nope, e, e', S, q => by simp only [stripS, execs_one, execS]; trivial
  | .try body hs', e, e', S, q => by
    simp only [stripS, execs_one, execS, hn]
    have := execs_le body S q
    cases ho : execs P c body e S with
    | exc k e1 S1 =>
      rw [ho] at this
      obtain ⟨e1', h1, h2⟩ := this
      rw [h1]
      dsimp only
      split
      · exact handle_le hs' k S1 h2
      · trivial
    | next e1 S1 => rw [ho] at this; obtain ⟨e1', h1, h2⟩ := this; rw [h1]; exact ⟨e1', rfl, h2⟩
    | cont e1 S1 => rw [ho] at this; obtain ⟨e1', h1, h2⟩ := this; rw [h1]; exact ⟨e1', rfl, h2⟩
    | brk e1 S1 => rw [ho] at this; obtain ⟨e1', h1, h2⟩ := this; rw [h1]; exact ⟨e1', rfl, h2⟩
    | ret d1 S1 => rw [ho] at this; simp only [O.le] at this; rw [this]; exact rfl
    | bad => trivial
theorem execs_le : ∀ (ss : List St) {e e' : Env} (S : Sto), EL e e' → O.le (execs P c ss e S) (execs P' c' (strips ss) e' S)
  | [], e, e', S, q => by simp only [strips, execs]; exact ⟨e', rfl, q⟩
  | s :: ss, e, e', S, q => by
    simp only [strips, execs_ap]
    simp only [execs]
    exact (execS_le s S q).andThen fun e e' S q => execs_le ss S q
theorem handle_le : ∀ (hs' : List (Nat × List St)) (k : Nat) {e e' : Env} (S : Sto), EL e e' → O.le (handle P c hs' k e S) (handle P' c' (stripH hs') k e' S)
  | [], k, e, e', S, q => by simp only [stripH, handle]; exact ⟨e', rfl, q⟩
  | (h, b) :: r, k, e, e', S, q => by
    have hsub : subOf P' k h = subOf P k h := by simp only [subOf, hs]
    simp only [stripH, handle, hsub]
    by_cases hb : subOf P k h = true
    · rw [if_pos hb, if_pos hb]
      have := execs_le b S q
      cases ho : execs P c b e S with
      | exc k e1 S1 => trivial
      | next e1 S1 => rw [ho] at this; obtain ⟨e1', h1, h2⟩ := this; rw [h1]; exact ⟨e1', rfl, h2⟩
      | cont e1 S1 => rw [ho] at this; obtain ⟨e1', h1, h2⟩ := this; rw [h1]; exact ⟨e1', rfl, h2⟩
      | brk e1 S1 => rw [ho] at this; obtain ⟨e1', h1, h2⟩ := this; rw [h1]; exact ⟨e1', rfl, h2⟩
      | ret d1 S1 => rw [ho] at this; simp only [O.le] at this; rw [this]; exact rfl
      | bad => trivial
    · rw [if_neg hb, if_neg hb]
      exact handle_le r k S q
end
end
/-- a def without what is forgotten -/
def stripD (d : Def) : Def := ⟨d.np, d.ns, strips d.body, d.gc⟩
theorem sweep_le {gc : Bool} {S S' : Sto} {d : D} {k : D → Sto → R D} : R.le (sweep gc S d S' k) (sweep gc S d S' k) := .refl _
theorem run_le {P P' : Prog} (hd : P'.defs = P.defs.map stripD) (hm : P'.meth = P.meth) (hi : P'.init = P.init) (hs : P'.sub = P.sub) (hn : P'.nx = P.nx) : ∀ (n f : Nat) (args : List D) (S : Sto), R.le (run P n f args S) (run P' n f args S)
  | 0, f, args, S => by simp only [run]; exact .refl _
  | n + 1, f, args, S => by
    simp only [run, hd, List.getElem?_map]
    cases hf : P.defs[f]? with
    | none => exact .refl _
    | some df =>
      simp only [Option.map_some, runDef, stripD]
      split
      · have := execs_le (P := P) (P' := P') hm hi hs hn (run_le hd hm hi hs hn n) df.body S (EL.refl (args.map some ++ List.replicate (df.ns - df.np) none))
        cases ho : execs P (run P n) df.body (args.map some ++ List.replicate (df.ns - df.np) none) S with
        | exc k e1 S1 => rw [ho] at this; obtain ⟨e1', h1, h2⟩ := this; rw [h1]; exact .refl _
        | next e1 S1 => rw [ho] at this; obtain ⟨e1', h1, h2⟩ := this; rw [h1]; exact .refl _
        | cont e1 S1 => rw [ho] at this; obtain ⟨e1', h1, h2⟩ := this; rw [h1]; exact .refl _
        | brk e1 S1 => rw [ho] at this; obtain ⟨e1', h1, h2⟩ := this; rw [h1]; exact .refl _
        | ret d1 S1 => rw [ho] at this; simp only [O.le] at this; rw [this]; exact .refl _
        | bad => exact .inl rfl
      · exact .refl _
theorem run_wiped {P P' : Prog} (hd : P'.defs = P.defs.map stripD) (hm : P'.meth = P.meth) (hi : P'.init = P.init) (hs : P'.sub = P.sub) (hn : P'.nx = P.nx) {n f : Nat} {args : List D} {S S' : Sto} {d : D} (h : run P n f args S = .ok d S') : run P' n f args S = .ok d S' := by
  rcases run_le hd hm hi hs hn n f args S with q | q
  · rw [h] at q; cases q
  · rw [← q]; exact h
end HW
/-! How values and heap of the layer bear data and store. -/
namespace HW
open PySem L2

abbrev sOf (x : List Nat) : Str := ⟨x.toArray⟩
/-- where the store's objects lie; beside them addresses that no data speaks of -/
structure Mu where
  l : List Addr
  h : List Addr
def Mu.length (μ : Mu) : Nat := μ.l.length
instance : Membership Addr Mu := ⟨fun μ a => a ∈ μ.l ∨ a ∈ μ.h⟩
instance : GetElem? Mu Nat Addr (fun μ i => i < μ.l.length) where
  getElem μ i h := μ.l[i]
  getElem? μ i := μ.l[i]?
instance : HAppend Mu (List Addr) Mu := ⟨fun μ m => ⟨μ.l ++ m, μ.h⟩⟩
theorem Mu.get_eq (μ : Mu) (n : Nat) : μ[n]? = μ.l[n]? := rfl
theorem Mu.app_l (μ : Mu) (m : List Addr) : (μ ++ m).l = μ.l ++ m := rfl
theorem Mu.app_h (μ : Mu) (m : List Addr) : (μ ++ m).h = μ.h := rfl
theorem Mu.mem (μ : Mu) (a : Addr) : a ∈ μ ↔ a ∈ μ.l ∨ a ∈ μ.h := Iff.rfl
theorem Mu.of_get {μ : Mu} {n : Nat} {a : Addr} (h : μ[n]? = some a) : a ∈ μ.l := List.mem_of_getElem? (l := μ.l) h
theorem Mu.app_lt {μ : Mu} {m : List Addr} {n : Nat} (h : n < μ.length) : (μ ++ m)[n]? = μ[n]? := List.getElem?_append_left (l₁ := μ.l) h
theorem Mu.app_ge {μ : Mu} {m : List Addr} {n : Nat} (h : μ.length ≤ n) : (μ ++ m)[n]? = m[n - μ.length]? := List.getElem?_append_right (l₁ := μ.l) h
theorem Mu.get_lt {μ : Mu} {n : Nat} {a : Addr} (h : μ[n]? = some a) : n < μ.length := (List.getElem?_eq_some_iff.mp (show μ.l[n]? = some a from h)).1
theorem Mu.app_at (μ : Mu) (a : Addr) : (μ ++ [a])[μ.length]? = some a := by rw [Mu.app_ge (Nat.le_refl _)]; simp
theorem Mu.app_mem {μ : Mu} {p a : Addr} : a ∈ μ ++ [p] ↔ a ∈ μ ∨ a = p := by
  simp only [Mu.mem, Mu.app_l, Mu.app_h, List.mem_append, List.mem_singleton]
  constructor
  · rintro ((h | h) | h)
    · exact .inl (.inl h)
    · exact .inr h
    · exact .inl (.inr h)
  · rintro ((h | h) | h)
    · exact .inl (.inl h)
    · exact .inr h
    · exact .inl (.inr h)
theorem Mu.app_app (μ : Mu) (m m' : List Addr) : μ ++ m ++ m' = μ ++ (m ++ m') := by
  show (⟨μ.l ++ m ++ m', μ.h⟩ : Mu) = ⟨μ.l ++ (m ++ m'), μ.h⟩
  rw [List.append_assoc]
/-- an address of the store that may be written -/
structure Wr (μ : Mu) (a : Addr) : Prop where
  l : a ∈ μ.l
  h : a ∉ μ.h
mutual
/-- a value v bears the data d -/
inductive RV (H : Hp) (μ : Mu) : V → D → Prop
  | non : RV H μ .non .non
  | bl (b : Bool) : RV H μ (.bl b) (.bl b)
  | int (i : Int) : RV H μ (.int i) (.int i)
  | str (x : List Nat) : cpsOk x = true → RV H μ (.str (sOf x)) (.str x)
  | tup {a : Addr} {xs : List V} {ds : List D} : H a = some (.tup xs) → a ∉ μ → RVs H μ xs ds → RV H μ (.ref a) (.tup ds)
  | lst {a : Addr} {xs : List V} {ds : List D} : Rd H a (.lst xs) → a ∉ μ → RVs H μ xs ds → RV H μ (.ref a) (.lst ds)
  | ref {a : Addr} {n : Nat} : μ[n]? = some a → RV H μ (.ref a) (.ref n)
inductive RVs (H : Hp) (μ : Mu) : List V → List D → Prop
  | nil : RVs H μ [] []
  | cons {v : V} {vs : List V} {d : D} {ds : List D} : RV H μ v d → RVs H μ vs ds → RVs H μ (v :: vs) (d :: ds)
end

/-- the heap goes on: what is no object of the store stays, the store's list of addresses grows by new ones -/
structure Ext (H : Hp) (μ : Mu) (H' : Hp) (μ' : Mu) : Prop where
  kp : ∀ a o, H a = some o → a ∉ μ.l → H' a = some o
  grow : ∃ m : List Addr, μ' = μ ++ m
  new : ∀ a, a ∈ μ'.l → a ∈ μ.l ∨ H a = none
section
variable {H H1 H2 : Hp} {μ μ1 μ2 : Mu}
theorem Ext.keep (e : Ext H μ H1 μ1) (a : Addr) (o : HO) (h : H a = some o) (n : a ∉ μ) : H1 a = some o := e.kp a o h fun z => n (.inl z)
theorem Ext.refl (H : Hp) (μ : Mu) : Ext H μ H μ := ⟨fun _ _ h _ => h, ⟨[], by show μ = ⟨μ.l ++ [], μ.h⟩; simp⟩, fun _ h => .inl h⟩
theorem Ext.mem (e : Ext H μ H1 μ1) {a : Addr} (h : a ∈ μ) : a ∈ μ1 := by
  obtain ⟨m, rfl⟩ := e.grow
  rcases h with h | h
  · exact .inl (List.mem_append_left _ h)
  · exact .inr h
theorem Ext.hh (e : Ext H μ H1 μ1) : μ1.h = μ.h := by
  obtain ⟨m, rfl⟩ := e.grow
  rfl
theorem Ext.out (e : Ext H μ H1 μ1) {a : Addr} {o : HO} (h : H a = some o) (n : a ∉ μ) : a ∉ μ1 := fun z => by
  rcases z with z | z
  · rcases e.new a z with z | z
    · exact n (.inl z)
    · rw [z] at h; cases h
  · rw [e.hh] at z
    exact n (.inr z)
theorem Ext.get (e : Ext H μ H1 μ1) {a : Addr} {n : Nat} (h : μ[n]? = some a) : μ1[n]? = some a := by
  obtain ⟨m, rfl⟩ := e.grow
  rw [Mu.app_lt (Mu.get_lt h)]
  exact h
theorem Ext.trans (e : Ext H μ H1 μ1) (f : Ext H1 μ1 H2 μ2) : Ext H μ H2 μ2 := by
  refine ⟨fun a o h n => f.kp a o (e.kp a o h n) ?_, ?_, fun a h => ?_⟩
  · intro z
    rcases e.new a z with z' | z'
    · exact n z'
    · rw [z'] at h; cases h
  · obtain ⟨m, rfl⟩ := e.grow
    obtain ⟨m', rfl⟩ := f.grow
    exact ⟨m ++ m', Mu.app_app _ _ _⟩
  · rcases f.new a h with h | h
    · exact e.new a h
    · by_cases z : a ∈ μ.l
      · exact .inl z
      · refine .inr ?_
        cases q : H a with
        | none => rfl
        | some o => rw [e.kp a o q z] at h; cases h
theorem Rd.some {a : Addr} {u : HO} (h : Rd H a u) : ∃ o, H a = some o := by
  rcases h with h | ⟨o, h⟩
  · exact ⟨_, h⟩
  · exact ⟨_, h⟩
theorem Rd.ext {a : Addr} {u : HO} (e : Ext H μ H1 μ1) (h : Rd H a u) (n : a ∉ μ) : Rd H1 a u := by
  rcases h with h | ⟨o, h⟩
  · exact .inl (e.keep _ _ h n)
  · exact .inr ⟨o, e.keep _ _ h n⟩
mutual
theorem RV.ext (e : Ext H μ H1 μ1) : ∀ {d : D} {v : V}, RV H μ v d → RV H1 μ1 v d
  | .non, _, h => by cases h; exact .non
  | .bl _, _, h => by cases h; exact .bl _
  | .int _, _, h => by cases h; exact .int _
  | .str _, _, h => by cases h with | str _ h => exact .str _ h
  | .ref _, _, h => by cases h with | ref h => exact .ref (e.get h)
  | .tup ds, _, h => by
    cases h with
    | tup h n r => exact .tup (e.keep _ _ h n) (e.out h n) (RVs.ext e r)
  | .lst ds, _, h => by
    cases h with
    | lst h n r =>
      obtain ⟨o, ho⟩ := Rd.some h
      exact .lst (Rd.ext e h n) (e.out ho n) (RVs.ext e r)
theorem RVs.ext (e : Ext H μ H1 μ1) : ∀ {ds : List D} {vs : List V}, RVs H μ vs ds → RVs H1 μ1 vs ds
  | [], _, h => by cases h; exact .nil
  | d :: ds, _, h => by cases h with | cons a b => exact .cons (RV.ext e a) (RVs.ext e b)
end
theorem RVs.length : ∀ {vs : List V} {ds : List D}, RVs H μ vs ds → vs.length = ds.length
  | _, [], h => by cases h; rfl
  | _, d :: ds, h => by cases h with | cons a b => simp [RVs.length b]
theorem RVs.get : ∀ {vs : List V} {ds : List D} {i : Nat} {d : D}, RVs H μ vs ds → ds[i]? = some d → ∃ v, vs[i]? = some v ∧ RV H μ v d
  | _, [], _, _, h, e => by simp at e
  | _, d :: ds, 0, _, h, e => by
    cases h with
    | cons a b => simp at e; subst e; exact ⟨_, rfl, a⟩
  | _, d :: ds, i + 1, _, h, e => by
    cases h with
    | cons a b =>
      obtain ⟨v, h1, h2⟩ := RVs.get (i := i) b (by simpa using e)
      exact ⟨v, by simpa using h1, h2⟩
theorem RVs.getV : ∀ {vs : List V} {ds : List D} {i : Nat} {v : V}, RVs H μ vs ds → vs[i]? = some v → ∃ d, ds[i]? = some d ∧ RV H μ v d
  | _, [], _, _, h, e => by cases h; simp at e
  | _, d :: ds, 0, _, h, e => by
    cases h with
    | cons a b => simp at e; subst e; exact ⟨_, rfl, a⟩
  | _, d :: ds, i + 1, _, h, e => by
    cases h with
    | cons a b =>
      obtain ⟨v, h1, h2⟩ := RVs.getV (i := i) b (by simpa using e)
      exact ⟨v, by simpa using h1, h2⟩
theorem RVs.append : ∀ {vs ws : List V} {ds es : List D}, RVs H μ vs ds → RVs H μ ws es → RVs H μ (vs ++ ws) (ds ++ es)
  | _, _, [], _, h, g => by cases h; exact g
  | _, _, d :: ds, _, h, g => by cases h with | cons a b => exact .cons a (RVs.append b g)
theorem RVs.set {v : V} {d : D} (r : RV H μ v d) : ∀ {vs : List V} {ds : List D} (i : Nat), RVs H μ vs ds → RVs H μ (vs.set i v) (ds.set i d)
  | _, [], _, h => by cases h; exact .nil
  | _, _ :: ds, 0, h => by cases h with | cons a b => exact .cons r b
  | _, _ :: ds, i + 1, h => by cases h with | cons a b => exact .cons a (RVs.set r i b)
theorem RVs.take : ∀ {vs : List V} {ds : List D} (n : Nat), RVs H μ vs ds → RVs H μ (vs.take n) (ds.take n)
  | _, [], n, h => by cases h; simp; exact .nil
  | _, _ :: _, 0, h => by simp; exact .nil
  | _, _ :: ds, n + 1, h => by cases h with | cons a b => exact .cons a (RVs.take n b)
theorem RVs.drop : ∀ {vs : List V} {ds : List D} (n : Nat), RVs H μ vs ds → RVs H μ (vs.drop n) (ds.drop n)
  | _, [], n, h => by cases h; simp; exact .nil
  | _, _ :: _, 0, h => h
  | _, _ :: ds, n + 1, h => by cases h with | cons a b => exact RVs.drop n b
theorem RVs.reverse : ∀ {vs : List V} {ds : List D}, RVs H μ vs ds → RVs H μ vs.reverse ds.reverse
  | _, [], h => by cases h; exact .nil
  | _, _ :: ds, h => by
    cases h with
    | cons a b =>
      simp only [List.reverse_cons]
      exact RVs.append (RVs.reverse b) (.cons a .nil)
theorem RVs.flatten : ∀ {n : Nat} {vs : List V} {ds : List D}, RVs H μ vs ds → RVs H μ (List.replicate n vs).flatten (List.replicate n ds).flatten
  | 0, _, _, _ => .nil
  | n + 1, _, _, h => by
    simp only [List.replicate_succ, List.flatten_cons]
    exact RVs.append h (RVs.flatten h)
theorem RVs.eraseIdx : ∀ {vs : List V} {ds : List D} (i : Nat), RVs H μ vs ds → RVs H μ (vs.eraseIdx i) (ds.eraseIdx i)
  | _, [], _, h => by cases h; exact .nil
  | _, _ :: _, 0, h => by cases h with | cons a b => exact b
  | _, _ :: ds, i + 1, h => by cases h with | cons a b => exact .cons a (RVs.eraseIdx i b)
theorem RVs.dropLast : ∀ {vs : List V} {ds : List D}, RVs H μ vs ds → RVs H μ vs.dropLast ds.dropLast := fun {vs ds} h => by
  rw [List.dropLast_eq_take, List.dropLast_eq_take, h.length]
  exact h.take _
/-- ints, truths, texts -/
theorem RVs.ints : ∀ {ds : List D} {vs : List V} {ns : List Int}, RVs H μ vs ds → intsOf ds = Option.some ns → vs = ns.map V.int
  | [], _, _, h, e => by cases h; cases e; rfl
  | d :: ds, _, ns, h, e => by
    cases h with
    | cons a b =>
      cases d with
      | int i =>
        simp only [intsOf] at e
        cases q : intsOf ds with
        | none => rw [q] at e; cases e
        | some ms =>
          rw [q] at e
          cases e
          cases a
          rw [RVs.ints b q]
          rfl
      | _ => simp [intsOf] at e
theorem RVs.bls : ∀ {ds : List D} {vs : List V} {ns : List Bool}, RVs H μ vs ds → blsOf ds = Option.some ns → vs = ns.map V.bl
  | [], _, _, h, e => by cases h; cases e; rfl
  | d :: ds, _, ns, h, e => by
    cases h with
    | cons a b =>
      cases d with
      | bl i =>
        simp only [blsOf] at e
        cases q : blsOf ds with
        | none => rw [q] at e; cases e
        | some ms =>
          rw [q] at e
          cases e
          cases a
          rw [RVs.bls b q]
          rfl
      | _ => simp [blsOf] at e
theorem RVs.strs : ∀ {ds : List D} {vs : List V} {ns : List (List Nat)}, RVs H μ vs ds → strsOf ds = Option.some ns → vs = ns.map (fun x => V.str (sOf x)) ∧ ∀ x ∈ ns, cpsOk x = true
  | [], _, _, h, e => by cases h; cases e; exact ⟨rfl, fun _ z => by cases z⟩
  | d :: ds, _, ns, h, e => by
    cases h with
    | cons a b =>
      cases d with
      | str i =>
        simp only [strsOf] at e
        cases q : strsOf ds with
        | none => rw [q] at e; cases e
        | some ms =>
          rw [q] at e
          cases e
          cases a with
          | str _ ok =>
            obtain ⟨h1, h2⟩ := RVs.strs b q
            rw [h1]
            refine ⟨rfl, fun x hx => ?_⟩
            rcases List.mem_cons.mp hx with rfl | hx
            · exact ok
            · exact h2 x hx
      | _ => simp [strsOf] at e
end

/-! ### the store -/
/-- a key as the layer's: an int, a text -/
def keyOf : D → Option Key
  | .int i => some (.inl i)
  | .str x => some (.inr (sOf x))
  | _ => none
def keysOf : List D → Option (List Key)
  | [] => some []
  | d :: ds => match keyOf d, keysOf ds with
    | some k, some ks => some (k :: ks)
    | _, _ => none
/-- names of attributes by number, classes' addresses by number -/
structure Tie where
  fld : Nat → Option Str
  cls : Nat → Addr
  okc : Nat → Bool
  xc : Nat → Addr
def KeyR (k : Key) (d : D) : Prop := keyOf d = some k ∧ ∀ x, d = .str x → cpsOk x = true
def KeysR : List Key → List D → Prop
  | [], [] => True
  | k :: ks, d :: ds => KeyR k d ∧ KeysR ks ds
  | _, _ => False
def TKeyR (ks : List Key) (d : D) : Prop := ∃ ds, d = .tup ds ∧ KeysR ks ds
def ObR (T : Tie) (H : Hp) (μ : Mu) (a : Addr) : Ob → Prop
  | .lst ds => ∃ xs, H a = some (.lst xs) ∧ RVs H μ xs ds
  | .dct kvs => (∃ kv, H a = some (.dK kv) ∧ Paired (fun (p : Key × V) (q : D × D) => KeyR p.1 q.1 ∧ RV H μ p.2 q.2) kv kvs) ∨
      ∃ kv, H a = some (.dT kv) ∧ Paired (fun (p : List Key × V) (q : D × D) => TKeyR p.1 q.1 ∧ RV H μ p.2 q.2) kv kvs
  | .ins c fs => T.okc c = true ∧ ∃ dx xs, H a = some (.ins (T.cls c) dx xs) ∧ Paired (fun (p : Str × V) (q : Nat × D) => T.fld q.1 = some p.1 ∧ RV H μ p.2 q.2) xs fs
structure SRel (T : Tie) (H : Hp) (μ : Mu) (S : Sto) : Prop where
  len : μ.length = S.length
  nd : μ.l.Nodup
  hd : ∀ a, a ∈ μ.h → a ∉ μ.l ∧ ∃ xs, H a = some (.lst xs)
  ob : ∀ (n : Nat) (a : Addr) (o : Ob), μ[n]? = some a → S[n]? = some o → ObR T H μ a o
section
variable {T : Tie} {H H1 H2 : Hp} {μ μ1 μ2 : Mu} {S : Sto}
theorem Paired.mapR {α β : Type} {F G : α → β → Prop} : ∀ {l₁ : List α} {l₂ : List β}, Paired F l₁ l₂ → (∀ a b, F a b → G a b) → Paired G l₁ l₂
  | _, _, .nil, _ => .nil
  | _, _, .cons r t, f => .cons (f _ _ r) (Paired.mapR t f)
theorem ObR.ext {a : Addr} {o : Ob} (e : Ext H μ H1 μ1) (ha : H1 a = H a) (h : ObR T H μ a o) : ObR T H1 μ1 a o := by
  cases o with
  | lst ds =>
    obtain ⟨xs, h1, h2⟩ := h
    exact ⟨xs, ha.trans h1, h2.ext e⟩
  | dct kvs =>
    rcases h with ⟨kv, h1, h2⟩ | ⟨kv, h1, h2⟩
    · exact .inl ⟨kv, ha.trans h1, Paired.mapR h2 fun _ _ z => ⟨z.1, z.2.ext e⟩⟩
    · exact .inr ⟨kv, ha.trans h1, Paired.mapR h2 fun _ _ z => ⟨z.1, z.2.ext e⟩⟩
  | ins c fs =>
    obtain ⟨hc, dx, xs, h1, h2⟩ := h
    exact ⟨hc, dx, xs, ha.trans h1, Paired.mapR h2 fun _ _ z => ⟨z.1, z.2.ext e⟩⟩
theorem ObR.there {a : Addr} {o : Ob} (h : ObR T H μ a o) : ∃ u, H a = some u := by
  cases o with
  | lst ds => obtain ⟨xs, h1, _⟩ := h; exact ⟨_, h1⟩
  | dct kvs =>
    rcases h with ⟨kv, h1, h2⟩ | ⟨kv, h1, h2⟩
    · exact ⟨_, h1⟩
    · exact ⟨_, h1⟩
  | ins c fs => obtain ⟨_, dx, xs, h1, h2⟩ := h; exact ⟨_, h1⟩
theorem SRel.there (s : SRel T H μ S) {a : Addr} (h : a ∈ μ) : ∃ u, H a = some u := by
  rcases h with h | h
  · obtain ⟨n, hn⟩ := List.getElem?_of_mem h
    have hl : n < S.length := by rw [← s.len]; exact (List.getElem?_eq_some_iff.mp hn).1
    exact (s.ob n a _ hn (List.getElem?_eq_getElem hl)).there
  · obtain ⟨xs, e⟩ := (s.hd a h).2
    exact ⟨_, e⟩
theorem SRel.wr (s : SRel T H μ S) {a : Addr} {n : Nat} (h : μ[n]? = some a) : Wr μ a := ⟨Mu.of_get h, fun z => (s.hd a z).1 (Mu.of_get h)⟩
theorem SRel.fresh (s : SRel T H μ S) {a : Addr} (h : H a = none) : a ∉ μ := fun z => by
  obtain ⟨u, e⟩ := s.there z
  rw [h] at e; cases e
theorem SRel.at (s : SRel T H μ S) {n : Nat} {o : Ob} (h : S[n]? = some o) : ∃ a, μ[n]? = some a ∧ ObR T H μ a o := by
  have hl : n < μ.l.length := by rw [show μ.l.length = S.length from s.len]; exact (List.getElem?_eq_some_iff.mp h).1
  exact ⟨μ.l[n], List.getElem?_eq_getElem hl, s.ob n _ o (List.getElem?_eq_getElem hl) h⟩
/-- a new object beside the store -/
theorem Ext.side {a : Addr} {u : HO} (h : H a = none) : Ext H μ (upd H a u) μ :=
  ⟨fun b o e _ => by rw [upd_ne (ne_of_none e h)]; exact e, ⟨[], by show μ = ⟨μ.l ++ [], μ.h⟩; simp⟩, fun _ z => .inl z⟩
theorem SRel.side (s : SRel T H μ S) {a : Addr} {u : HO} (h : H a = none) : SRel T (upd H a u) μ S := by
  refine ⟨s.len, s.nd, fun b z => ⟨(s.hd b z).1, ?_⟩, fun n b o h1 h2 => ?_⟩
  · obtain ⟨w, e⟩ := (s.hd b z).2
    exact ⟨w, by rw [upd_ne (ne_of_none e h)]; exact e⟩
  · have q := s.ob n b o h1 h2
    obtain ⟨w, e⟩ := q.there
    exact q.ext (Ext.side h) (upd_ne (ne_of_none e h))
/-- .. a new one of the store -/
theorem Ext.push {a : Addr} {u : HO} (h : H a = none) : Ext H μ (upd H a u) (μ ++ [a]) :=
  ⟨fun b o e _ => by rw [upd_ne (ne_of_none e h)]; exact e, ⟨[a], rfl⟩, fun b z => by
    rcases List.mem_append.mp z with z | z
    · exact .inl z
    · simp at z; subst z; exact .inr h⟩
theorem SRel.push (s : SRel T H μ S) {a : Addr} {u : HO} {o : Ob} (h : H a = none) (q : ObR T (upd H a u) (μ ++ [a]) a o) : SRel T (upd H a u) (μ ++ [a]) (S ++ [o]) := by
  refine ⟨by show (μ.l ++ [a]).length = _; simp; exact s.len, ?_, fun b z => ?_, fun n b ob h1 h2 => ?_⟩
  · refine List.nodup_append.mpr ⟨s.nd, by simp, fun x hx y hy => ?_⟩
    simp at hy
    subst hy
    exact fun e => s.fresh h (e ▸ .inl hx)
  · obtain ⟨n, w, e⟩ := s.hd b z
    refine ⟨fun z' => ?_, w, by rw [upd_ne (ne_of_none e h)]; exact e⟩
    rcases List.mem_append.mp z' with z' | z'
    · exact n z'
    · simp at z'; subst z'; rw [h] at e; cases e
  · by_cases hn : n < μ.length
    · rw [Mu.app_lt hn] at h1
      rw [List.getElem?_append_left (by rw [← s.len]; exact hn)] at h2
      have q := s.ob n b ob h1 h2
      obtain ⟨w, e⟩ := q.there
      exact q.ext (Ext.push h) (upd_ne (ne_of_none e h))
    · have hle : μ.length ≤ n := by omega
      rw [Mu.app_ge hle] at h1
      rw [List.getElem?_append_right (by rw [← s.len]; exact hle)] at h2
      rw [← s.len] at h2
      cases e : n - μ.length with
      | zero =>
        rw [e] at h1 h2
        simp at h1 h2
        subst h1; subst h2
        exact q
      | succ m =>
        rw [e] at h1
        simp at h1
/-- an object of the store is written -/
theorem Ext.write {a : Addr} {u : HO} (h : Wr μ a) : Ext H μ (upd H a u) μ :=
  ⟨fun b o e n => by rw [upd_ne (show b ≠ a from fun z => n (by rw [z]; exact h.l))]; exact e, ⟨[], by show μ = ⟨μ.l ++ [], μ.h⟩; simp⟩, fun _ z => .inl z⟩
theorem nodup_at {N : List Addr} (hN : N.Nodup) {i j : Nat} {x : Addr} (a : N[i]? = some x) (b : N[j]? = some x) : i = j := by
  obtain ⟨h1, e1⟩ := List.getElem?_eq_some_iff.mp a
  obtain ⟨h2, e2⟩ := List.getElem?_eq_some_iff.mp b
  exact (List.getElem_inj hN).mp (e1.trans e2.symm)
theorem SRel.write (s : SRel T H μ S) {n : Nat} {a : Addr} {u : HO} {o : Ob} (hn : μ[n]? = some a) (q : ObR T (upd H a u) μ a o) : SRel T (upd H a u) μ (S.set n o) := by
  have ha := s.wr hn
  refine ⟨by rw [s.len]; simp, s.nd, fun b z => ⟨(s.hd b z).1, ?_⟩, fun m b ob h1 h2 => ?_⟩
  · obtain ⟨w, e⟩ := (s.hd b z).2
    exact ⟨w, by rw [upd_ne (show b ≠ a from fun q => ha.h (by rw [← q]; exact z))]; exact e⟩
  · by_cases e : m = n
    · subst e
      rw [hn] at h1
      cases h1
      have hl : m < S.length := by rw [← s.len]; exact Mu.get_lt hn
      rw [List.getElem?_set_self hl] at h2
      cases h2
      exact q
    · rw [List.getElem?_set_ne (Ne.symm e)] at h2
      have hb : b ≠ a := fun z => by
        subst z
        exact e (nodup_at s.nd h1 hn)
      exact (s.ob m b ob h1 h2).ext (Ext.write ha) (upd_ne hb)
end
end HW
/-! Readings of the layer by the interpreter's results. -/
namespace HW
open PySem L2

structure EnvR (H : Hp) (μ : Mu) (σ : L2.St) (env : Env) : Prop where
  len : σ.length = env.length
  get : ∀ (i : Nat) (d : D), env[i]? = some (some d) → ∃ v, σ[i]? = some (some v) ∧ RV H μ v d
theorem EnvR.ext {H H1 : Hp} {μ μ1 : Mu} {σ : L2.St} {env : Env} (r : EnvR H μ σ env) (e : Ext H μ H1 μ1) : EnvR H1 μ1 σ env :=
  ⟨r.len, fun i d h => let ⟨v, h1, h2⟩ := r.get i d h; ⟨v, h1, h2.ext e⟩⟩
theorem EnvR.set {H : Hp} {μ : Mu} {σ : L2.St} {env : Env} (r : EnvR H μ σ env) {v : V} {d : D} (i : Nat) (h : RV H μ v d) : EnvR H μ (σ.set i (some v)) (env.set i (some d)) := by
  refine ⟨by simp [r.len], fun j e hj => ?_⟩
  by_cases q : j = i
  · subst q
    by_cases hl : j < env.length
    · rw [List.getElem?_set_self hl] at hj
      cases hj
      exact ⟨v, by rw [List.getElem?_set_self (by rw [r.len]; exact hl)], h⟩
    · rw [List.getElem?_eq_none (by simp; omega)] at hj
      cases hj
  · rw [List.getElem?_set_ne (Ne.symm q)] at hj
    obtain ⟨w, h1, h2⟩ := r.get j e hj
    exact ⟨w, by rw [List.getElem?_set_ne (Ne.symm q)]; exact h1, h2⟩
theorem EnvR.wipe {H : Hp} {μ : Mu} {σ : L2.St} {env : Env} (r : EnvR H μ σ env) : ∀ vs : List Nat, EnvR H μ (wipe σ vs) (wipeE env vs)
  | [] => r
  | v :: vs => by
    have ih := r.wipe vs
    unfold L2.wipe wipeE
    refine ⟨by simp [ih.len], fun j e hj => ?_⟩
    by_cases q : j = v
    · subst q
      by_cases hl : j < (wipeE env vs).length
      · rw [List.getElem?_set_self hl] at hj; cases hj
      · rw [List.getElem?_eq_none (by simp; omega)] at hj; cases hj
    · rw [List.getElem?_set_ne (Ne.symm q)] at hj
      obtain ⟨w, h1, h2⟩ := ih.get j e hj
      exact ⟨w, by rw [List.getElem?_set_ne (Ne.symm q)]; exact h1, h2⟩

section
variable {α β γ δ : Type} {T : Tie}
abbrev VR (α β : Type) := Hp → Mu → β → α → Prop
/-- behind a run of the interpreter: every heap that bears its result -/
def Aft (T : Tie) (rel : VR α β) (W : Nat → Hp → Prop) (H : Hp) (μ : Mu) (r : R α) (Q : β → Hp → Prop) : Prop :=
  match r with
  | .ok d S' => ∀ v H' μ', Ext H μ H' μ' → SRel T H' μ' S' → rel H' μ' v d → Q v H'
  | .exc c S' => ∀ H' μ', Ext H μ H' μ' → SRel T H' μ' S' → W c H'
  | .bad => False
theorem Aft.mono {rel : VR α β} {W : Nat → Hp → Prop} {H : Hp} {μ : Mu} {r : R α} {Q Q' : β → Hp → Prop} (h : Aft T rel W H μ r Q) (q : ∀ v H', Q v H' → Q' v H') : Aft T rel W H μ r Q' := by
  cases r with
  | ok d S => exact fun v H' μ' e s x => q v H' (h v H' μ' e s x)
  | exc c S => exact h
  | bad => exact h
theorem Aft.ext {rel : VR α β} {W : Nat → Hp → Prop} {H H1 : Hp} {μ μ1 : Mu} {r : R α} {Q : β → Hp → Prop} (h : Aft T rel W H μ r Q) (e : Ext H μ H1 μ1) : Aft T rel W H1 μ1 r Q := by
  cases r with
  | ok d S => exact fun v H' μ' f s x => h v H' μ' (e.trans f) s x
  | exc c S => exact fun H' μ' f s => h H' μ' (e.trans f) s
  | bad => exact h
theorem Aft.bind {rel : VR α β} {rel' : VR γ δ} {W : Nat → Hp → Prop} {H : Hp} {μ : Mu} {r : R α} {f : α → Sto → R γ} {Q : δ → Hp → Prop} (h : Aft T rel' W H μ (r.bind f) Q) :
    Aft T rel W H μ r (fun v H1 => ∃ μ1 S1 d, Ext H μ H1 μ1 ∧ SRel T H1 μ1 S1 ∧ rel H1 μ1 v d ∧ Aft T rel' W H1 μ1 (f d S1) Q) := by
  cases r with
  | ok d S => exact fun v H' μ' e s x => ⟨μ', S, d, e, s, x, Aft.ext (r := f d S) h e⟩
  | exc c S => exact h
  | bad => exact h
theorem Aft.ok {rel : VR α β} {W : Nat → Hp → Prop} {H H' : Hp} {μ μ' : Mu} {d : α} {S : Sto} {Q : β → Hp → Prop} (h : Aft T rel W H μ (.ok d S) Q) (v : β) (e : Ext H μ H' μ') (s : SRel T H' μ' S) (x : rel H' μ' v d) : Q v H' := h v H' μ' e s x
theorem Aft.here {rel : VR α β} {W : Nat → Hp → Prop} {H : Hp} {μ : Mu} {d : α} {S : Sto} {Q : β → Hp → Prop} (h : Aft T rel W H μ (.ok d S) Q) (v : β) (s : SRel T H μ S) (x : rel H μ v d) : Q v H := h v H μ (Ext.refl _ _) s x
theorem Aft.of {rel : VR α β} {W : Nat → Hp → Prop} {H : Hp} {μ : Mu} {o : Option α} {S : Sto} {Q : β → Hp → Prop} (h : Aft T rel W H μ (R.of o S) Q) : ∃ d, o = some d ∧ Aft T rel W H μ (.ok d S) Q := by
  cases o with
  | none => exact h.elim
  | some d => exact ⟨d, rfl, h⟩

/-- what is wanted of errors, by their number -/
abbrev WN := Nat → L2.St → Hp → Prop
/-- an expression's reading by the interpreter -/
def rd (T : Tie) (rel : VR α β) (W : WN) (r : Env → Sto → R α) : L2.St → Hp → (β → Hp → Prop) → Prop := fun σ H Q =>
  ∃ env S μ, EnvR H μ σ env ∧ SRel T H μ S ∧ Aft T rel (fun c H' => W c σ H') H μ (r env S) Q
end
/-- the same in a row with the one that it is shown from -/
theorem pe_imp {X : Cx} {e : Expr} {t t' : TE} (h : PE X e t) (i : ∀ σ H Q, t' σ H Q → t σ H Q) : PE X e t' := ⟨fun pins s σ H Q I q => h.run pins s σ H Q I (i σ H Q q)⟩
theorem pt_imp {X : Cx} {e : Expr} {t t' : TT} (h : PT X e t) (i : ∀ σ H Q, t' σ H Q → t σ H Q) : PT X e t' := ⟨fun pins s σ H Q I q => h.run pins s σ H Q I (i σ H Q q)⟩
theorem pw_imp {X : Cx} {e : Expr} {t t' : TT} (h : PW X e t) (i : ∀ σ H Q, t' σ H Q → t σ H Q) : PW X e t' := ⟨fun wh pins s σ H Q I q => h.run wh pins s σ H Q I (i σ H Q q)⟩
theorem pa_imp {X : Cx} {e : List Expr} {t t' : TA} (h : PA X e t) (i : ∀ σ H Q, t' σ H Q → t σ H Q) : PA X e t' := ⟨fun pos pins s σ H Q I q => h.run pos pins s σ H Q I (i σ H Q q)⟩
theorem ps_imp {X : Cx} {e : Stmt} {t t' : TS} (h : PS X e t) (i : ∀ D σ H, t' D σ H → t D σ H) : PS X e t' := ⟨fun pins s σ H D I q => h.run pins s σ H D I (i D σ H q)⟩
theorem pss_imp {X : Cx} {e : List Stmt} {t t' : TS} (h : PSs X e t) (i : ∀ D σ H, t' D σ H → t D σ H) : PSs X e t' := ⟨fun pins s σ H D I q => h.run pins s σ H D I (i D σ H q)⟩
theorem pi_imp {X : Cx} {tg e : Expr} {t t' : TI} (h : PI X tg e t) (i : ∀ σ H R, t' σ H R → t σ H R) : PI X tg e t' := ⟨fun pins s σ H Q I q => h.run pins s σ H Q I (i σ H Q q)⟩
theorem pi_or {X : Cx} {tg e : Expr} {t t' : TI} (h : PI X tg e t) (h' : PI X tg e t') : PI X tg e (fun σ H R => t σ H R ∨ t' σ H R) := ⟨fun pins s σ H Q I q => q.elim (h.run pins s σ H Q I) (h'.run pins s σ H Q I)⟩
theorem opr_imp {X : Cx} {f : Value → Value → Sem Value} {r r' : R2} (h : OpR X f r) (i : ∀ x y H Q, r' x y H Q → r x y H Q) : OpR X f r' := fun pins s σ H x y v u Q I rx ry q => h pins s σ H x y v u Q I rx ry (i _ _ _ _ q)
theorem callr_imp {X : Cx} {f : Value} {r r' : List V → Hp → VK → Prop} (h : CallR X f r) (i : ∀ xs H Q, r' xs H Q → r xs H Q) : CallR X f r' := fun pins s σ H xs us Q I rx q => h pins s σ H xs us Q I rx (i _ _ _ q)

/-! ### reading data -/
theorem sz_le {n : Nat} (h : n ≤ SZ) : n ≤ sizeLine := by rw [sizeLine_eq]; exact h
theorem cpsOk_len {x : List Nat} (h : cpsOk x = true) : x.length ≤ SZ := by
  unfold cpsOk at h
  simp at h
  exact h.2
theorem cpsOk_str {x : List Nat} (h : cpsOk x = true) : PyData.strOk (sOf x) = true := by
  unfold cpsOk at h
  unfold PyData.strOk
  simp at h ⊢
  exact h.1
theorem cpsOk_mk {x : List Nat} (h : ∀ c ∈ x, c < 0x110000) (l : x.length ≤ SZ) : cpsOk x = true := by
  unfold cpsOk
  simp
  exact ⟨h, l⟩
theorem cpsOk_mem {x : List Nat} (h : cpsOk x = true) : ∀ c ∈ x, c < 0x110000 := by
  unfold cpsOk at h
  simp at h
  exact h.1
theorem sOf_length (x : List Nat) : (sOf x).length = x.length := by
  show (sOf x).cps.size = x.length
  simp
theorem sOf_append (x y : List Nat) : (sOf x ++ sOf y : Str) = sOf (x ++ y) := by
  show (Str.mk (x.toArray ++ y.toArray)) = _
  simp
mutual
def toPy : D → PyData
  | .non => .none
  | .bl b => .bool b
  | .int i => .int i
  | .str x => .str (sOf x)
  | .tup ds => .tuple (toPys ds)
  | .lst ds => .list (toPys ds)
  | .ref _ => .none
def toPys : List D → List PyData
  | [] => []
  | d :: ds => toPy d :: toPys ds
end
section
variable {K : PySem.W.Frag} {H : Hp} {μ : Mu}
mutual
theorem RV.dp : ∀ {d : D} {v : V}, RV H μ v d → d.flat = true → Dp K H v (toPy d)
  | .non, _, h, _ => by cases h; exact .non
  | .bl _, _, h, _ => by cases h; exact .bl _
  | .int _, _, h, _ => by cases h; exact .int _
  | .str _, _, h, _ => by cases h; exact .str _
  | .ref _, _, h, f => by simp [D.flat] at f
  | .tup ds, _, h, f => by
    cases h with
    | tup h n r => exact .tup (.inl (.inl h)) (RVs.dp r (by simpa [D.flat] using f))
  | .lst ds, _, h, f => by
    cases h with
    | lst h n r => exact .lst (.inl h) (RVs.dp r (by simpa [D.flat] using f))
theorem RVs.dp : ∀ {ds : List D} {vs : List V}, RVs H μ vs ds → D.flatL ds = true → DpAll K H vs (toPys ds)
  | [], _, h, _ => by cases h; exact .nil
  | d :: ds, _, h, f => by
    simp only [D.flatL, Bool.and_eq_true] at f
    cases h with | cons a b => exact .cons (RV.dp a f.1) (RVs.dp b f.2)
end
mutual
theorem RV.lay : ∀ {d : D} {v : V}, RV H μ v d → PyData.canLay0 (toPy d) = true
  | .non, _, h => by simp [toPy, PyData.canLay0]
  | .bl _, _, h => by simp [toPy, PyData.canLay0]
  | .int _, _, h => by simp [toPy, PyData.canLay0]
  | .str _, _, h => by
    cases h with
    | str _ h => simp only [toPy, PyData.canLay0]; exact cpsOk_str h
  | .ref _, _, h => by simp [toPy, PyData.canLay0]
  | .tup ds, _, h => by
    cases h with
    | tup h n r => simp only [toPy, PyData.canLay0]; exact RVs.lay r
  | .lst ds, _, h => by
    cases h with
    | lst h n r => simp only [toPy, PyData.canLay0]; exact RVs.lay r
theorem RVs.lay : ∀ {ds : List D} {vs : List V}, RVs H μ vs ds → PyData.canLayAll0 (toPys ds) = true
  | [], _, h => by simp [toPys, PyData.canLayAll0]
  | d :: ds, _, h => by
    cases h with | cons a b => simp only [toPys, PyData.canLayAll0, RV.lay a, RVs.lay b, Bool.and_self]
end
mutual
theorem dep_py : ∀ d : D, (toPy d).depth = d.dep
  | .non => by simp [toPy, PyData.depth, D.dep]
  | .bl _ => by simp [toPy, PyData.depth, D.dep]
  | .int _ => by simp [toPy, PyData.depth, D.dep]
  | .str _ => by simp [toPy, PyData.depth, D.dep]
  | .ref _ => by simp [toPy, PyData.depth, D.dep]
  | .tup ds => by simp only [toPy, PyData.depth, D.dep, deps_py ds]
  | .lst ds => by simp only [toPy, PyData.depth, D.dep, deps_py ds]
theorem deps_py : ∀ ds : List D, PyData.depthAll (toPys ds) = D.depL ds
  | [] => by simp [toPys, PyData.depthAll, D.depL]
  | d :: ds => by simp only [toPys, PyData.depthAll, D.depL, dep_py d, deps_py ds]
end
theorem RV.shaped {d : D} {v : V} (h : RV H μ v d) (l : d.dep ≤ 64) : SeqAt.shaped (toPy d) = true := by
  unfold SeqAt.shaped
  rw [h.lay, dep_py]
  simp [l]
theorem sOf_beq (x y : List Nat) : (sOf x == sOf y) = (x == y) := by
  by_cases h : x = y
  · subst h; simp
  · have : sOf x ≠ sOf y := fun e => h (by
      have := congrArg Str.cps e
      simpa using congrArg Array.toList this)
    rw [beq_eq_false_iff_ne.mpr this, beq_eq_false_iff_ne.mpr h]
mutual
theorem eqv_py : ∀ d e : D, d.flat = true → e.flat = true → PyData.eqv (toPy d) (toPy e) = D.eqv d e
  | .non, e, _, g => by cases e <;> simp_all [toPy, PyData.eqv, D.eqv, D.flat]
  | .bl _, e, _, g => by cases e <;> simp_all [toPy, PyData.eqv, D.eqv, D.flat]
  | .int _, e, _, g => by cases e <;> simp_all [toPy, PyData.eqv, D.eqv, D.flat]
  | .str x, e, _, g => by
    cases e with
    | str y => simp only [toPy, PyData.eqv, D.eqv]; exact sOf_beq x y
    | _ => simp_all [toPy, PyData.eqv, D.eqv, D.flat]
  | .ref _, e, f, g => by simp [D.flat] at f
  | .tup xs, e, f, g => by
    cases e with
    | tup ys => simp only [toPy, PyData.eqv, D.eqv]; exact eqvs_py xs ys (by simpa [D.flat] using f) (by simpa [D.flat] using g)
    | _ => simp_all [toPy, PyData.eqv, D.eqv, D.flat]
  | .lst xs, e, f, g => by
    cases e with
    | lst ys => simp only [toPy, PyData.eqv, D.eqv]; exact eqvs_py xs ys (by simpa [D.flat] using f) (by simpa [D.flat] using g)
    | _ => simp_all [toPy, PyData.eqv, D.eqv, D.flat]
theorem eqvs_py : ∀ xs ys : List D, D.flatL xs = true → D.flatL ys = true → PyData.eqvAll (toPys xs) (toPys ys) = D.eqvL xs ys
  | [], ys, _, g => by cases ys <;> simp [toPys, PyData.eqvAll, D.eqvL]
  | x :: xs, ys, f, g => by
    cases ys with
    | nil => simp [toPys, PyData.eqvAll, D.eqvL]
    | cons y ys =>
      simp only [D.flatL, Bool.and_eq_true] at f g
      simp only [toPys, PyData.eqvAll, D.eqvL, eqv_py x y f.1 g.1, eqvs_py xs ys f.2 g.2]
end
end
end HW
/-! The operators, by data. -/
namespace HW
open PySem L2
section
variable {X : Cx} {T : Tie} {H : Hp} {μ : Mu}
/-- a fresh by-value tuple, list -/
theorem newT {p : Addr} {xs : List V} {ds : List D} {S : Sto} (s : SRel T H μ S) (h : H p = none) (r : RVs H μ xs ds) : RV (upd H p (.tup xs)) μ (.ref p) (.tup ds) :=
  .tup upd_same (s.fresh h) (r.ext (Ext.side h))
theorem newLv {p : Addr} {xs : List V} {ds : List D} {S : Sto} (s : SRel T H μ S) (h : H p = none) (r : RVs H μ xs ds) : RV (upd H p (.lst xs)) μ (.ref p) (.lst ds) :=
  .lst (.inl upd_same) (s.fresh h) (r.ext (Ext.side h))
theorem RV.int_inv {v : V} {i : Int} (h : RV H μ v (.int i)) : v = .int i := by cases h; rfl
theorem RV.bl_inv {v : V} {i : Bool} (h : RV H μ v (.bl i)) : v = .bl i := by cases h; rfl
theorem RV.str_inv {v : V} {x : List Nat} (h : RV H μ v (.str x)) : v = .str (sOf x) ∧ cpsOk x = true := by cases h with | str _ h => exact ⟨rfl, h⟩
theorem RV.non_inv {v : V} (h : RV H μ v .non) : v = .non := by cases h; rfl
theorem RV.tup_inv {v : V} {ds : List D} (h : RV H μ v (.tup ds)) : ∃ a xs, v = .ref a ∧ H a = some (.tup xs) ∧ a ∉ μ ∧ RVs H μ xs ds := by cases h with | tup a b c => exact ⟨_, _, rfl, a, b, c⟩
theorem RV.lst_inv {v : V} {ds : List D} (h : RV H μ v (.lst ds)) : ∃ a xs, v = .ref a ∧ Rd H a (.lst xs) ∧ a ∉ μ ∧ RVs H μ xs ds := by cases h with | lst a b c => exact ⟨_, _, rfl, a, b, c⟩
theorem RV.ref_inv {v : V} {n : Nat} (h : RV H μ v (.ref n)) : ∃ a, v = .ref a ∧ μ[n]? = some a := by cases h with | ref a => exact ⟨_, rfl, a⟩
theorem cpsOk_append {x y : List Nat} (h1 : cpsOk x = true) (h2 : cpsOk y = true) (l : x.length + y.length ≤ SZ) : cpsOk (x ++ y) = true :=
  cpsOk_mk (fun c hc => by
    rcases List.mem_append.mp hc with hc | hc
    · exact cpsOk_mem h1 c hc
    · exact cpsOk_mem h2 c hc) (by simpa using l)
/-- list + list, each read -/
def rCatS (K : PySem.W.Frag) : R2 := fun x y H Q => ∃ l b xs zs, x = .ref l ∧ y = .ref b ∧ Rd H l (.lst xs) ∧ Rd H b (.lst zs) ∧ xs.length + zs.length ≤ sizeLine ∧ ∀ p, H p = none → Q (.ref p) (upd H p (.lst (xs ++ zs)))
theorem rd_obj {pins : List (Addr × Obj)} {σ : L2.St} {s : Shared} {l : Addr} {xs : List V} (I : Inv X pins σ H s) (h : Rd H l (.lst xs)) :
    ∃ (its : List Value) (n : Nat), Vals xs its ∧ xs.length = its.length ∧ s.heap.get? l = some { cls := .type "list", data := .seq its.toArray n } ∧ xs.length ≤ sizeLine := by
  obtain ⟨z, its, n, r, e⟩ := h.ok I.hok
  exact ⟨its, n, r, r.length, e, z⟩
theorem op_catS : OpR X (binaryOp .Add) (rCatS X.K) := by
  intro pins s σ H x y v u Q I rx ry h
  obtain ⟨l, b, xs, zs, rfl, rfl, hH, hB, hz, q⟩ := h
  cases rx
  cases ry
  obtain ⟨its, n, r, hl, e, z⟩ := rd_obj I hH
  obtain ⟨its2, n2, r2, hl2, e2, z2⟩ := rd_obj I hB
  refine PySem.P.add_list e e2 ?_ (by rw [List.size_toArray, List.size_toArray]; omega)
  have ea : its.toArray ++ its2.toArray = (its ++ its2).toArray := by simp
  rw [ea]
  exact ⟨.ref _, _, I.lnew (t' := s.toks) (r.append r2) (by rw [List.length_append]; omega), rfl, q _ I.fresh⟩

def rBin (T : Tie) (op : Operator) : R2 := fun x y H Q => ∃ μ S d1 d2 W, RV H μ x d1 ∧ RV H μ y d2 ∧ SRel T H μ S ∧ Aft T RV W H μ (R.of (binD op d1 d2) S) Q
theorem op_bin_add : OpR X (binaryOp .Add) (rBin T .Add) := by
  intro pins s σ H x y v u Q I rx ry h
  obtain ⟨μ, S, d1, d2, W, r1, r2, sr, af⟩ := h
  obtain ⟨d, hd, af⟩ := af.of
  simp only [binD] at hd
  unfold addD at hd
  split at hd <;> try (cases hd; done)
  · cases hd
    obtain rfl := r1.int_inv
    obtain rfl := r2.int_inv
    exact op_add pins s σ H _ _ v u Q I rx ry ⟨_, _, rfl, rfl, af.here _ sr (.int _)⟩
  · split at hd
    · cases hd
      obtain ⟨rfl, o1⟩ := r1.str_inv
      obtain ⟨rfl, o2⟩ := r2.str_inv
      rename_i hl
      refine op_add_str pins s σ H _ _ v u Q I rx ry ⟨_, _, rfl, rfl, by rw [sOf_length, sOf_length]; exact sz_le hl, ?_⟩
      rw [sOf_append]
      exact af.here _ sr (.str _ (cpsOk_append o1 o2 hl))
    · cases hd
  · split at hd
    · cases hd
      rename_i hl
      obtain ⟨a, xs, rfl, h1, n1, q1⟩ := r1.tup_inv
      obtain ⟨b, ys, rfl, h2, n2, q2⟩ := r2.tup_inv
      refine op_catA pins s σ H _ _ v u Q I rx ry ⟨a, b, xs, ys, rfl, rfl, .inl (.inl h1), .inl (.inl h2), by rw [q1.length, q2.length]; exact sz_le hl, fun e => ?_, fun _ e => ?_, fun _ _ p hp => ?_⟩
      · subst e
        cases q1
        exact af.here _ sr r2
      · subst e
        cases q2
        rw [List.append_nil] at af
        exact af.here _ sr r1
      · exact af.ok _ (Ext.side hp) (sr.side hp) (newT sr hp (q1.append q2))
    · cases hd
  · split at hd
    · cases hd
      rename_i hl
      obtain ⟨a, xs, rfl, h1, n1, q1⟩ := r1.lst_inv
      obtain ⟨b, ys, rfl, h2, n2, q2⟩ := r2.lst_inv
      refine op_catS pins s σ H _ _ v u Q I rx ry ⟨a, b, xs, ys, rfl, rfl, h1, h2, by rw [q1.length, q2.length]; exact sz_le hl, fun p hp => ?_⟩
      exact af.ok _ (Ext.side hp) (sr.side hp) (newLv sr hp (q1.append q2))
    · cases hd
theorem op_bin_sub : OpR X (binaryOp .Sub) (rBin T .Sub) := by
  intro pins s σ H x y v u Q I rx ry h
  obtain ⟨μ, S, d1, d2, W, r1, r2, sr, af⟩ := h
  obtain ⟨d, hd, af⟩ := af.of
  simp only [binD] at hd
  unfold subD at hd
  split at hd <;> try (cases hd; done)
  cases hd
  obtain rfl := r1.int_inv
  obtain rfl := r2.int_inv
  exact op_sub pins s σ H _ _ v u Q I rx ry ⟨_, _, rfl, rfl, af.here _ sr (.int _)⟩
theorem op_bin_fdiv : OpR X (binaryOp .FloorDiv) (rBin T .FloorDiv) := by
  intro pins s σ H x y v u Q I rx ry h
  obtain ⟨μ, S, d1, d2, W, r1, r2, sr, af⟩ := h
  obtain ⟨d, hd, af⟩ := af.of
  simp only [binD] at hd
  unfold fdivD at hd
  split at hd <;> try (cases hd; done)
  split at hd
  · cases hd
    obtain rfl := r1.int_inv
    obtain rfl := r2.int_inv
    rename_i hc
    exact op_fdiv pins s σ H _ _ v u Q I rx ry ⟨_, _, rfl, rfl, hc, af.here _ sr (.int _)⟩
  · cases hd
theorem op_bin_mod : OpR X (binaryOp .Mod) (rBin T .Mod) := by
  intro pins s σ H x y v u Q I rx ry h
  obtain ⟨μ, S, d1, d2, W, r1, r2, sr, af⟩ := h
  obtain ⟨d, hd, af⟩ := af.of
  simp only [binD] at hd
  unfold modD at hd
  split at hd <;> try (cases hd; done)
  split at hd
  · cases hd
    obtain rfl := r1.int_inv
    obtain rfl := r2.int_inv
    rename_i hc
    exact op_mod pins s σ H _ _ v u Q I rx ry ⟨_, _, rfl, rfl, hc, af.here _ sr (.int _)⟩
  · cases hd
/-- list * int, the list read -/
def rRepS : R2 := fun x y H Q => ∃ l k xs, x = .ref l ∧ y = .int k ∧ Rd H l (.lst xs) ∧ -(2 ^ 63) ≤ k ∧ k < 2 ^ 63 ∧ xs.length * k.toNat ≤ sizeLine ∧
  ∀ p, H p = none → Q (.ref p) (upd H p (.lst (List.replicate k.toNat xs).flatten))
open PyProof.Rows in
theorem op_repS : OpR X (binaryOp .Mult) rRepS := by
  intro pins s σ H x y v u Q I rx ry h
  obtain ⟨l, k, xs, rfl, rfl, hH, h1, h2, hz, q⟩ := h
  cases rx
  obtain ⟨t, rfl⟩ := ry
  obtain ⟨its, n, r, hl, e, z⟩ := rd_obj I hH
  have hlen : its.toArray.size * k.toNat ≤ sizeLine := by rw [List.size_toArray, ← hl]; exact hz
  have hcap : ¬ its.toArray.size * k.toNat > (2 ^ 63 - 1) / 8 := by
    have : (sizeLine : Nat) ≤ (2 ^ 63 - 1) / 8 := by decide
    omega
  have hfit : ¬ (!Builtin.List.listFitsIndex k) = true := by
    rw [fitsIndex_both h1 h2]
    exact Bool.false_ne_true
  have hlong : ¬ Builtin.List.listTooLong (its.toArray.size * k.toNat) = true := by
    rw [notLongL hlen]
    exact Bool.false_ne_true
  have hnew : List.foldl (fun x1 x2 => x1 ++ x2) #[] (List.replicate (if its.toArray.isEmpty = true then 0 else k.toNat) its.toArray) = (List.replicate k.toNat its).flatten.toArray := by
    have f0 : ∀ m : Nat, List.foldl (fun x1 x2 => x1 ++ x2) #[] (List.replicate m its.toArray) = (List.replicate m its).flatten.toArray := fun m => by
      have := foldl_rep its m []
      rw [List.nil_append] at this
      exact this
    rw [f0]
    cases its with
    | nil => simp
    | cons a r' => rw [if_neg (by simp)]
  refine wpAny_binaryOp_repeat_ref (T := "list") (U := "int") (by decide) ⟨_, e, rfl⟩ (fun s' => typeIs_int s' k t) noFill_list_mul F.fills_int_mul F.slot_int_rmul repeat_list F.slot_int_index.lookup
    (call_meets F.slot_int_rmul (typeIs_int s k t) F.entry_int_rmul (F.args_int_rmul_2 _ _) (int___rmul___int_list k t l its.toArray n)
      ⟨e, rfl, ⟨_, e, rfl⟩, call_meets F.slot_list_mul ⟨_, e, rfl⟩ F.entry_list_mul (F.args_list_mul_2 _ _) (AutoListH.list___mul___list_int_3 l its.toArray n k t hfit hcap hlong) ⟨e, ?_⟩⟩)
  rw [hnew]
  exact ⟨.ref _, _, I.lnew (t' := s.toks) (r.rep k.toNat) (by rw [PyProof.Rows.lm_len_rep_flat, Nat.mul_comm]; exact hz), rfl, q _ I.fresh⟩
theorem op_bin_mul : OpR X (binaryOp .Mult) (rBin T .Mult) := by
  intro pins s σ H x y v u Q I rx ry h
  obtain ⟨μ, S, d1, d2, W, r1, r2, sr, af⟩ := h
  obtain ⟨d, hd, af⟩ := af.of
  simp only [binD] at hd
  unfold mulD at hd
  split at hd <;> try (cases hd; done)
  · split at hd
    · cases hd
      obtain rfl := r1.int_inv
      obtain rfl := r2.int_inv
      rename_i hc
      refine op_mul pins s σ H _ _ v u Q I rx ry ⟨_, _, rfl, rfl, ?_, af.here _ sr (.int _)⟩
      unfold mulOk at hc
      simp only [Bool.or_eq_true, Bool.and_eq_true, decide_eq_true_eq] at hc
      exact hc
    · cases hd
  · split at hd
    · cases hd
      rename_i hc
      obtain ⟨h0, h1, h2, h3⟩ := hc
      obtain ⟨a, xs, rfl, g1, n1, q1⟩ := r1.tup_inv
      obtain rfl := r2.int_inv
      refine op_repT pins s σ H _ _ v u Q I rx ry ⟨_, _, xs, rfl, rfl, .inl (.inl g1), ?_, h3, h2, by rw [q1.length]; exact h1, fun p hp => ?_⟩
      · rintro rfl
        cases q1
        exact h0 rfl
      · exact af.ok _ (Ext.side hp) (sr.side hp) (newT sr hp q1.flatten)
    · cases hd
  · split at hd
    · cases hd
      rename_i hc
      obtain ⟨h1, h2, h3⟩ := hc
      obtain ⟨a, xs, rfl, g1, n1, q1⟩ := r1.lst_inv
      obtain rfl := r2.int_inv
      refine op_repS pins s σ H _ _ v u Q I rx ry ⟨_, _, xs, rfl, rfl, g1, by omega, by omega, ?_, fun p hp => ?_⟩
      · rw [q1.length, sizeLine_eq]
        exact Nat.le_trans (Nat.mul_le_mul h1 (Int.toNat_le_toNat h2)) (by decide)
      · exact af.ok _ (Ext.side hp) (sr.side hp) (newLv sr hp q1.flatten)
    · cases hd
theorem op_bin : ∀ op, OpR X (binaryOp op) (rBin T op)
  | .Add => op_bin_add
  | .Sub => op_bin_sub
  | .Mult => op_bin_mul
  | .FloorDiv => op_bin_fdiv
  | .Mod => op_bin_mod
  | .MatMult | .Div | .Pow | .LShift | .RShift | .BitOr | .BitXor | .BitAnd => by
    intro pins s σ H x y v u Q I rx ry h
    obtain ⟨μ, S, d1, d2, W, r1, r2, sr, af⟩ := h
    exact af.elim

/-! ### comparisons -/
theorem vw_dp {K : PySem.W.Frag} {S : Sto} {v : V} {d : D} (r : RV H μ v d) (sr : SRel T H μ S) (f : (vw S d).flat = true) : Dp K H v (toPy (vw S d)) ∧ PyData.canLay0 (toPy (vw S d)) = true := by
  cases d with
  | ref n =>
    simp only [vw] at f ⊢
    split at f
    · rename_i ds hs
      obtain ⟨a, ha, ob⟩ := sr.at hs
      obtain ⟨xs, h1, h2⟩ := ob
      obtain ⟨b, rfl, hb⟩ := r.ref_inv
      rw [ha] at hb
      cases hb
      simp only [D.flat] at f
      refine ⟨.lst (.inl (.inl h1)) (h2.dp f), ?_⟩
      simp only [toPy, PyData.canLay0]
      exact h2.lay
    · simp [D.flat] at f
  | _ => exact ⟨r.dp f, r.lay⟩
def rCmp (T : Tie) (op : CmpOp) : R2 := fun x y H Q => ∃ μ S d1 d2 W, RV H μ x d1 ∧ RV H μ y d2 ∧ SRel T H μ S ∧ Aft T RV W H μ (R.of ((cmpD S op d1 d2).map D.bl) S) Q
theorem Aft.map {α β γ : Type} {rel : VR γ β} {W : Nat → Hp → Prop} {o : Option α} {f : α → γ} {S : Sto} {Q : β → Hp → Prop} (h : Aft T rel W H μ (R.of (o.map f) S) Q) : ∃ a, o = some a ∧ Aft T rel W H μ (.ok (f a) S) Q := by
  cases o with
  | none => exact h.elim
  | some a => exact ⟨a, rfl, h⟩
theorem eqD_inv {a b : D} {k : Bool} (h : eqD a b = some k) : a.flat = true ∧ b.flat = true ∧ a.dep ≤ 60 ∧ b.dep ≤ 60 ∧ k = a.eqv b := by
  unfold eqD at h
  split at h
  · rename_i hc
    simp only [Bool.and_eq_true, decide_eq_true_eq] at hc
    cases h
    exact ⟨hc.1.1.1, hc.1.1.2, hc.1.2, hc.2, rfl⟩
  · cases h
theorem shaped_of {d : D} (h : PyData.canLay0 (toPy d) = true) (l : d.dep ≤ 60) : SeqAt.shaped (toPy d) = true := by
  unfold SeqAt.shaped
  rw [h, dep_py]
  simp
  omega
theorem op_cmp_eq (hu : X.A.units + 65 < cLine) : OpR X (compareOp .Eq) (rCmp T .Eq) := by
  intro pins s σ H x y v u Q I rx ry h
  obtain ⟨μ, S, d1, d2, W, r1, r2, sr, af⟩ := h
  obtain ⟨k, hk, af⟩ := af.map
  simp only [cmpD] at hk
  obtain ⟨f1, f2, l1, l2, rfl⟩ := eqD_inv hk
  obtain ⟨p1, c1⟩ := vw_dp (K := X.K) r1 sr f1
  obtain ⟨p2, c2⟩ := vw_dp (K := X.K) r2 sr f2
  refine op_eqD (by omega) pins s σ H _ _ v u Q I rx ry ⟨_, _, p1, p2, shaped_of c1 l1, shaped_of c2 l2, ?_⟩
  rw [eqv_py _ _ f1 f2]
  exact af.here _ sr (.bl _)
theorem op_cmp_ne (hu : X.A.units + 65 < cLine) : OpR X (compareOp .NotEq) (rCmp T .NotEq) := by
  intro pins s σ H x y v u Q I rx ry h
  obtain ⟨μ, S, d1, d2, W, r1, r2, sr, af⟩ := h
  obtain ⟨k, hk, af⟩ := af.map
  simp only [cmpD, Option.map_eq_some_iff] at hk
  obtain ⟨k', hk, rfl⟩ := hk
  obtain ⟨f1, f2, l1, l2, rfl⟩ := eqD_inv hk
  obtain ⟨p1, c1⟩ := vw_dp (K := X.K) r1 sr f1
  obtain ⟨p2, c2⟩ := vw_dp (K := X.K) r2 sr f2
  refine op_neD (by omega) pins s σ H _ _ v u Q I rx ry ⟨_, _, p1, p2, shaped_of c1 l1, shaped_of c2 l2, ?_⟩
  rw [eqv_py _ _ f1 f2]
  exact af.here _ sr (.bl _)
theorem ltS_eq : ∀ a b : List Nat, ltS a b = decide (a < b)
  | [], [] => by simp [ltS]
  | [], _ :: _ => by simp [ltS]
  | _ :: _, [] => by simp [ltS]
  | a :: as, b :: bs => by
    unfold ltS
    rw [ltS_eq as bs]
    by_cases h : a < b
    · simp [h, List.cons_lt_cons_iff]
    · by_cases h2 : b < a
      · have : a ≠ b := by omega
        simp [h, h2, List.cons_lt_cons_iff, this]
      · have : a = b := by omega
        subst this
        simp [List.cons_lt_cons_iff]
theorem op_cmp_le : OpR X (compareOp .LtE) (rCmp T .LtE) := by
  intro pins s σ H x y v u Q I rx ry h
  obtain ⟨μ, S, d1, d2, W, r1, r2, sr, af⟩ := h
  obtain ⟨k, hk, af⟩ := af.map
  simp only [cmpD] at hk
  unfold leqD at hk
  split at hk <;> try (cases hk; done)
  · cases hk
    obtain rfl := r1.int_inv
    obtain rfl := r2.int_inv
    exact op_le pins s σ H _ _ v u Q I rx ry ⟨_, _, rfl, rfl, af.here _ sr (.bl _)⟩
  · cases hk
    obtain ⟨rfl, o1⟩ := r1.str_inv
    obtain ⟨rfl, o2⟩ := r2.str_inv
    refine op_le_str pins s σ H _ _ v u Q I rx ry ⟨_, _, rfl, rfl, ?_⟩
    rw [ltS_eq] at af
    exact af.here _ sr (.bl _)
theorem op_cmp_gt : OpR X (compareOp .Gt) (rCmp T .Gt) := by
  intro pins s σ H x y v u Q I rx ry h
  obtain ⟨μ, S, d1, d2, W, r1, r2, sr, af⟩ := h
  obtain ⟨k, hk, af⟩ := af.map
  simp only [cmpD] at hk
  unfold gtD at hk
  split at hk <;> try (cases hk; done)
  · cases hk
    obtain rfl := r1.int_inv
    obtain rfl := r2.int_inv
    exact op_gt pins s σ H _ _ v u Q I rx ry ⟨_, _, rfl, rfl, af.here _ sr (.bl _)⟩
  · cases hk
    obtain ⟨rfl, o1⟩ := r1.str_inv
    obtain ⟨rfl, o2⟩ := r2.str_inv
    refine op_gt_str pins s σ H _ _ v u Q I rx ry ⟨_, _, rfl, rfl, ?_⟩
    rw [ltS_eq] at af
    exact af.here _ sr (.bl _)
theorem op_cmp_ge : OpR X (compareOp .GtE) (rCmp T .GtE) := by
  intro pins s σ H x y v u Q I rx ry h
  obtain ⟨μ, S, d1, d2, W, r1, r2, sr, af⟩ := h
  obtain ⟨k, hk, af⟩ := af.map
  simp only [cmpD] at hk
  unfold geD at hk
  split at hk <;> try (cases hk; done)
  · cases hk
    obtain rfl := r1.int_inv
    obtain rfl := r2.int_inv
    exact op_ge pins s σ H _ _ v u Q I rx ry ⟨_, _, rfl, rfl, af.here _ sr (.bl _)⟩
  · cases hk
    obtain ⟨rfl, o1⟩ := r1.str_inv
    obtain ⟨rfl, o2⟩ := r2.str_inv
    refine op_ge_str pins s σ H _ _ v u Q I rx ry ⟨_, _, rfl, rfl, ?_⟩
    rw [ltS_eq] at af
    exact af.here _ sr (.bl _)
end
end HW
/-! Dicts of the store. -/
namespace HW
open PySem L2
theorem set_self {S : Sto} {n : Nat} {o : Ob} (h : S[n]? = some o) : S.set n o = S := by
  obtain ⟨hl, e⟩ := List.getElem?_eq_some_iff.mp h
  subst e
  exact List.set_getElem_self hl
theorem sOf_inj {x y : List Nat} (e : sOf x = sOf y) : x = y := by
  have := congrArg Str.cps e
  simpa using congrArg Array.toList this
theorem keyOf_inj {a b : D} {k : Key} (h1 : keyOf a = some k) (h2 : keyOf b = some k) : a = b := by
  cases a <;> cases b <;> simp_all [keyOf]
  all_goals (obtain rfl := h1)
  · exact (Sum.inl.inj h2).symm
  · cases h2
  · cases h2
  · exact (sOf_inj (Sum.inr.inj h2)).symm
theorem KeyR.inj {a b : D} {k : Key} (h1 : KeyR k a) (h2 : KeyR k b) : a = b := keyOf_inj h1.1 h2.1
theorem KeyR.uniq {a : D} {k k' : Key} (h1 : KeyR k a) (h2 : KeyR k' a) : k = k' := Option.some.inj (h1.1.symm.trans h2.1)
theorem KeysR.inj : ∀ {ks : List Key} {a b : List D}, KeysR ks a → KeysR ks b → a = b
  | [], [], [], _, _ => rfl
  | [], _ :: _, _, h, _ => h.elim
  | [], [], _ :: _, _, h => h.elim
  | _ :: _, [], _, h, _ => h.elim
  | _ :: _, _ :: _, [], _, h => h.elim
  | k :: ks, a :: as, b :: bs, h1, h2 => by rw [h1.1.inj h2.1, KeysR.inj h1.2 h2.2]
theorem KeysR.uniq : ∀ {ks ks' : List Key} {a : List D}, KeysR ks a → KeysR ks' a → ks = ks'
  | [], [], _, _, _ => rfl
  | [], _ :: _, [], _, h => h.elim
  | [], _ :: _, _ :: _, h, _ => h.elim
  | _ :: _, [], [], h, _ => h.elim
  | _ :: _, [], _ :: _, _, h => h.elim
  | _ :: _, _ :: _, [], h, _ => h.elim
  | k :: ks, k' :: ks', a :: as, h1, h2 => by rw [h1.1.uniq h2.1, KeysR.uniq h1.2 h2.2]
theorem TKeyR.inj {ks : List Key} {a b : D} (h1 : TKeyR ks a) (h2 : TKeyR ks b) : a = b := by
  obtain ⟨as, rfl, h1⟩ := h1
  obtain ⟨bs, rfl, h2⟩ := h2
  rw [h1.inj h2]
theorem TKeyR.uniq {ks ks' : List Key} {a : D} (h1 : TKeyR ks a) (h2 : TKeyR ks' a) : ks = ks' := by
  obtain ⟨as, rfl, h1⟩ := h1
  obtain ⟨bs, e, h2⟩ := h2
  cases e
  exact h1.uniq h2
section
variable {κ : Type} [DecidableEq κ] {H : Hp} {μ : Mu} {KR : κ → D → Prop}
abbrev KVR (KR : κ → D → Prop) (H : Hp) (μ : Mu) : List (κ × V) → List (D × D) → Prop := Paired fun p q => KR p.1 q.1 ∧ RV H μ p.2 q.2
theorem KVR.get (inj : ∀ k a b, KR k a → KR k b → a = b) (uq : ∀ k k' a, KR k a → KR k' a → k = k') {k : κ} {d : D} (hk : KR k d) : ∀ {kv : List (κ × V)} {kvs : List (D × D)}, KVR KR H μ kv kvs →
    (valV kv k = none ∧ dget kvs d = none) ∨ ∃ v x, valV kv k = some v ∧ dget kvs d = some x ∧ RV H μ v x
  | _, _, .nil => .inl ⟨rfl, rfl⟩
  | p :: kv, q :: kvs, .cons r t => by
    by_cases e : p.1 = k
    · have e2 : q.1 = d := by
        have := r.1
        rw [e] at this
        exact inj _ _ _ this hk
      exact .inr ⟨p.2, q.2, valV_pos e, by simp [dget, List.find?_cons, e2], r.2⟩
    · have e2 : ¬ q.1 = d := fun z => e (by
        have := r.1
        rw [z] at this
        exact uq _ _ _ this hk)
      rw [valV_neg e]
      have : dget (q :: kvs) d = dget kvs d := by simp [dget, List.find?_cons, e2]
      rw [this]
      exact KVR.get inj uq hk t
theorem KVR.any (inj : ∀ k a b, KR k a → KR k b → a = b) (uq : ∀ k k' a, KR k a → KR k' a → k = k') {k : κ} {d : D} (hk : KR k d) : ∀ {kv : List (κ × V)} {kvs : List (D × D)}, KVR KR H μ kv kvs →
    (kv.any fun p => decide (p.1 = k)) = kvs.any fun p => decide (p.1 = d)
  | _, _, .nil => rfl
  | p :: kv, q :: kvs, .cons r t => by
    have ih := KVR.any inj uq hk t
    simp only [List.any_cons, ih]
    congr 1
    by_cases e : p.1 = k
    · have e2 : q.1 = d := by
        have := r.1
        rw [e] at this
        exact inj _ _ _ this hk
      simp [e, e2]
    · have e2 : ¬ q.1 = d := fun z => e (by
        have := r.1
        rw [z] at this
        exact uq _ _ _ this hk)
      simp [e, e2]
theorem KVR.map (inj : ∀ k a b, KR k a → KR k b → a = b) (uq : ∀ k k' a, KR k a → KR k' a → k = k') {k : κ} {d : D} (hk : KR k d) {v : V} {x : D} (rv : RV H μ v x) : ∀ {kv : List (κ × V)} {kvs : List (D × D)}, KVR KR H μ kv kvs →
    KVR KR H μ (kv.map fun p => if p.1 = k then (p.1, v) else p) (kvs.map fun p => if p.1 = d then (p.1, x) else p)
  | _, _, .nil => .nil
  | p :: kv, q :: kvs, .cons r t => by
    refine .cons ?_ (KVR.map inj uq hk rv t)
    by_cases e : p.1 = k
    · have e2 : q.1 = d := by
        have := r.1
        rw [e] at this
        exact inj _ _ _ this hk
      dsimp only
      rw [if_pos e, if_pos e2]
      exact ⟨r.1, rv⟩
    · have e2 : ¬ q.1 = d := fun z => e (by
        have := r.1
        rw [z] at this
        exact uq _ _ _ this hk)
      dsimp only
      rw [if_neg e, if_neg e2]
      exact r
theorem Paired.app {α β : Type} {F : α → β → Prop} : ∀ {l₁ m₁ : List α} {l₂ m₂ : List β}, Paired F l₁ l₂ → Paired F m₁ m₂ → Paired F (l₁ ++ m₁) (l₂ ++ m₂)
  | _, _, _, _, .nil, h => h
  | _, _, _, _, .cons r t, h => .cons r (Paired.app t h)
theorem KVR.put (inj : ∀ k a b, KR k a → KR k b → a = b) (uq : ∀ k k' a, KR k a → KR k' a → k = k') {k : κ} {d : D} (hk : KR k d) {v : V} {x : D} (rv : RV H μ v x) {kv : List (κ × V)} {kvs : List (D × D)} (h : KVR KR H μ kv kvs) :
    KVR KR H μ (putK kv k v) (dput kvs d x) := by
  unfold putK dput
  rw [KVR.any inj uq hk h]
  split
  · exact KVR.map inj uq hk rv h
  · exact Paired.app h (.cons ⟨hk, rv⟩ .nil)
end

/-! ### asked and stored -/
theorem kV_of {H : Hp} {μ : Mu} {k : Key} {v : V} {d : D} (h : KeyR k d) (r : RV H μ v d) : v = kV k := by
  obtain ⟨h1, _⟩ := h
  cases d with
  | int i => cases h1; exact r.int_inv
  | str x => cases h1; exact r.str_inv.1
  | _ => simp [keyOf] at h1
theorem kVs_of {H : Hp} {μ : Mu} : ∀ {ks : List Key} {vs : List V} {ds : List D}, KeysR ks ds → RVs H μ vs ds → vs = ks.map kV
  | [], _, [], _, r => by cases r; rfl
  | [], _, _ :: _, h, _ => h.elim
  | _ :: _, _, [], h, _ => h.elim
  | k :: ks, _, d :: ds, h, r => by
    cases r with
    | cons a b => rw [kV_of h.1 a, kVs_of h.2 b]; rfl
theorem keyR_mk {H : Hp} {μ : Mu} {v : V} {d : D} (r : RV H μ v d) (h : d.isKey0 = true) : ∃ k, KeyR k d := by
  cases d with
  | int i => exact ⟨.inl i, rfl, fun _ e => by cases e⟩
  | str x => exact ⟨.inr (sOf x), rfl, fun _ e => by cases e; exact r.str_inv.2⟩
  | _ => simp [D.isKey0] at h
theorem keysR_mk {H : Hp} {μ : Mu} : ∀ {vs : List V} {ds : List D}, RVs H μ vs ds → ds.all D.isKey0 = true → ∃ ks, KeysR ks ds
  | _, [], _, _ => ⟨[], trivial⟩
  | _, d :: ds, r, h => by
    simp only [List.all_cons, Bool.and_eq_true] at h
    cases r with
    | cons a b =>
      obtain ⟨k, hk⟩ := keyR_mk a h.1
      obtain ⟨ks, hks⟩ := keysR_mk b h.2
      exact ⟨k :: ks, hk, hks⟩
theorem kcls1 {d : D} (h : d.kcls = 1) : d.isKey0 = true := by
  cases d with
  | tup ds => simp only [D.kcls] at h; split at h <;> cases h
  | _ => simp_all [D.kcls, D.isKey0]
theorem kcls2 {d : D} (h : d.kcls = 2) : ∃ ds, d = .tup ds ∧ ds.all D.isKey0 = true := by
  cases d with
  | tup ds =>
    simp only [D.kcls] at h
    split at h
    · exact ⟨ds, rfl, by assumption⟩
    · cases h
  | _ => simp [D.kcls] at h
theorem kcls_cases (d : D) : d.kcls = 0 ∨ d.kcls = 1 ∨ d.kcls = 2 := by
  cases d with
  | tup ds => simp only [D.kcls]; split <;> simp
  | _ => simp [D.kcls]
theorem KeyR.cls {k : Key} {d : D} (h : KeyR k d) : d.kcls = 1 := by
  obtain ⟨h1, _⟩ := h
  cases d <;> simp_all [keyOf, D.kcls]
theorem KeysR.all : ∀ {ks : List Key} {ds : List D}, KeysR ks ds → ds.all D.isKey0 = true
  | [], [], _ => rfl
  | [], _ :: _, h => h.elim
  | _ :: _, [], h => h.elim
  | k :: ks, d :: ds, h => by
    simp only [List.all_cons, Bool.and_eq_true]
    exact ⟨kcls1 h.1.cls, KeysR.all h.2⟩
theorem TKeyR.cls {ks : List Key} {d : D} (h : TKeyR ks d) : d.kcls = 2 := by
  obtain ⟨ds, rfl, h⟩ := h
  simp only [D.kcls, h.all, if_true]
section
variable {X : Cx} {T : Tie} {pins : List (Addr × Obj)} {σ : L2.St} {H : Hp} {μ : Mu} {s : Shared} {a : Addr}
/-- the empty dict is of either kind -/
theorem Inv.asT (I : Inv X pins σ H s) (h : H a = some (.dK [])) : Inv X pins σ (upd H a (.dT [])) s := by
  obtain ⟨z, hd, vs, r, dd⟩ := dk_of I.hok h
  cases r
  obtain ⟨o, es, ep, ho, hx, hdat, _, hp, _⟩ := dd
  have mu : Mut (H a) := by rw [h]; trivial
  refine I.un (h' := s.heap) (t' := s.toks) (Un.write mu (.inl rfl) (fun b u _ q => q) ⟨_, ho⟩) (I.hok.write mu (.inl rfl) (fun b u _ q => q) ⟨_, ho⟩ ?_)
  refine ⟨z, hd, [], .nil, o, es, ep, ho, hx, hdat, ?_, by simp⟩
  generalize es.toList = l at hp
  cases hp
  rfl
theorem KVR.none_T {kvs : List (D × D)} (h : KVR (κ := Key) KeyR H μ [] kvs) : kvs = [] := by cases h; rfl
theorem KVR.one {kv : List (Key × V)} {p : D × D} {kvs : List (D × D)} (h : KVR (κ := Key) KeyR H μ kv (p :: kvs)) : p.1.kcls = 1 := by cases h with | cons r _ => exact r.1.cls
theorem KVR.two {kv : List (List Key × V)} {p : D × D} {kvs : List (D × D)} (h : KVR (κ := List Key) TKeyR H μ kv (p :: kvs)) : p.1.kcls = 2 := by cases h with | cons r _ => exact r.1.cls
theorem key_inj : ∀ (k : Key) (a b : D), KeyR k a → KeyR k b → a = b := fun _ _ _ => KeyR.inj
theorem key_uq : ∀ (k k' : Key) (a : D), KeyR k a → KeyR k' a → k = k' := fun _ _ _ => KeyR.uniq
theorem tkey_inj : ∀ (k : List Key) (a b : D), TKeyR k a → TKeyR k b → a = b := fun _ _ _ => TKeyR.inj
theorem tkey_uq : ∀ (k k' : List Key) (a : D), TKeyR k a → TKeyR k' a → k = k' := fun _ _ _ => TKeyR.uniq
/-- the dict as the key wants it -/
inductive DictAs (T : Tie) (H : Hp) (μ : Mu) (a : Addr) (y : V) (d : D) (kvs : List (D × D)) : Prop
  | k (kv : List (Key × V)) (k : Key) : H a = some (.dK kv) → KVR KeyR H μ kv kvs → KeyR k d → y = kV k → DictAs T H μ a y d kvs
  | t (kv : List (List Key × V)) (k : List Key) (b : Addr) : H a = some (.dT kv) → KVR TKeyR H μ kv kvs → TKeyR k d → y = .ref b → H b = some (.tup (k.map kV)) → DictAs T H μ a y d kvs
theorem dct_as {S : Sto} {n : Nat} {y : V} {d : D} {kvs : List (D × D)} (I : Inv X pins σ H s) (sr : SRel T H μ S) (hn : μ[n]? = some a) (hs : S[n]? = some (.dct kvs)) (ry : RV H μ y d) (hf : fitK kvs d = true) :
    ∃ H1, Inv X pins σ H1 s ∧ Ext H μ H1 μ ∧ SRel T H1 μ S ∧ DictAs T H1 μ a y d kvs := by
  have ob := sr.ob n a _ hn hs
  unfold fitK at hf
  simp only [Bool.and_eq_true, bne_iff_ne, ne_eq] at hf
  obtain ⟨h0, h1⟩ := hf
  have ha := sr.wr hn
  rcases kcls_cases d with hc | hc | hc
  · exact absurd hc h0
  · obtain ⟨k, hk⟩ := keyR_mk ry (kcls1 hc)
    rcases ob with ⟨kv, e, r⟩ | ⟨kv, e, r⟩
    · exact ⟨H, I, Ext.refl _ _, sr, .k kv k e r hk (kV_of hk ry)⟩
    · cases kvs with
      | nil =>
        cases r
        -- the empty one, as the other kind
        obtain ⟨z, hd, xs, rel, o, es, ep, ho, hx, hdat, hes, _⟩ := I.hok a _ e
        cases rel
        have mu : Mut (H a) := by rw [e]; trivial
        have I1 : Inv X pins σ (upd H a (.dK [])) s := by
          refine I.un (h' := s.heap) (t' := s.toks) (Un.write mu (.inl rfl) (fun b u _ q => q) ⟨_, ho⟩) (I.hok.write mu (.inl rfl) (fun b u _ q => q) ⟨_, ho⟩ ?_)
          have e0 : es = #[] := by
            have : es.toList = [] := by simpa using hes
            simpa using this
          subst e0
          refine ⟨z, hd, [], .nil, o, #[], ep, ho, hx, hdat, ?_, ?_, by simp⟩
          · intro e he; simp at he
          · exact .nil
        have q : ObR T (upd H a (.dK [])) μ a (.dct []) := .inl ⟨[], upd_same, .nil⟩
        have sr1 : SRel T (upd H a (.dK [])) μ (S.set n (.dct [])) := sr.write hn q
        rw [set_self hs] at sr1
        exact ⟨_, I1, Ext.write ha, sr1, .k [] k upd_same .nil hk (kV_of hk ry)⟩
      | cons p kvs =>
        have := KVR.two r
        simp only [beq_iff_eq] at h1
        omega
  · obtain ⟨ds, rfl, hall⟩ := kcls2 hc
    obtain ⟨b, xs, rfl, hb, nb, rs⟩ := ry.tup_inv
    obtain ⟨ks, hks⟩ := keysR_mk rs hall
    have hbs : H b = some (.tup (ks.map kV)) := by rw [← kVs_of hks rs]; exact hb
    have hab : b ≠ a := fun e => nb (by rw [e]; exact .inl ha.l)
    rcases ob with ⟨kv, e, r⟩ | ⟨kv, e, r⟩
    · cases kvs with
      | nil =>
        cases r
        have q : ObR T (upd H a (.dT [])) μ a (.dct []) := .inr ⟨[], upd_same, .nil⟩
        have sr1 : SRel T (upd H a (.dT [])) μ (S.set n (.dct [])) := sr.write hn q
        rw [set_self hs] at sr1
        exact ⟨_, Inv.asT I e, Ext.write ha, sr1, .t [] ks b upd_same .nil ⟨ds, rfl, hks⟩ rfl (by rw [upd_ne hab]; exact hbs)⟩
      | cons p kvs =>
        have := KVR.one r
        simp only [beq_iff_eq] at h1
        omega
    · exact ⟨H, I, Ext.refl _ _, sr, .t kv ks b e r ⟨ds, rfl, hks⟩ rfl hbs⟩
theorem DictAs.get {y : V} {d : D} {kvs : List (D × D)} (h : DictAs T H μ a y d kvs) : ∃ o, DGet H a y o ∧ ((o = none ∧ dget kvs d = none) ∨ ∃ v x, o = some v ∧ dget kvs d = some x ∧ RV H μ v x) := by
  cases h with
  | k kv k e r hk hy =>
    subst hy
    exact ⟨_, DGet.k e, KVR.get key_inj key_uq hk r⟩
  | t kv k b e r hk hy hb =>
    subst hy
    exact ⟨_, DGet.t e hb, KVR.get tkey_inj tkey_uq hk r⟩
theorem DictAs.put {S : Sto} {n : Nat} {y v : V} {d x : D} {kvs : List (D × D)} (h : DictAs T H μ a y d kvs) (sr : SRel T H μ S) (hn : μ[n]? = some a) (hs : S[n]? = some (.dct kvs)) (rv : RV H μ v x) (hl : kvs.length < SZ) :
    ∃ H', DPut H a y v H' ∧ Ext H μ H' μ ∧ SRel T H' μ (S.set n (.dct (dput kvs d x))) := by
  have ha := sr.wr hn
  cases h with
  | k kv k e r hk hy =>
    subst hy
    have hz : kv.length < sizeLine := by
      have : kv.length = kvs.length := Paired.length r
      rw [this, sizeLine_eq]; exact hl
    refine ⟨_, DPut.k e hz, Ext.write ha, sr.write hn (.inl ⟨_, upd_same, ?_⟩)⟩
    exact Paired.mapR (KVR.put key_inj key_uq hk rv r) fun _ _ z => ⟨z.1, z.2.ext (Ext.write ha)⟩
  | t kv k b e r hk hy hb =>
    subst hy
    have hz : kv.length < sizeLine := by
      have : kv.length = kvs.length := Paired.length r
      rw [this, sizeLine_eq]; exact hl
    refine ⟨_, DPut.t e hb hz, Ext.write ha, sr.write hn (.inr ⟨_, upd_same, ?_⟩)⟩
    exact Paired.mapR (KVR.put tkey_inj tkey_uq hk rv r) fun _ _ z => ⟨z.1, z.2.ext (Ext.write ha)⟩
end
end HW
/-! in, is, subscripts, slices. -/
namespace HW
open PySem L2 PySem.W PyProof.Rows
section
variable {X : Cx} {T : Tie}
theorem op_cmp_is : OpR X (compareOp .Is) (rCmp T .Is) := by
  intro pins s σ H x y v u Q I rx ry h
  obtain ⟨μ, S, d1, d2, W, r1, r2, sr, af⟩ := h
  obtain ⟨k, hk, af⟩ := af.map
  simp only [cmpD] at hk
  unfold isD at hk
  split at hk <;> try (cases hk; done)
  case h_2 =>
    cases hk
    obtain rfl := r1.bl_inv
    obtain rfl := r2.bl_inv
    refine op_isBl pins s σ H _ _ v u Q I rx ry ⟨_, _, rfl, rfl, ?_⟩
    have := af.here _ sr (.bl _)
    rwa [Bool.beq_eq_decide_eq] at this
  all_goals
    cases hk
    obtain rfl := r2.non_inv
    refine op_isN pins s σ H _ _ v u Q I rx ry ⟨rfl, ?_⟩
    have q := af.here _ sr (.bl _)
    cases r1 <;> simpa using q
theorem op_cmp_isnot : OpR X (compareOp .IsNot) (rCmp T .IsNot) := by
  intro pins s σ H x y v u Q I rx ry h
  obtain ⟨μ, S, d1, d2, W, r1, r2, sr, af⟩ := h
  obtain ⟨k, hk, af⟩ := af.map
  simp only [cmpD, Option.map_eq_some_iff] at hk
  obtain ⟨k', hk, rfl⟩ := hk
  unfold isD at hk
  split at hk <;> try (cases hk; done)
  case h_2 =>
    cases hk
    obtain rfl := r1.bl_inv
    obtain rfl := r2.bl_inv
    refine op_notBl pins s σ H _ _ v u Q I rx ry ⟨_, _, rfl, rfl, ?_⟩
    have := af.here _ sr (.bl _)
    rwa [Bool.beq_eq_decide_eq] at this
  all_goals
    cases hk
    obtain rfl := r2.non_inv
    refine op_notN pins s σ H _ _ v u Q I rx ry ⟨rfl, ?_⟩
    have q := af.here _ sr (.bl _)
    cases r1 <;> simpa using q
theorem inD_inv {x : D} {ys : List D} {k : Bool} (h : inD x ys = some k) : x.flat = true ∧ D.flatL ys = true ∧ x.dep ≤ 60 ∧ D.depL ys ≤ 60 ∧ k = ys.any fun y => D.eqv y x := by
  unfold inD at h
  split at h
  · rename_i hc
    simp only [Bool.and_eq_true, decide_eq_true_eq] at hc
    cases h
    exact ⟨hc.1.1.1, hc.1.1.2, hc.1.2, hc.2, rfl⟩
  · cases h
theorem any_py : ∀ (ys : List D) (x : D), D.flatL ys = true → x.flat = true → ((toPys ys).any fun z => PyData.eqv z (toPy x)) = ys.any fun y => D.eqv y x
  | [], _, _, _ => rfl
  | y :: ys, x, f, g => by
    simp only [D.flatL, Bool.and_eq_true] at f
    simp only [toPys, List.any_cons, eqv_py y x f.1 g, any_py ys x f.2 g]

theorem room_min {A : Around} {m n k : Nat} (hu : A.units + 65 < cLine) (h : n ≤ 60) : A.units + 1 + min m n < cLine := by
  have := Nat.min_le_right m n
  omega
theorem mem_sOf (c : Nat) (y : List Nat) : decide (c ∈ (sOf y).cps.toList) = y.contains c := by
  simp
/-- in of a dict, of the store -/
theorem op_cmp_in (hu : X.A.units + 65 < cLine) : OpR X (compareOp .In) (rCmp T .In) := by
  intro pins s σ H x y v u Q I rx ry h
  obtain ⟨μ, S, d1, d2, W, r1, r2, sr, af⟩ := h
  obtain ⟨k, hk, af⟩ := af.map
  simp only [cmpD] at hk
  unfold memD at hk
  have seqs : ∀ ds, inD d1 ds = some k → ∀ (e : PyData), Dp X.K H y e → (e = .tuple (toPys ds) ∨ e = .list (toPys ds)) → PyData.canLayAll0 (toPys ds) = true → wpAny (model X.prog X.w) X.A (compareOp .In v u) (EP X pins σ Q) X.xe s := by
    intro ds hin e he hor hlay
    obtain ⟨f1, f2, l1, l2, rfl⟩ := inD_inv hin
    obtain ⟨as, q1⟩ := Dp.reads I _ x v (r1.dp f1) rx
    obtain ⟨bs, q2⟩ := Dp.reads I _ y u he ry
    have fin := af.here _ sr (.bl _)
    rcases hor with rfl | rfl
    · refine SeqAt.in_tuple_reads q2 q1 hlay r1.lay (by rw [dep_py]; exact room_min (k := 0) hu l1) ?_
      rw [any_py ds d1 f2 f1]
      exact ⟨.bl _, H, I, rfl, fin⟩
    · refine SeqAt.in_list_reads q2 q1 hlay r1.lay (by rw [dep_py]; exact room_min (k := 0) hu l1) ?_
      rw [any_py ds d1 f2 f1]
      exact ⟨.bl _, H, I, rfl, fin⟩
  split at hk
  · split at hk
    · cases hk
      obtain ⟨rfl, o1⟩ := r1.str_inv
      obtain ⟨rfl, o2⟩ := r2.str_inv
      refine op_in_sign pins s σ H _ _ v u Q I rx ry ⟨_, _, rfl, rfl, ?_⟩
      rw [mem_sOf]
      exact af.here _ sr (.bl _)
    · cases hk
  · rename_i ds
    have f2 := (inD_inv hk).2.1
    exact seqs ds hk _ (r2.dp (by simpa [D.flat] using f2)) (.inl (by simp [toPy])) (by have := r2.lay; simpa [toPy, PyData.canLay0] using this)
  · rename_i ds
    have f2 := (inD_inv hk).2.1
    exact seqs ds hk _ (r2.dp (by simpa [D.flat] using f2)) (.inr (by simp [toPy])) (by have := r2.lay; simpa [toPy, PyData.canLay0] using this)
  · rename_i n
    split at hk
    · rename_i kvs hs
      split at hk
      · rename_i hf
        cases hk
        obtain ⟨a, rfl, hn⟩ := r2.ref_inv
        obtain ⟨H1, I1, e1, sr1, da⟩ := dct_as I sr hn hs r1 hf
        obtain ⟨o, g, ho⟩ := da.get
        cases (show u = Value.ref a from ry)
        refine d_in (by omega) I1 g rx fun s' I' => ?_
        have e : o.isSome = (dget kvs d1).isSome := by
          rcases ho with ⟨rfl, h2⟩ | ⟨_, _, rfl, h2, _⟩ <;> simp [h2]
        rw [e]
        exact ⟨.bl _, H1, I', rfl, af.ok _ e1 sr1 (.bl _)⟩
      · cases hk
    · rename_i ds hs
      obtain ⟨f1, f2, _⟩ := inD_inv hk
      have vwe : vw S (.ref n) = .lst ds := by simp [vw, hs]
      obtain ⟨p, c⟩ := vw_dp (K := X.K) r2 sr (by rw [vwe]; simpa [D.flat] using f2)
      rw [vwe] at p c
      exact seqs ds hk _ p (.inr (by simp [toPy])) (by simpa [toPy, PyData.canLay0] using c)
    · cases hk
  · cases hk
theorem op_cmp_notin (hu : X.A.units + 65 < cLine) : OpR X (compareOp .NotIn) (rCmp T .NotIn) := by
  intro pins s σ H x y v u Q I rx ry h
  obtain ⟨μ, S, d1, d2, W, r1, r2, sr, af⟩ := h
  obtain ⟨k, hk, af⟩ := af.map
  simp only [cmpD, Option.map_eq_some_iff] at hk
  obtain ⟨k', hk, rfl⟩ := hk
  unfold memD at hk
  have seqs : ∀ ds, inD d1 ds = some k' → ∀ (e : PyData), Dp X.K H y e → (e = .tuple (toPys ds) ∨ e = .list (toPys ds)) → PyData.canLayAll0 (toPys ds) = true → wpAny (model X.prog X.w) X.A (compareOp .NotIn v u) (EP X pins σ Q) X.xe s := by
    intro ds hin e he hor hlay
    obtain ⟨f1, f2, l1, l2, rfl⟩ := inD_inv hin
    obtain ⟨as, q1⟩ := Dp.reads I _ x v (r1.dp f1) rx
    obtain ⟨bs, q2⟩ := Dp.reads I _ y u he ry
    have fin := af.here _ sr (.bl _)
    rcases hor with rfl | rfl
    · refine SeqAt.notIn_tuple_reads q2 q1 hlay r1.lay (by rw [dep_py]; exact room_min (k := 0) hu l1) ?_
      rw [any_py ds d1 f2 f1]
      exact ⟨.bl _, H, I, rfl, fin⟩
    · refine SeqAt.notIn_list_reads q2 q1 hlay r1.lay (by rw [dep_py]; exact room_min (k := 0) hu l1) ?_
      rw [any_py ds d1 f2 f1]
      exact ⟨.bl _, H, I, rfl, fin⟩
  split at hk
  · split at hk
    · cases hk
      obtain ⟨rfl, o1⟩ := r1.str_inv
      obtain ⟨rfl, o2⟩ := r2.str_inv
      refine op_notIn_sign pins s σ H _ _ v u Q I rx ry ⟨_, _, rfl, rfl, ?_⟩
      rw [mem_sOf]
      exact af.here _ sr (.bl _)
    · cases hk
  · rename_i ds
    have f2 := (inD_inv hk).2.1
    exact seqs ds hk _ (r2.dp (by simpa [D.flat] using f2)) (.inl (by simp [toPy])) (by have := r2.lay; simpa [toPy, PyData.canLay0] using this)
  · rename_i ds
    have f2 := (inD_inv hk).2.1
    exact seqs ds hk _ (r2.dp (by simpa [D.flat] using f2)) (.inr (by simp [toPy])) (by have := r2.lay; simpa [toPy, PyData.canLay0] using this)
  · rename_i n
    split at hk
    · rename_i kvs hs
      split at hk
      · rename_i hf
        cases hk
        obtain ⟨a, rfl, hn⟩ := r2.ref_inv
        obtain ⟨H1, I1, e1, sr1, da⟩ := dct_as I sr hn hs r1 hf
        obtain ⟨o, g, ho⟩ := da.get
        cases (show u = Value.ref a from ry)
        refine d_notIn (by omega) I1 g rx fun s' I' => ?_
        have e : o.isSome = (dget kvs d1).isSome := by
          rcases ho with ⟨rfl, h2⟩ | ⟨_, _, rfl, h2, _⟩ <;> simp [h2]
        rw [e]
        exact ⟨.bl _, H1, I', rfl, af.ok _ e1 sr1 (.bl _)⟩
      · cases hk
    · rename_i ds hs
      obtain ⟨f1, f2, _⟩ := inD_inv hk
      have vwe : vw S (.ref n) = .lst ds := by simp [vw, hs]
      obtain ⟨p, c⟩ := vw_dp (K := X.K) r2 sr (by rw [vwe]; simpa [D.flat] using f2)
      rw [vwe] at p c
      exact seqs ds hk _ p (.inr (by simp [toPy])) (by simpa [toPy, PyData.canLay0] using c)
    · cases hk
  · cases hk
/-! ### < of alike tuples -/
mutual
theorem alike_py : ∀ a b : D, D.alike a b = true → PySem.W.alike (toPy a) (toPy b) = true
  | .int _, b, h => by cases b <;> simp_all [D.alike, toPy, PySem.W.alike]
  | .bl _, b, h => by cases b <;> simp_all [D.alike, toPy, PySem.W.alike]
  | .str _, b, h => by cases b <;> simp_all [D.alike, toPy, PySem.W.alike]
  | .non, b, h => by cases b <;> simp [D.alike] at h
  | .lst _, b, h => by cases b <;> simp [D.alike] at h
  | .ref _, b, h => by cases b <;> simp [D.alike] at h
  | .tup xs, b, h => by
    cases b with
    | tup ys =>
      simp only [D.alike] at h
      simp only [toPy, PySem.W.alike]
      exact alikes_py xs ys h
    | _ => simp [D.alike] at h
theorem alikes_py : ∀ a b : List D, D.alikeL a b = true → PySem.W.alikeAll (toPys a) (toPys b) = true
  | [], b, _ => by cases b <;> simp [toPys, PySem.W.alikeAll]
  | a :: as, [], _ => by simp [toPys, PySem.W.alikeAll]
  | a :: as, b :: bs, h => by
    simp only [D.alikeL, Bool.and_eq_true] at h
    simp only [toPys, PySem.W.alikeAll, alike_py a b h.1, alikes_py as bs h.2, Bool.and_self]
end
mutual
theorem lt_py : ∀ a b : D, D.alike a b = true → a.flat = true → b.flat = true → PySem.W.dataLt (toPy a) (toPy b) = D.lt a b
  | .int i, b, h, _, _ => by
    cases b with
    | int j => simp only [toPy, D.lt]; exact PySem.W.dataLt_int i j
    | _ => simp [D.alike] at h
  | .bl i, b, h, _, _ => by
    cases b with
    | bl j => simp only [toPy, D.lt]; rw [PySem.W.dataLt_bool i j]; cases i <;> cases j <;> rfl
    | _ => simp [D.alike] at h
  | .str x, b, h, _, _ => by
    cases b with
    | str y => simp only [toPy, D.lt]; rw [PySem.W.dataLt_str, ltS_eq]
    | _ => simp [D.alike] at h
  | .non, b, h, _, _ => by cases b <;> simp [D.alike] at h
  | .lst _, b, h, _, _ => by cases b <;> simp [D.alike] at h
  | .ref _, b, h, _, _ => by cases b <;> simp [D.alike] at h
  | .tup xs, b, h, f, g => by
    cases b with
    | tup ys =>
      simp only [D.alike] at h
      simp only [toPy, D.lt]
      rw [PySem.W.dataLt_tuple]
      exact lts_py xs ys h (by simpa [D.flat] using f) (by simpa [D.flat] using g)
    | _ => simp [D.alike] at h
theorem lts_py : ∀ a b : List D, D.alikeL a b = true → D.flatL a = true → D.flatL b = true → PyProof.Rows.lexLt itemOrd (PySem.W.keyToksAll (toPys a)) (PySem.W.keyToksAll (toPys b)) = D.ltL a b
  | [], [], _, _, _ => by simp only [toPys, PySem.W.keyToksAll, D.ltL]; exact PyProof.Rows.lex_irrefl _
  | [], b :: bs, _, _, _ => by
    simp only [toPys, PySem.W.keyToksAll, D.ltL]
    rw [PySem.W.lex_atom (by simp), PySem.W.lex_one]
    rfl
  | a :: as, [], _, _, _ => by
    simp only [toPys, PySem.W.keyToksAll, D.ltL]
    rw [PySem.W.lex_atom (by simp), PySem.W.lex_one]
    rfl
  | a :: as, b :: bs, h, f, g => by
    simp only [D.alikeL, Bool.and_eq_true] at h
    simp only [D.flatL, Bool.and_eq_true] at f g
    simp only [toPys, D.ltL]
    rw [PySem.W.dataLt_cons (alike_py a b h.1), eqv_py a b f.1 g.1, lt_py a b h.1 f.1 g.1, lts_py as bs h.2 f.2 g.2]
end
theorem op_cmp_lt (hu : X.A.units + 65 < cLine) : OpR X (compareOp .Lt) (rCmp T .Lt) := by
  intro pins s σ H x y v u Q I rx ry h
  obtain ⟨μ, S, d1, d2, W, r1, r2, sr, af⟩ := h
  obtain ⟨k, hk, af⟩ := af.map
  simp only [cmpD] at hk
  unfold ltD at hk
  split at hk <;> try (cases hk; done)
  · cases hk
    obtain rfl := r1.int_inv
    obtain rfl := r2.int_inv
    exact op_lt pins s σ H _ _ v u Q I rx ry ⟨_, _, rfl, rfl, af.here _ sr (.bl _)⟩
  · cases hk
    obtain ⟨rfl, o1⟩ := r1.str_inv
    obtain ⟨rfl, o2⟩ := r2.str_inv
    refine op_lt_str pins s σ H _ _ v u Q I rx ry ⟨_, _, rfl, rfl, ?_⟩
    rw [ltS_eq] at af
    exact af.here _ sr (.bl _)
  · rename_i xs ys
    split at hk
    · rename_i hc
      simp only [Bool.and_eq_true, decide_eq_true_eq] at hc
      cases hk
      have f1 : (D.tup xs).flat = true := by simpa [D.flat] using hc.1.1.1.2
      have f2 : (D.tup ys).flat = true := by simpa [D.flat] using hc.1.1.2
      have al : D.alike (.tup xs) (.tup ys) = true := by simpa [D.alike] using hc.1.1.1.1
      obtain ⟨as, q1⟩ := Dp.reads I _ x v (r1.dp f1) rx
      obtain ⟨bs, q2⟩ := Dp.reads I _ y u (r2.dp f2) ry
      have dd : (D.tup xs).dep ≤ 51 := by simp only [D.dep]; omega
      have q := PySem.W.rcLt_alike _ _ X.A s v u as bs q1 q2 (alike_py _ _ al) (by simp [toPy]) (by rw [dep_py, dep_py]; have := Nat.min_le_left (D.tup xs).dep (D.tup ys).dep; omega)
      rw [lt_py _ _ al f1 f2] at q
      have q := q X.prog X.w X.xe (EP X pins σ Q) ⟨.bl _, H, I, rfl, by have z := af.here _ sr (.bl _); simpa [D.lt] using z⟩
      exact q
    · cases hk
theorem op_cmp (hu : X.A.units + 65 < cLine) : ∀ op, OpR X (compareOp op) (rCmp T op)
  | .Eq => op_cmp_eq hu
  | .NotEq => op_cmp_ne hu
  | .Lt => op_cmp_lt hu
  | .LtE => op_cmp_le
  | .Gt => op_cmp_gt
  | .GtE => op_cmp_ge
  | .Is => op_cmp_is
  | .IsNot => op_cmp_isnot
  | .In => op_cmp_in hu
  | .NotIn => op_cmp_notin hu

/-! ### a[i] -/
theorem RVs.atI {H : Hp} {μ : Mu} {vs : List V} {ds : List D} {i : Int} {d : D} (r : RVs H μ vs ds) (h : HW.atI ds i = some d) : ∃ v, L2.atI vs i = some v ∧ RV H μ v d := by
  unfold HW.atI L2.atI at *
  rw [r.length]
  cases e : ixN ds.length i with
  | none => rw [e] at h; cases h
  | some j =>
    rw [e] at h
    exact r.get h
def rIdx (T : Tie) : R2 := fun x y H Q => ∃ μ S d1 d2 W, RV H μ x d1 ∧ RV H μ y d2 ∧ SRel T H μ S ∧ Aft T RV W H μ (R.of (idxD S d1 d2) S) Q
theorem cpsOk_one {x : List Nat} {c : Nat} (h : cpsOk x = true) (m : c ∈ x) : cpsOk [c] = true := cpsOk_mk (fun k hk => by simp at hk; subst hk; exact cpsOk_mem h k m) (show 1 ≤ 16777216 by decide)
theorem ix_all (hu : X.A.units + 65 < cLine) : IxR X (rIdx T) := by
  intro value slice pins s σ H x y v u Q I rx ry h hs
  obtain ⟨μ, S, d1, d2, W, r1, r2, sr, af⟩ := h
  obtain ⟨d, hd, af'⟩ := af.of
  clear af
  unfold idxD at hd
  split at hd
  · obtain ⟨a, xs, rfl, h1, n1, q1⟩ := r1.tup_inv
    obtain rfl := r2.int_inv
    obtain ⟨z, hz, rz⟩ := q1.atI hd
    exact ix_tup value slice pins s σ H _ _ v u Q I rx ry ⟨a, xs, _, z, rfl, rfl, .inl (.inl h1), hz, af'.here _ sr rz⟩ hs
  · obtain ⟨a, xs, rfl, h1, n1, q1⟩ := r1.lst_inv
    obtain rfl := r2.int_inv
    obtain ⟨z, hz, rz⟩ := q1.atI hd
    exact ix_list value slice pins s σ H _ _ v u Q I rx ry ⟨a, xs, _, z, rfl, rfl, .inl h1, hz, af'.here _ sr rz⟩ hs
  · obtain ⟨rfl, o1⟩ := r1.str_inv
    obtain rfl := r2.int_inv
    simp only [Option.map_eq_some_iff] at hd
    obtain ⟨c, hc, rfl⟩ := hd
    obtain ⟨j, _, h2, _⟩ := atI_get hc
    have hm := List.mem_of_getElem? h2
    refine ix_str value slice pins s σ H _ _ v u Q I rx ry ⟨_, _, c, rfl, rfl, by rw [sOf_length]; exact sz_le (cpsOk_len o1), by simpa using hc, ?_⟩ hs
    exact af'.here _ sr (.str [c] (cpsOk_one o1 hm))
  · split at hd
    · rename_i hs1
      obtain ⟨a, rfl, hn⟩ := r1.ref_inv
      obtain rfl := r2.int_inv
      obtain ⟨xs, e, q1⟩ := sr.ob _ _ _ hn hs1
      obtain ⟨z, hz, rz⟩ := q1.atI hd
      exact ix_list value slice pins s σ H _ _ v u Q I rx ry ⟨a, xs, _, z, rfl, rfl, .inl (.inl e), hz, af'.here _ sr rz⟩ hs
    · rename_i hs1
      split at hd
      · rename_i hf
        obtain ⟨a, rfl, hn⟩ := r1.ref_inv
        obtain ⟨H1, I1, e1, sr1, da⟩ := dct_as I sr hn hs1 r2 hf
        obtain ⟨o, g, ho⟩ := da.get
        cases (show v = Value.ref a from rx)
        rcases ho with ⟨rfl, h2⟩ | ⟨z, x, rfl, h2, rz⟩
        · rw [hd] at h2; cases h2
        · rw [hd] at h2
          cases h2
          exact PyProof.Rows.tail_any (dict_typeIs I1 g) PySem.F.slot_dict_getitem.lookup (d_getItem (by omega) I1 g ry fun w' s3 I3 rw' => ⟨z, H1, I3, rw', af'.ok _ e1 sr1 rz⟩) hs
      · cases hd
    · cases hd
  · cases hd
end
end HW
/-! Built-in functions, by data. -/
namespace HW
open PySem L2
section
variable {X : Cx} {T : Tie}
/-! ### slices -/
def rSlc (T : Tie) : V → Option Int → Option Int → Hp → VK → Prop := fun x lo hi H Q => ∃ μ S d W, RV H μ x d ∧ SRel T H μ S ∧ Aft T RV W H μ (R.of (slcD S d lo hi) S) Q
theorem RVs.cut {H : Hp} {μ : Mu} {vs : List V} {ds : List D} (r : RVs H μ vs ds) (lo hi : Option Int) : RVs H μ (cutV vs lo hi) (cut ds lo hi) := by
  unfold cutV HW.cut
  rw [r.length]
  exact (r.drop _).take _
theorem cutS_sOf (x : List Nat) (lo hi : Option Int) : cutS (sOf x) lo hi = sOf (cut x lo hi) := by
  unfold cutS cut
  rw [sOf_length]
theorem cpsOk_cut {x : List Nat} (h : cpsOk x = true) (lo hi : Option Int) : cpsOk (cut x lo hi) = true := by
  unfold cut
  refine cpsOk_mk (fun c hc => cpsOk_mem h c ?_) ?_
  · exact List.mem_of_mem_drop (List.mem_of_mem_take hc)
  · have := cpsOk_len h
    rw [List.length_take, List.length_drop]
    omega
theorem sl_all : SlR X (rSlc T) := by
  intro pins s σ H x v vl vu lo hi sl Q I rx hs pl pu h
  obtain ⟨μ, S, d, W, r, sr, af⟩ := h
  obtain ⟨d', hd, af'⟩ := af.of
  clear af
  unfold slcD at hd
  cases d with
  | tup ds =>
    simp only [vw] at hd
    cases hd
    obtain ⟨a, xs, rfl, h1, n1, q1⟩ := r.tup_inv
    refine sl_tupA pins s σ H _ v vl vu lo hi sl Q I rx hs pl pu ⟨a, xs, rfl, .inl (.inl h1), fun hw => ?_, fun _ p hp => ?_⟩
    · have e : cut ds lo hi = ds := by
        unfold cut
        rw [← q1.length, hw.1, hw.2]
        simp [q1.length]
      rw [e] at af'
      exact af'.here _ sr r
    · exact af'.ok _ (Ext.side hp) (sr.side hp) (newT sr hp (q1.cut lo hi))
  | lst ds =>
    simp only [vw] at hd
    cases hd
    obtain ⟨a, xs, rfl, h1, n1, q1⟩ := r.lst_inv
    refine sl_list pins s σ H _ v vl vu lo hi sl Q I rx hs pl pu ⟨a, xs, rfl, .inl h1, fun p hp => ?_⟩
    exact af'.ok _ (Ext.side hp) (sr.side hp) (newLv sr hp (q1.cut lo hi))
  | str x =>
    simp only [vw] at hd
    cases hd
    obtain ⟨rfl, o1⟩ := r.str_inv
    refine sl_str pins s σ H _ v vl vu lo hi sl Q I rx hs pl pu ⟨_, rfl, by rw [sOf_length]; exact sz_le (cpsOk_len o1), ?_⟩
    rw [cutS_sOf]
    exact af'.here _ sr (.str _ (cpsOk_cut o1 lo hi))
  | ref n =>
    simp only [vw] at hd
    split at hd
    · rename_i heq
      split at heq
      · cases heq
      · cases heq
    · rename_i ds heq
      split at heq
      · rename_i hs1
        cases heq
        cases hd
        obtain ⟨a, rfl, hn⟩ := r.ref_inv
        obtain ⟨xs, e, q1⟩ := sr.ob _ _ _ hn hs1
        refine sl_list pins s σ H _ v vl vu lo hi sl Q I rx hs pl pu ⟨a, xs, rfl, .inl (.inl e), fun p hp => ?_⟩
        exact af'.ok _ (Ext.side hp) (sr.side hp) (newLv sr hp (q1.cut lo hi))
      · cases heq
    · rename_i heq
      split at heq
      · cases heq
      · cases heq
    · cases hd
  | _ => simp [vw] at hd

/-! ### calls -/
def rBf (T : Tie) (f : Bf) : List V → Hp → VK → Prop := fun xs H Q => ∃ μ S ds W, RVs H μ xs ds ∧ SRel T H μ S ∧ Aft T RV W H μ (R.of (bfD S f ds) S) Q
theorem RVs.one {H : Hp} {μ : Mu} {vs : List V} {d : D} (r : RVs H μ vs [d]) : ∃ v, vs = [v] ∧ RV H μ v d := by
  cases r with
  | cons a b => cases b; exact ⟨_, rfl, a⟩
theorem RVs.two {H : Hp} {μ : Mu} {vs : List V} {d e : D} (r : RVs H μ vs [d, e]) : ∃ v w, vs = [v, w] ∧ RV H μ v d ∧ RV H μ w e := by
  cases r with
  | cons a b =>
    obtain ⟨w, rfl, h⟩ := b.one
    exact ⟨_, _, rfl, a, h⟩
theorem RVs.three {H : Hp} {μ : Mu} {vs : List V} {d e f : D} (r : RVs H μ vs [d, e, f]) : ∃ v w z, vs = [v, w, z] ∧ RV H μ v d ∧ RV H μ w e ∧ RV H μ z f := by
  cases r with
  | cons a b =>
    obtain ⟨w, z, rfl, h, g⟩ := b.two
    exact ⟨_, _, _, rfl, a, h, g⟩
/-- what itemsD reads -/
theorem items_of {H : Hp} {μ : Mu} {S : Sto} {v : V} {d : D} {ds : List D} (r : RV H μ v d) (sr : SRel T H μ S) (h : itemsD S d = some ds) :
    ∃ a xs, v = .ref a ∧ RVs H μ xs ds ∧ ((Rd H a (.lst xs)) ∨ (H a = some (.tup xs) ∧ d = .tup ds ∧ a ∉ μ)) := by
  unfold itemsD at h
  cases d with
  | tup es =>
    simp only [vw] at h
    cases h
    obtain ⟨a, xs, rfl, h1, n1, q1⟩ := r.tup_inv
    exact ⟨a, xs, rfl, q1, .inr ⟨h1, rfl, n1⟩⟩
  | lst es =>
    simp only [vw] at h
    cases h
    obtain ⟨a, xs, rfl, h1, n1, q1⟩ := r.lst_inv
    exact ⟨a, xs, rfl, q1, .inl h1⟩
  | ref n =>
    simp only [vw] at h
    split at h
    · rename_i heq
      split at heq
      · cases heq
      · cases heq
    · rename_i heq
      split at heq
      · rename_i hs1
        cases heq
        cases h
        obtain ⟨a, rfl, hn⟩ := r.ref_inv
        obtain ⟨xs, e, q1⟩ := sr.ob _ _ _ hn hs1
        exact ⟨a, xs, rfl, q1, .inl (.inl e)⟩
      · cases heq
    · cases h
  | _ => simp [vw] at h
theorem cr_len : CallR X (.builtin "len") (rBf T .len) := by
  intro pins s σ H xs us Q I r h
  obtain ⟨μ, S, ds, W, rs, sr, af⟩ := h
  obtain ⟨d', hd, af'⟩ := af.of
  clear af
  unfold bfD at hd
  split at hd <;> try (first | contradiction | (cases hd; done))
  obtain ⟨v, rfl, rv⟩ := rs.one
  split at hd
  · cases hd
    obtain ⟨rfl, o1⟩ := rv.str_inv
    refine call_len pins s σ H _ us Q I r ⟨_, _, rfl, ⟨by rw [sOf_length]; exact sz_le (cpsOk_len o1), rfl⟩, ?_⟩
    rw [sOf_length]
    exact af'.here _ sr (.int _)
  · cases hd
    obtain ⟨a, xs, rfl, h1, n1, q1⟩ := rv.tup_inv
    refine call_len pins s σ H _ us Q I r ⟨_, _, rfl, .inr ⟨xs, .inl (.inl h1), rfl⟩, ?_⟩
    rw [q1.length]
    exact af'.here _ sr (.int _)
  · cases hd
    obtain ⟨a, xs, rfl, h1, n1, q1⟩ := rv.lst_inv
    refine call_len pins s σ H _ us Q I r ⟨_, _, rfl, .inl ⟨xs, .inl h1, rfl⟩, ?_⟩
    rw [q1.length]
    exact af'.here _ sr (.int _)
  · obtain ⟨a, rfl, hn⟩ := rv.ref_inv
    split at hd
    · rename_i hs1
      cases hd
      obtain ⟨xs, e, q1⟩ := sr.ob _ _ _ hn hs1
      refine call_len pins s σ H _ us Q I r ⟨_, _, rfl, .inl ⟨xs, .inl (.inl e), rfl⟩, ?_⟩
      rw [q1.length]
      exact af'.here _ sr (.int _)
    · rename_i hs1
      cases hd
      rcases sr.ob _ _ _ hn hs1 with ⟨kv, e, q1⟩ | ⟨kv, e, q1⟩
      · obtain ⟨u, rfl, ru⟩ := vals1 r
        cases (show u = Value.ref a from ru)
        refine d_len I (.inl e) fun t s' I' => ?_
        rw [Paired.length q1]
        exact ⟨.int _, H, I', ⟨_, rfl⟩, af'.here _ sr (.int _)⟩
      · refine call_len_dT pins s σ H _ us Q I r ⟨_, _, rfl, e, ?_⟩
        rw [Paired.length q1]
        exact af'.here _ sr (.int _)
    · cases hd
  · cases hd
theorem cr_abs : CallR X (.builtin "abs") (rBf T .abs) := by
  intro pins s σ H xs us Q I r h
  obtain ⟨μ, S, ds, W, rs, sr, af⟩ := h
  obtain ⟨d', hd, af'⟩ := af.of
  clear af
  unfold bfD at hd
  split at hd <;> try (first | contradiction | (cases hd; done))
  cases hd
  obtain ⟨v, rfl, rv⟩ := rs.one
  obtain rfl := rv.int_inv
  exact call_abs pins s σ H _ us Q I r ⟨_, rfl, af'.here _ sr (.int _)⟩
theorem cr_max2 (hc : X.calm = true) : CallR X (.builtin "max") (rBf T .max2) := by
  intro pins s σ H xs us Q I r h
  obtain ⟨μ, S, ds, W, rs, sr, af⟩ := h
  obtain ⟨d', hd, af'⟩ := af.of
  clear af
  unfold bfD at hd
  split at hd <;> try (first | contradiction | (cases hd; done))
  cases hd
  obtain ⟨v, w, rfl, rv, rw'⟩ := rs.two
  obtain rfl := rv.int_inv
  obtain rfl := rw'.int_inv
  exact call_max2 hc pins s σ H _ us Q I r ⟨_, _, rfl, af'.here _ sr (.int _)⟩
theorem cr_min2 (hc : X.calm = true) : CallR X (.builtin "min") (rBf T .min2) := by
  intro pins s σ H xs us Q I r h
  obtain ⟨μ, S, ds, W, rs, sr, af⟩ := h
  obtain ⟨d', hd, af'⟩ := af.of
  clear af
  unfold bfD at hd
  split at hd <;> try (first | contradiction | (cases hd; done))
  cases hd
  obtain ⟨v, w, rfl, rv, rw'⟩ := rs.two
  obtain rfl := rv.int_inv
  obtain rfl := rw'.int_inv
  exact call_min2 hc pins s σ H _ us Q I r ⟨_, _, rfl, af'.here _ sr (.int _)⟩
theorem cr_min3 (hc : X.calm = true) : CallR X (.builtin "min") (rBf T .min3) := by
  intro pins s σ H xs us Q I r h
  obtain ⟨μ, S, ds, W, rs, sr, af⟩ := h
  obtain ⟨d', hd, af'⟩ := af.of
  clear af
  unfold bfD at hd
  split at hd <;> try (first | contradiction | (cases hd; done))
  cases hd
  obtain ⟨v, w, z, rfl, rv, rw', rz⟩ := rs.three
  obtain rfl := rv.int_inv
  obtain rfl := rw'.int_inv
  obtain rfl := rz.int_inv
  have fin := af'.here _ sr (.int _)
  cases r with
  | cons r1 r =>
    cases r with
    | cons r2 r =>
      cases r with
      | cons r3 r =>
        cases r
        obtain ⟨t1, rfl⟩ := r1
        obtain ⟨t2, rfl⟩ := r2
        obtain ⟨t3, rfl⟩ := r3
        refine min_three_ints (I.ok.hd hc) fun h' tk hk => ?_
        refine ⟨_, H, I.kept hk, ?_, fin⟩
        split
        · split <;> exact ⟨_, rfl⟩
        · split <;> exact ⟨_, rfl⟩
theorem max_mem : ∀ (r : List Int) (i : Int), (r.foldl (fun m j => if m < j then j else m) i) ∈ i :: r ∧ ∀ y ∈ i :: r, y ≤ r.foldl (fun m j => if m < j then j else m) i
  | [], i => by simp
  | j :: r, i => by
    simp only [List.foldl_cons]
    obtain ⟨h1, h2⟩ := max_mem r (if i < j then j else i)
    refine ⟨?_, fun y hy => ?_⟩
    · rcases List.mem_cons.mp h1 with h | h
      · rw [h]; split <;> simp
      · exact List.mem_cons_of_mem _ (List.mem_cons_of_mem _ h)
    · have h3 := h2 (if i < j then j else i) List.mem_cons_self
      have h4 : i ≤ (if i < j then j else i) ∧ j ≤ (if i < j then j else i) := by split <;> omega
      rcases List.mem_cons.mp hy with rfl | hy
      · exact Int.le_trans h4.1 h3
      · rcases List.mem_cons.mp hy with rfl | hy
        · exact Int.le_trans h4.2 h3
        · exact h2 y (List.mem_cons_of_mem _ hy)
theorem min_mem : ∀ (r : List Int) (i : Int), (r.foldl (fun m j => if j < m then j else m) i) ∈ i :: r ∧ ∀ y ∈ i :: r, r.foldl (fun m j => if j < m then j else m) i ≤ y
  | [], i => by simp
  | j :: r, i => by
    simp only [List.foldl_cons]
    obtain ⟨h1, h2⟩ := min_mem r (if j < i then j else i)
    refine ⟨?_, fun y hy => ?_⟩
    · rcases List.mem_cons.mp h1 with h | h
      · rw [h]; split <;> simp
      · exact List.mem_cons_of_mem _ (List.mem_cons_of_mem _ h)
    · have h3 := h2 (if j < i then j else i) List.mem_cons_self
      have h4 : (if j < i then j else i) ≤ i ∧ (if j < i then j else i) ≤ j := by split <;> omega
      rcases List.mem_cons.mp hy with rfl | hy
      · exact Int.le_trans h3 h4.1
      · rcases List.mem_cons.mp hy with rfl | hy
        · exact Int.le_trans h3 h4.2
        · exact h2 y (List.mem_cons_of_mem _ hy)
theorem list_of {H : Hp} {μ : Mu} {S : Sto} {v : V} {d : D} {ds : List D} (r : RV H μ v d) (sr : SRel T H μ S) (h : listD S d = some ds) :
    ∃ a xs, v = .ref a ∧ RVs H μ xs ds ∧ Rd H a (.lst xs) := by
  unfold listD at h
  cases d with
  | lst es =>
    simp only [vw] at h
    cases h
    obtain ⟨a, xs, rfl, h1, n1, q1⟩ := r.lst_inv
    exact ⟨a, xs, rfl, q1, h1⟩
  | ref n =>
    simp only [vw] at h
    split at h
    · rename_i heq
      split at heq
      · rename_i hs1
        cases heq
        cases h
        obtain ⟨a, rfl, hn⟩ := r.ref_inv
        obtain ⟨xs, e, q1⟩ := sr.ob _ _ _ hn hs1
        exact ⟨a, xs, rfl, q1, .inl e⟩
      · cases heq
    · cases h
  | _ => simp [vw] at h
theorem cr_sum' (hc : X.calm = true) : CallR X (.builtin "sum") (rBf T .sum) := by
  intro pins s σ H xs us Q I r h
  obtain ⟨μ, S, ds, W, rs, sr, af⟩ := h
  obtain ⟨d', hd, af'⟩ := af.of
  clear af
  unfold bfD at hd
  split at hd <;> try (first | contradiction | (cases hd; done))
  simp only [Option.map_eq_some_iff, Option.bind_eq_some_iff] at hd
  obtain ⟨ns, ⟨es, h1, h2⟩, rfl⟩ := hd
  obtain ⟨v, rfl, rv⟩ := rs.one
  obtain ⟨a, ys, rfl, q1, hl⟩ := list_of rv sr h1
  have e := q1.ints h2
  subst e
  exact cr_sum hc pins s σ H _ us Q I r ⟨a, ns, rfl, .inl hl, af'.here _ sr (.int _)⟩
theorem cr_all' (hc : X.calm = true) : CallR X (.builtin "all") (rBf T .all) := by
  intro pins s σ H xs us Q I r h
  obtain ⟨μ, S, ds, W, rs, sr, af⟩ := h
  obtain ⟨d', hd, af'⟩ := af.of
  clear af
  unfold bfD at hd
  split at hd <;> try (first | contradiction | (cases hd; done))
  simp only [Option.map_eq_some_iff, Option.bind_eq_some_iff] at hd
  obtain ⟨ns, ⟨es, h1, h2⟩, rfl⟩ := hd
  obtain ⟨v, rfl, rv⟩ := rs.one
  obtain ⟨a, ys, rfl, q1, hl⟩ := list_of rv sr h1
  have e := q1.bls h2
  subst e
  exact cr_all hc pins s σ H _ us Q I r ⟨a, ns, rfl, .inl hl, af'.here _ sr (.bl _)⟩
theorem cr_any' (hc : X.calm = true) : CallR X (.builtin "any") (rBf T .any) := by
  intro pins s σ H xs us Q I r h
  obtain ⟨μ, S, ds, W, rs, sr, af⟩ := h
  obtain ⟨d', hd, af'⟩ := af.of
  clear af
  unfold bfD at hd
  split at hd <;> try (first | contradiction | (cases hd; done))
  simp only [Option.map_eq_some_iff, Option.bind_eq_some_iff] at hd
  obtain ⟨ns, ⟨es, h1, h2⟩, rfl⟩ := hd
  obtain ⟨v, rfl, rv⟩ := rs.one
  obtain ⟨a, ys, rfl, q1, hl⟩ := list_of rv sr h1
  have e := q1.bls h2
  subst e
  exact cr_any hc pins s σ H _ us Q I r ⟨a, ns, rfl, .inl hl, af'.here _ sr (.bl _)⟩
theorem cr_maxL (hc : X.calm = true) : CallR X (.builtin "max") (rBf T .maxL) := by
  intro pins s σ H xs us Q I r h
  obtain ⟨μ, S, ds, W, rs, sr, af⟩ := h
  obtain ⟨d', hd, af'⟩ := af.of
  clear af
  unfold bfD at hd
  split at hd <;> try (first | contradiction | (cases hd; done))
  simp only [Option.map_eq_some_iff, Option.bind_eq_some_iff] at hd
  obtain ⟨ns, ⟨es, h1, h2⟩, m, hm, rfl⟩ := hd
  obtain ⟨v, rfl, rv⟩ := rs.one
  obtain ⟨a, ys, rfl, q1, hl⟩ := list_of rv sr h1
  have e := q1.ints h2
  subst e
  cases ns with
  | nil => cases hm
  | cons i r' =>
    cases hm
    obtain ⟨g1, g2⟩ := max_mem r' i
    refine cr_max hc pins s σ H _ us Q I r ⟨a, i :: r', rfl, .inl hl, by simp, fun m hm1 hm2 => ?_⟩
    have : m = r'.foldl (fun m j => if m < j then j else m) i := Int.le_antisymm (g2 m hm1) (hm2 _ g1)
    rw [this]
    exact af'.here _ sr (.int _)
theorem cr_minL (hc : X.calm = true) : CallR X (.builtin "min") (rBf T .minL) := by
  intro pins s σ H xs us Q I r h
  obtain ⟨μ, S, ds, W, rs, sr, af⟩ := h
  obtain ⟨d', hd, af'⟩ := af.of
  clear af
  unfold bfD at hd
  split at hd <;> try (first | contradiction | (cases hd; done))
  simp only [Option.map_eq_some_iff, Option.bind_eq_some_iff] at hd
  obtain ⟨ns, ⟨es, h1, h2⟩, m, hm, rfl⟩ := hd
  obtain ⟨v, rfl, rv⟩ := rs.one
  obtain ⟨a, ys, rfl, q1, hl⟩ := list_of rv sr h1
  have e := q1.ints h2
  subst e
  cases ns with
  | nil => cases hm
  | cons i r' =>
    cases hm
    obtain ⟨g1, g2⟩ := min_mem r' i
    refine cr_min hc pins s σ H _ us Q I r ⟨a, i :: r', rfl, .inl hl, by simp, fun m hm1 hm2 => ?_⟩
    have : m = r'.foldl (fun m j => if j < m then j else m) i := Int.le_antisymm (hm2 _ g1) (g2 m hm1)
    rw [this]
    exact af'.here _ sr (.int _)
theorem cr_int : CallR X (.type "int") (rBf T .int) := by
  intro pins s σ H xs us Q I r h
  obtain ⟨μ, S, ds, W, rs, sr, af⟩ := h
  obtain ⟨d', hd, af'⟩ := af.of
  clear af
  unfold bfD at hd
  split at hd <;> try (first | contradiction | (cases hd; done))
  · cases hd
    obtain ⟨v, rfl, rv⟩ := rs.one
    obtain rfl := rv.int_inv
    exact call_int1 pins s σ H _ us Q I r (.inl ⟨_, rfl, af'.here _ sr (.int _)⟩)
  · cases hd
    obtain ⟨v, rfl, rv⟩ := rs.one
    obtain rfl := rv.bl_inv
    exact call_int1 pins s σ H _ us Q I r (.inr ⟨_, rfl, af'.here _ sr (.int _)⟩)
theorem cr_tuple : CallR X (.type "tuple") (rBf T .tuple) := by
  intro pins s σ H xs us Q I r h
  obtain ⟨μ, S, ds, W, rs, sr, af⟩ := h
  obtain ⟨d', hd, af'⟩ := af.of
  clear af
  unfold bfD at hd
  split at hd <;> try (first | contradiction | (cases hd; done))
  simp only [Option.map_eq_some_iff] at hd
  obtain ⟨es, h1, rfl⟩ := hd
  obtain ⟨v, rfl, rv⟩ := rs.one
  obtain ⟨a, ys, rfl, q1, hor⟩ := items_of rv sr h1
  rcases hor with hl | ⟨ht, rfl, na⟩
  · exact call_tuple_of pins s σ H _ us Q I r ⟨a, ys, rfl, .inl ⟨.inl hl, fun l hl => af'.ok _ (Ext.side hl) (sr.side hl) (newT sr hl q1)⟩⟩
  · exact call_tuple_of pins s σ H _ us Q I r ⟨a, ys, rfl, .inr ⟨.inl (.inl ht), af'.here _ sr rv⟩⟩
theorem cr_list : CallR X (.type "list") (rBf T .list) := by
  intro pins s σ H xs us Q I r h
  obtain ⟨μ, S, ds, W, rs, sr, af⟩ := h
  obtain ⟨d', hd, af'⟩ := af.of
  clear af
  unfold bfD at hd
  split at hd <;> try (first | contradiction | (cases hd; done))
  simp only [Option.map_eq_some_iff] at hd
  obtain ⟨es, h1, rfl⟩ := hd
  obtain ⟨v, rfl, rv⟩ := rs.one
  obtain ⟨a, ys, rfl, q1, hor⟩ := items_of rv sr h1
  refine call_list_of pins s σ H _ us Q I r ⟨a, ys, rfl, ?_, fun l hl => af'.ok _ (Ext.side hl) (sr.side hl) (newLv sr hl q1)⟩
  rcases hor with hl | ⟨ht, rfl, na⟩
  · exact .inl (.inl hl)
  · exact .inr (.inl (.inl ht))
/-! ### isinstance -/
def tyName : D → String
  | .non => "NoneType"
  | .bl _ => "bool"
  | .int _ => "int"
  | .str _ => "str"
  | .tup _ => "tuple"
  | .lst _ => "list"
  | .ref _ => ""
theorem tyOf {K : PySem.W.Frag} {H : Hp} {μ : Mu} {v : V} {d : D} (r : RV H μ v d) (h : ∀ n, d ≠ .ref n) : TyOf K H v (.type (tyName d)) := by
  cases r with
  | non => exact .non
  | bl b => exact .bl b
  | int i => exact .int i
  | str x _ => exact .str _
  | tup h1 _ _ => exact .tup h1
  | lst h1 _ _ =>
    rcases h1 with h1 | ⟨o, h1⟩
    · exact .lst h1
    · exact .frz h1
  | ref _ => exact absurd rfl (h _)
def isiName : Bf → String
  | .isInt => "int" | .isBool => "bool" | .isStr => "str" | .isTuple => "tuple" | .isList => "list" | _ => ""
def isiB (f : Bf) : Bool := match f with | .isInt | .isBool | .isStr | .isTuple | .isList => true | _ => false
/-- isinstance(x, T) by x's data, the second argument T's own value -/
def rIsiD (T : Tie) (f : Bf) : List V → Hp → VK → Prop := fun xs H Q => ∃ x, xs = [x, .ty (isiName f)] ∧ rBf T f [x] H Q
theorem kb (a b : String) : ∀ r, kitB a b = some r → kitB a b = some r := fun _ h => h
theorem isi_int : kitB "NoneType" "int" = some false ∧ kitB "bool" "int" = some true ∧ kitB "int" "int" = some true ∧ kitB "str" "int" = some false ∧ kitB "tuple" "int" = some false ∧ kitB "list" "int" = some false := by decide +kernel
theorem isi_bool : kitB "NoneType" "bool" = some false ∧ kitB "bool" "bool" = some true ∧ kitB "int" "bool" = some false ∧ kitB "str" "bool" = some false ∧ kitB "tuple" "bool" = some false ∧ kitB "list" "bool" = some false := by decide +kernel
theorem isi_str : kitB "NoneType" "str" = some false ∧ kitB "bool" "str" = some false ∧ kitB "int" "str" = some false ∧ kitB "str" "str" = some true ∧ kitB "tuple" "str" = some false ∧ kitB "list" "str" = some false := by decide +kernel
theorem isi_tuple : kitB "NoneType" "tuple" = some false ∧ kitB "bool" "tuple" = some false ∧ kitB "int" "tuple" = some false ∧ kitB "str" "tuple" = some false ∧ kitB "tuple" "tuple" = some true ∧ kitB "list" "tuple" = some false := by decide +kernel
theorem isi_list : kitB "NoneType" "list" = some false ∧ kitB "bool" "list" = some false ∧ kitB "int" "list" = some false ∧ kitB "str" "list" = some false ∧ kitB "tuple" "list" = some false ∧ kitB "list" "list" = some true := by decide +kernel
theorem isi_ans {S : Sto} {f : Bf} (hf : isiB f = true) {d d' : D} (h : bfD S f [d] = some d') : (∀ n, d ≠ .ref n) ∧ ∃ b, d' = .bl b ∧ kitB (tyName d) (isiName f) = some b := by
  obtain ⟨a1, a2, a3, a4, a5, a6⟩ := isi_int
  obtain ⟨b1, b2, b3, b4, b5, b6⟩ := isi_bool
  obtain ⟨c1, c2, c3, c4, c5, c6⟩ := isi_str
  obtain ⟨d1, d2, d3, d4, d5, d6⟩ := isi_tuple
  obtain ⟨e1, e2, e3, e4, e5, e6⟩ := isi_list
  cases f <;> simp [isiB] at hf <;> cases d <;> simp only [bfD, Option.some.injEq, reduceCtorEq] at h <;> subst h <;> (refine ⟨fun n q => (by cases q), _, rfl, ?_⟩) <;> simp only [tyName, isiName] <;> assumption
theorem cr_isi {f : Bf} (hf : isiB f = true) : CallR X (.builtin "isinstance") (rIsiD T f) := by
  intro pins s σ H xs us Q I r h
  obtain ⟨x, rfl, μ, S, ds, W, rs, sr, af⟩ := h
  obtain ⟨d', hd, af'⟩ := af.of
  clear af
  cases rs with
  | cons rv rn =>
    cases rn
    obtain ⟨hr, b, rfl, hk⟩ := isi_ans hf hd
    exact call_isi pins s σ H _ us Q I r ⟨x, _, _, _, b, rfl, .ty _, .base (tyOf rv hr), kit_ty hk, af'.here _ sr (.bl _)⟩
end
end HW
/-! sorted, by data. -/
namespace HW
open PySem L2 PySem.W PyProof.Rows
section
variable {X : Cx} {T : Tie} {H : Hp} {μ : Mu}
def VD (H : Hp) (μ : Mu) (u : Value) (d : D) : Prop := ∃ v, RelV v u ∧ RV H μ v d
theorem each_of : ∀ {xs : List V} {us : List Value} {ds : List D}, Vals xs us → RVs H μ xs ds → EachIs (VD H μ) us ds
  | _, _, [], r, q => by cases q; cases r; exact .nil
  | _, _, d :: ds, r, q => by
    cases q with
    | cons a b => cases r with | cons c e => exact .cons ⟨_, c, a⟩ (each_of e b)
theorem of_each : ∀ {us : List Value} {ds : List D}, EachIs (VD H μ) us ds → ∃ xs, Vals xs us ∧ RVs H μ xs ds
  | _, _, .nil => ⟨[], .nil, .nil⟩
  | _, _, .cons ⟨v, a, b⟩ t => by
    obtain ⟨xs, h1, h2⟩ := of_each t
    exact ⟨v :: xs, .cons a h1, .cons b h2⟩
theorem toPys_map : ∀ ds : List D, toPys ds = ds.map toPy
  | [] => rfl
  | d :: ds => by simp [toPys, toPys_map ds]
theorem flatL_mem : ∀ {ds : List D} {d : D}, D.flatL ds = true → d ∈ ds → d.flat = true
  | d :: ds, e, h, m => by
    simp only [D.flatL, Bool.and_eq_true] at h
    rcases List.mem_cons.mp m with rfl | m
    · exact h.1
    · exact flatL_mem h.2 m
theorem depL_mem : ∀ {ds : List D} {d : D}, d ∈ ds → d.dep ≤ D.depL ds
  | d :: ds, e, m => by
    simp only [D.depL]
    rcases List.mem_cons.mp m with rfl | m
    · exact Nat.le_max_left _ _
    · exact Nat.le_trans (depL_mem m) (Nat.le_max_right _ _)
structure SortOk (ds : List D) : Prop where
  al : ∀ a ∈ ds, ∀ b ∈ ds, D.alike a b = true
  ta : (∀ a ∈ ds, tupOk a = true) ∨ ∀ a ∈ ds, atomOk a = true
  fl : D.flatL ds = true
  dp : D.depL ds ≤ 50
  ln : ds.length ≤ SZ
theorem sort_ok {ds : List D} (h : sortable ds = true) : SortOk ds := by
  unfold sortable at h
  simp only [Bool.and_eq_true, Bool.or_eq_true, decide_eq_true_eq, List.all_eq_true] at h
  exact ⟨h.1.1.1.1, h.1.1.1.2, h.1.1.2, h.1.2, h.2⟩
theorem SortOk.alike {ds : List D} (h : SortOk ds) : AllAlike (ds.map toPy) := by
  intro d hd d' hd'
  obtain ⟨a, ha, rfl⟩ := List.mem_map.mp hd
  obtain ⟨b, hb, rfl⟩ := List.mem_map.mp hd'
  exact alike_py a b (h.al a ha b hb)
theorem SortOk.sortable {ds : List D} (h : SortOk ds) : Sortable (ds.map toPy) := by
  rcases h.ta with q | q
  · refine .inl fun d hd => ?_
    obtain ⟨a, ha, rfl⟩ := List.mem_map.mp hd
    have := q a ha
    cases a with
    | tup es =>
      cases es with
      | nil => simp [tupOk] at this
      | cons x r => exact ⟨toPy x, toPys r, by simp [toPy, toPys]⟩
    | _ => simp [tupOk] at this
  · refine .inr fun d hd => ?_
    obtain ⟨a, ha, rfl⟩ := List.mem_map.mp hd
    have := q a ha
    cases a <;> simp [atomOk] at this <;> simp [toPy]
theorem SortOk.merge {ds : List D} (h : SortOk ds) : ds.mergeSort (dataLe false toPy) = sortD ds := by
  unfold sortD
  refine sort_congr fun a ha b hb => ?_
  show (!dataLt (toPy b) (toPy a)) = !D.lt b a
  rw [lt_py b a (h.al b hb a ha) (flatL_mem h.fl hb) (flatL_mem h.fl ha)]
theorem reads_each {pins : List (Addr × Obj)} {σ : L2.St} {s : Shared} {xs : List V} {us : List Value} {ds : List D} (I : L2.Inv X pins σ H s) (r : Vals xs us) (q : RVs H μ xs ds) (f : D.flatL ds = true) :
    EachIs (fun v b => ∃ as, Reads s.heap v (toPy b) as) us ds := by
  obtain ⟨as, hr⟩ := Dp.readsAll I _ xs us (q.dp f) r
  rw [toPys_map] at hr
  exact readsAll_each toPy hr
/-- behind the gathering: the new list is sorted -/
theorem sorted_list {pins : List (Addr × Obj)} {σ : L2.St} {s : Shared} {a : Addr} {xs : List V} {ds : List D} {Q : VK} {S : Sto} (hu : X.A.units + 65 < cLine) (I : L2.Inv X pins σ H s) (sr : SRel T H μ S) (h : Rd H a (.lst xs)) (q : RVs H μ xs ds) (hs : SortOk ds)
    (hq : ∀ p ys, H p = none → RVs H μ ys (sortD ds) → Q (.ref p) (upd H p (.lst ys))) : wpAny (model X.prog X.w) X.A (call (.builtin "sorted") [.ref a]) (EP X pins σ Q) X.xe s := by
  obtain ⟨its, n, r, hl, e, z⟩ := rd_obj I h
  refine sorted_data (R := VD H μ) (enc := toPy) (vs := its) (bs := ds) ⟨_, e, rfl, n, rfl⟩ (each_of r q) (reads_each I r q hs.fl) hs.alike hs.sortable (sz_le hs.ln) (fun b hb => ?_) fun out ho he => ?_
  · have := depL_mem hb
    have := hs.dp
    rw [dep_py]
    omega
  · rw [hs.merge] at he
    obtain ⟨ys, h1, h2⟩ := of_each he
    obtain ⟨ep, he'⟩ := PyProof.Rows.sortedAll_at s.heap its (List.toArray out)
    have hlen : ys.length ≤ sizeLine := by rw [h1.length, ho]; exact sz_le hs.ln
    exact ⟨.ref _, upd H (s.heap.objs.size + 1) (.lst ys), I.laid (t' := s.toks) (fun _ _ => PyProof.Rows.sortedAll_old) (Nat.le_succ _) ⟨hlen, out, ep, h1, by simpa using he'⟩, rfl, hq _ ys (I.hok.fresh (Nat.le_succ _)) h2⟩
/-- sorted: the gathered items acc, from here on -/
theorem sorted_acc {pins : List (Addr × Obj)} {σ : L2.St} {s : Shared} {Q : VK} {S : Sto} {acc : List Value} {xs : List V} {ds : List D} {f : Value → Sem PySem.Fin} {E : Value → Shared → Prop} (hu : X.A.units + 65 < cLine) (I : L2.Inv X pins σ H s) (sr : SRel T H μ S) (r : Vals xs acc) (q : RVs H μ xs ds) (hs : SortOk ds)
    (hf : ∀ (l : Addr) (P : PySem.Fin → Shared → Prop) (s' : Shared), wpAny (model X.prog X.w) X.A.in1 (call (.builtin "list.sort") [.ref l]) (fun _ s'' => P (.done (.ret (.ref l))) s'') E s' → wpAny (model X.prog X.w) X.A.in1 (f (.ref l)) P E s')
    (hq : ∀ p ys, H p = none → RVs H μ ys (sortD ds) → Q (.ref p) (upd H p (.lst ys))) :
    wpAny (model X.prog X.w) X.A.in1 (newList acc >>= f) (fun fin s' => ∃ r, fin = .done (.ret r) ∧ EP X pins σ Q r s') E s := by
  have hal : acc.length = ds.length := r.length.symm.trans q.length
  refine wpAny_bind (wpAny_newList ?_ (by rw [hal]; exact sz_le hs.ln))
  have hoL : (s.heap.push (seqObj "list" acc.toArray 0)).get? s.heap.objs.size = some (seqObj "list" acc.toArray 0) := Heap.get?_push_size _ rfl
  show wpAny _ _ _ _ _ { s with heap := s.heap.push (seqObj "list" acc.toArray 0) }
  refine hf _ _ _ ?_
  have er0 := reads_each I r q hs.fl
  have er' : EachIs (fun v b => ∃ as, Reads (sortingHeap (s.heap.push (seqObj "list" acc.toArray 0)) s.heap.objs.size acc) v (toPy b) as) acc ds :=
    er0.mono fun _ _ ⟨as, z⟩ => ⟨as, PyProof.Rows.Reads.keeps (fun b o e => sortingHeap_old (Nat.ne_of_lt (Heap.lt_size e)) (Heap.get?_push_of_some _ e)) z⟩
  refine wpAny_call_entry slot_list_sort ⟨_, hoL, rfl⟩ entry_list_sort (list_sort_vals (s := { s with heap := s.heap.push (seqObj "list" acc.toArray 0) }) (κ := dataKind (sortingHeap (s.heap.push (seqObj "list" acc.toArray 0)) s.heap.objs.size acc) (ds.map toPy)) hoL
    (SortsAt.data (s := { s with heap := sortingHeap (s.heap.push (seqObj "list" acc.toArray 0)) s.heap.objs.size acc }) (each_map (R := fun v d => ∃ as, Reads (sortingHeap (s.heap.push (seqObj "list" acc.toArray 0)) s.heap.objs.size acc) v d as) toPy er') hs.alike hs.sortable (bound_map fun b hb => ?_)) (by rw [hal]; exact sz_le hs.ln) ⟨.none, rfl, ?_⟩) (args_list_sort _)
  · have := depL_mem hb
    have := hs.dp
    rw [dep_py]
    show X.A.units + 1 + 1 + b.dep < cLine
    omega
  · have he := sortVals_data false (each_of r q) er' hs.alike
    rw [hs.merge] at he
    obtain ⟨ys, h1, h2⟩ := of_each he
    obtain ⟨e', he'⟩ := PyProof.Rows.sortedHeap_at (vs := acc) (out := (sortVals (dataKind (sortingHeap (s.heap.push (seqObj "list" acc.toArray 0)) s.heap.objs.size acc) (ds.map toPy)) false acc acc).toArray) hoL
    have hlen : ys.length ≤ sizeLine := by
      rw [h1.length, sortVals_length false rfl, hal]; exact sz_le hs.ln
    refine ⟨_, rfl, .ref s.heap.objs.size, upd H s.heap.objs.size (.lst ys), I.laid (t' := s.toks) (fun b u e => ?_) (Nat.le_refl _) (show ObjOk X.prog X.w _ _ _ (.lst ys) from ⟨hlen, _, e', h1, by simpa using he'⟩), rfl, hq _ ys (I.hok.fresh (Nat.le_refl _)) h2⟩
    have hb : b < s.heap.objs.size := Heap.lt_size e
    rw [PyProof.Rows.sortedHeap_old (Nat.ne_of_lt hb) (by rw [size_push']; exact Nat.lt_succ_of_lt hb)]
    exact Heap.get?_push_of_some _ e
theorem SRel.noTup {S : Sto} (sr : SRel T H μ S) {a : Addr} {xs : List V} (h : H a = some (.tup xs)) : a ∉ μ := fun z => by
  rcases z with z | z
  case inr => obtain ⟨_, ys, e⟩ := sr.hd a z; rw [h] at e; cases e
  obtain ⟨n, hn⟩ := List.getElem?_of_mem z
  have hl : n < S.length := by rw [← sr.len]; exact (List.getElem?_eq_some_iff.mp hn).1
  have q := sr.ob n a _ hn (List.getElem?_eq_getElem hl)
  generalize S[n] = o at q
  cases o with
  | lst ds => obtain ⟨xs, e, _⟩ := q; rw [h] at e; cases e
  | dct kvs =>
    rcases q with ⟨kv, e, _⟩ | ⟨kv, e, _⟩
    · rw [h] at e; cases e
    · rw [h] at e; cases e
  | ins c fs => obtain ⟨_, dx, xs, e, _⟩ := q; rw [h] at e; cases e
theorem rv_key {k : Key} {d : D} (h : KeyR k d) : RV H μ (kV k) d := by
  obtain ⟨h1, h2⟩ := h
  cases d with
  | int i => cases h1; exact .int i
  | str x => cases h1; exact .str x (h2 x rfl)
  | _ => simp [keyOf] at h1
theorem rv_keys : ∀ {ks : List Key} {ds : List D}, KeysR ks ds → RVs H μ (ks.map kV) ds
  | [], [], _ => .nil
  | [], _ :: _, h => h.elim
  | _ :: _, [], h => h.elim
  | k :: ks, d :: ds, h => .cons (rv_key h.1) (rv_keys h.2)
theorem keys_rvs : ∀ {kv : List (Key × V)} {kvs : List (D × D)}, KVR KeyR H μ kv kvs → RVs H μ (kv.map fun p => kV p.1) (kvs.map (·.1))
  | _, _, .nil => .nil
  | _, _, .cons r t => .cons (rv_key r.1) (keys_rvs t)
theorem tkeys_rvs {S : Sto} (sr : SRel T H μ S) : ∀ {kv : List (List Key × V)} {kvs : List (D × D)} {xs : List (List Key × Addr × Value)}, KVR TKeyR H μ kv kvs → KT H kv xs → RVs H μ (xs.map fun y => V.ref y.2.1) (kvs.map (·.1))
  | _, _, _, .nil, .nil => .nil
  | p :: _, q :: _, y :: _, .cons r t, .cons r' t' => by
    obtain ⟨ds, e, hk⟩ := r.1
    obtain ⟨e1, e2, _⟩ := r'
    refine .cons ?_ (tkeys_rvs sr t t')
    show RV H μ (.ref y.2.1) q.1
    rw [e]
    exact .tup e2 (SRel.noTup sr e2) (rv_keys hk)
theorem vals_refs : ∀ {xs : List (List Key × Addr × Value)} {us : List Value}, us.length = xs.length → (∀ (i : Nat) (u : Value), us[i]? = some u → ∃ y, xs[i]? = some y ∧ u = .ref y.2.1) → Vals (xs.map fun y => V.ref y.2.1) us
  | [], [], _, _ => .nil
  | [], _ :: _, h, _ => by simp at h
  | _ :: _, [], h, _ => by simp at h
  | x :: xs, u :: us, hl, h => by
    obtain ⟨y, e1, e2⟩ := h 0 u rfl
    cases e1
    subst e2
    exact .cons rfl (vals_refs (by simpa using hl) fun i u e => by simpa using h (i + 1) u (by simpa using e))
theorem cr_sorted' (hu : X.A.units + 65 < cLine) (hc : X.calm = true) : CallR X (.builtin "sorted") (rBf T .sorted) := by
  intro pins s σ H xs us Q I r h
  obtain ⟨μ, S, ds, W, rs, sr, af⟩ := h
  obtain ⟨d', hd, af'⟩ := af.of
  clear af
  unfold bfD at hd
  split at hd <;> try (first | contradiction | (cases hd; done))
  rename_i d _
  obtain ⟨v, rfl, rv⟩ := rs.one
  obtain ⟨u, rfl, ru⟩ := vals1 r
  have fin : ∀ {es : List D}, d' = .lst (sortD es) → ∀ p ys, H p = none → RVs H μ ys (sortD es) → Q (.ref p) (upd H p (.lst ys)) := by
    rintro es rfl p ys hp hr
    exact af'.ok _ (Ext.side hp) (sr.side hp) (newLv sr hp hr)
  have body : ∀ {es : List D} (acc : List Value) (xs : List V) (s' : Shared) (E : Value → Shared → Prop), d' = .lst (sortD es) → SortOk es → Vals xs acc → RVs H μ xs es → L2.Inv X pins σ H s' →
      wpAny (model X.prog X.w) X.A.in1 (newList acc >>= fun l => do
        let _ ← holding [l] (call (.builtin "list.sort") [l])
        pure (PySem.Fin.done (.ret l))) (fun fin s' => ∃ r, fin = .done (.ret r) ∧ EP X pins σ Q r s') E s' := by
    intro es acc xs s' E e hok r q I'
    refine sorted_acc hu I' sr r q hok (fun l P s'' hp => ?_) (fin e)
    exact wpAny_bind (wpAny_holding (thn hp fun _ _ z => wpAny_pure z))
  unfold sortedD at hd
  cases d with
  | lst es =>
    simp only [vw] at hd
    split at hd
    · rename_i hok
      cases hd
      obtain ⟨a, ys, rfl, h1, n1, q1⟩ := rv.lst_inv
      cases (show u = Value.ref a from ru)
      exact sorted_list hu I sr h1 q1 (sort_ok hok) (fin rfl)
    · cases hd
  | tup es =>
    simp only [vw] at hd
    split at hd
    · rename_i hok
      cases hd
      obtain ⟨a, ys, rfl, h1, n1, q1⟩ := rv.tup_inv
      cases (show u = Value.ref a from ru)
      obtain ⟨z, its, ri, o, ho, hcl, n, hdat⟩ := I.hok a _ h1
      refine Calls.call_function_entry kind_sorted plain_sorted entry_sorted (args_sorted1 _) ?_
      unfold Builtin.«sorted»
      refine wpAny_bind (m := checkCount "sorted" 1 1 _) (wpAny_pure ?_)
      refine wpAny_bind (wpAny_collect_seq a (.inr rfl) ho hcl hdat (fun h' hk => ?_) (by rw [List.size_toArray, ← ri.length]; exact z))
      have I1 : L2.Inv X pins σ H { s with heap := h' } := I.kept (t' := s.toks) hk
      exact body its ys _ _ rfl (sort_ok hok) ri q1 I1
    · cases hd
  | ref n =>
    obtain ⟨a, rfl, hn⟩ := rv.ref_inv
    cases (show u = Value.ref a from ru)
    simp only [vw] at hd
    split at hd
    · rename_i heq
      split at heq
      · rename_i hs1
        cases heq
        split at hd
        · rename_i hok
          cases hd
          obtain ⟨ys, e, q1⟩ := sr.ob _ _ _ hn hs1
          exact sorted_list hu I sr (.inl e) q1 (sort_ok hok) (fin rfl)
        · cases hd
      · cases heq
    · rename_i heq
      split at heq
      · cases heq
      · cases heq
    · rename_i m heq
      split at heq
      · cases heq
      · cases heq
        split at hd
        · rename_i kvs hs1
          split at hd
          · rename_i hok
            cases hd
            have ok := sort_ok hok
            have hlk : kvs.length ≤ SZ := by simpa using ok.ln
            refine Calls.call_function_entry kind_sorted plain_sorted entry_sorted (args_sorted1 _) ?_
            unfold Builtin.«sorted»
            refine wpAny_bind (m := checkCount "sorted" 1 1 _) (wpAny_pure ?_)
            rcases sr.ob _ _ _ hn hs1 with ⟨kv, e, q1⟩ | ⟨kv, e, q1⟩
            · obtain ⟨z, lo, vs, rel, dd⟩ := dk_of I.hok e
              obtain ⟨es, ep, raw, hsz, hks⟩ := dd.raw
              have hl : vs.length = kvs.length := rel.length.symm.trans (Paired.length q1)
              refine wpAny_bind (kdu_collect (A := X.A.in1) (KdlSrc.rawDict lo) (I.ok.hd hc) raw (by rw [hsz, hl]; exact sz_le hlk) fun h' tk acc hk hacc => ?_)
              have I1 : L2.Inv X pins σ H { s with heap := h', toks := tk } := I.kept hk
              have hv : Vals (vs.map fun p => kV p.1) acc.toList := by
                refine keys_at (by rw [Array.length_toList, hacc.1, hsz]) fun j v ej => ?_
                obtain ⟨hi, rfl⟩ := hacc.2 j v (by rw [← Array.getElem?_toList]; exact ej)
                have hjl : j < vs.length := by rw [← hsz]; exact hi
                obtain ⟨g1, g2⟩ := hks j hi vs[j].1 vs[j].2 (by simp [hjl])
                exact ⟨vs[j].1, vs[j].2, by simp [hjl], g1⟩
              have ek : (vs.map fun p => kV p.1) = kv.map fun p => kV p.1 := by
                have := rel.keys
                have e2 := congrArg (List.map kV) this
                simp only [List.map_map] at e2
                exact e2.symm
              rw [ek] at hv
              exact body _ _ _ _ rfl ok hv (keys_rvs q1) I1
            · obtain ⟨z, lo, xs, rel, dd⟩ := dt_of I.hok e
              obtain ⟨es, ep, raw, hsz, hks⟩ := dd.raw
              have hl : xs.length = kvs.length := (Paired.length rel).symm.trans (Paired.length q1)
              refine wpAny_bind (kdu_collect (A := X.A.in1) (KdlSrc.rawDict lo) (I.ok.hd hc) raw (by rw [hsz, hl]; exact sz_le hlk) fun h' tk acc hk hacc => ?_)
              have I1 : L2.Inv X pins σ H { s with heap := h', toks := tk } := I.kept hk
              have hv : Vals (xs.map fun y => V.ref y.2.1) acc.toList := by
                refine vals_refs (by rw [Array.length_toList, hacc.1, hsz]) fun j v ej => ?_
                obtain ⟨hi, rfl⟩ := hacc.2 j v (by rw [← Array.getElem?_toList]; exact ej)
                obtain ⟨y, g1, g2, _⟩ := hks j hi
                exact ⟨y, g1, g2⟩
              exact body _ _ _ _ rfl ok hv (tkeys_rvs sr q1 rel) I1
          · cases hd
        · cases hd
    · cases hd
  | _ => simp [vw] at hd
end
end HW
/-! Methods of built-in types, by data. -/
namespace HW
open PySem L2
section
variable {X : Cx} {T : Tie}
def rBm (T : Tie) (m : Bm) : V → List V → Hp → VK → Prop := fun x xs H Q => ∃ μ S d ds W, RV H μ x d ∧ RVs H μ xs ds ∧ SRel T H μ S ∧ Aft T RV W H μ (bmR m d ds S) Q
theorem mt_append' : MtR X "list.append" (rBm T .append) := by
  intro pins s σ H x xs v us Q I rx rv h
  obtain ⟨μ, S, d, ds, W, r1, rs, sr, af⟩ := h
  unfold bmR at af
  split at af <;> try (first | contradiction | exact af.elim)
  · split at af
    · rename_i hs1
      split at af
      · rename_i hl
        obtain ⟨a, rfl, hn⟩ := r1.ref_inv
        obtain ⟨y, rfl, ry⟩ := rs.one
        obtain ⟨ys, e, q1⟩ := sr.ob _ _ _ hn hs1
        have ha := sr.wr hn
        refine mt_append pins s σ H _ _ v us Q I rx rv ⟨a, ys, y, rfl, rfl, e, by rw [q1.length, sizeLine_eq]; exact hl, ?_⟩
        exact af.ok _ (Ext.write ha) (sr.write hn ⟨_, upd_same, (q1.append (.cons ry .nil)).ext (Ext.write ha)⟩) .non
      · exact af.elim
    · exact af.elim
open PyProof.Rows in
/-- xs.extend(ys), the other list read -/
def rExtendS : V → List V → Hp → VK → Prop := fun x vs H Q => ∃ l b xs zs, x = .ref l ∧ vs = [.ref b] ∧ H l = some (.lst xs) ∧ Rd H b (.lst zs) ∧ xs.length + zs.length ≤ sizeLine ∧ Q .non (upd H l (.lst (xs ++ zs)))
open PyProof.Rows in
theorem mt_extendS : MtR X "list.extend" rExtendS := by
  intro pins s σ H x vs v us Q I rx rv h
  obtain ⟨l, b, xs, zs, rfl, rfl, hH, hB, hz, q⟩ := h
  cases rx
  obtain ⟨u, rfl, ru⟩ := vals1 rv
  cases ru
  obtain ⟨z, its, n, r, hl, e⟩ := I.lstM hH
  obtain ⟨its2, n2, r2, hl2, e2, z2⟩ := rd_obj I hB
  have hsz : its.toArray.size + its2.toArray.size ≤ sizeLine := by rw [List.size_toArray, List.size_toArray]; omega
  have hlong : ¬ (!its.toArray.isEmpty && Builtin.List.listTooLong (its.toArray.size + its2.toArray.size)) = true := by
    rw [notLongL hsz, Bool.and_false]
    exact Bool.false_ne_true
  refine call_meets F.slot_list_extend ⟨_, e, rfl⟩ F.entry_list_extend (F.args_list_extend_2 _ _)
    (AutoSeq1.list_extend_list_list_0 l its.toArray n b its2.toArray n2 hlong (by rw [List.size_toArray]; omega) (by omega)) ⟨e, e2, ?_⟩
  refine ⟨.non, _, I.lset (its' := its ++ its2) hH e (by simp) (r.append r2) ?_, rfl, q⟩
  rw [List.length_append]
  omega
theorem mt_extend' : MtR X "list.extend" (rBm T .extend) := by
  intro pins s σ H x xs v us Q I rx rv h
  obtain ⟨μ, S, d, ds, W, r1, rs, sr, af⟩ := h
  unfold bmR at af
  split at af <;> try (first | contradiction | exact af.elim)
  · split at af
    · rename_i hs1 hy
      split at af
      · rename_i hl
        obtain ⟨a, rfl, hn⟩ := r1.ref_inv
        obtain ⟨y, rfl, ry⟩ := rs.one
        obtain ⟨ys, e, q1⟩ := sr.ob _ _ _ hn hs1
        obtain ⟨b, zs, rfl, q2, hb⟩ := list_of ry sr hy
        have ha := sr.wr hn
        refine mt_extendS pins s σ H _ _ v us Q I rx rv ⟨a, b, ys, zs, rfl, rfl, e, hb, by rw [q1.length, q2.length]; exact sz_le hl, ?_⟩
        exact af.ok _ (Ext.write ha) (sr.write hn ⟨_, upd_same, (q1.append q2).ext (Ext.write ha)⟩) .non
      · exact af.elim
    · exact af.elim
theorem mt_pop' : MtR X "list.pop" (rBm T .pop) := by
  intro pins s σ H x xs v us Q I rx rv h
  obtain ⟨μ, S, d, ds, W, r1, rs, sr, af⟩ := h
  unfold bmR at af
  split at af <;> try (first | contradiction | exact af.elim)
  · split at af
    · rename_i hs1
      split at af
      · rename_i x' hl
        obtain ⟨a, rfl, hn⟩ := r1.ref_inv
        cases rs
        obtain ⟨ys, e, q1⟩ := sr.ob _ _ _ hn hs1
        have ha := sr.wr hn
        rw [List.getLast?_eq_getElem?] at hl
        obtain ⟨y, hy, ry⟩ := q1.get hl
        rw [← q1.length] at hy
        refine mt_pop pins s σ H _ _ v us Q I rx rv ⟨a, ys, y, rfl, rfl, e, hy, ?_⟩
        exact af.ok _ (Ext.write ha) (sr.write hn ⟨_, upd_same, q1.dropLast.ext (Ext.write ha)⟩) (ry.ext (Ext.write ha))
      · exact af.elim
    · exact af.elim
theorem mt_popAt' : MtR X "list.pop" (rBm T .popAt) := by
  intro pins s σ H x xs v us Q I rx rv h
  obtain ⟨μ, S, d, ds, W, r1, rs, sr, af⟩ := h
  unfold bmR at af
  split at af <;> try (first | contradiction | exact af.elim)
  · split at af
    · rename_i hs1
      split at af
      · rename_i hb
        split at af
        · rename_i x' hl
          obtain ⟨a, rfl, hn⟩ := r1.ref_inv
          obtain ⟨y, rfl, ry⟩ := rs.one
          obtain rfl := ry.int_inv
          obtain ⟨ys, e, q1⟩ := sr.ob _ _ _ hn hs1
          have ha := sr.wr hn
          obtain ⟨y, hy, ry⟩ := q1.get hl
          have hlt := (List.getElem?_eq_some_iff.mp hy).1
          refine mt_popAt pins s σ H _ _ v us Q I rx rv ⟨a, ys, _, _, y, rfl, rfl, e, by omega, by omega, seqIndex_of hb.1 (by omega), hy, ?_⟩
          exact af.ok _ (Ext.write ha) (sr.write hn ⟨_, upd_same, (q1.eraseIdx _).ext (Ext.write ha)⟩) (ry.ext (Ext.write ha))
        · exact af.elim
      · exact af.elim
    · exact af.elim
theorem mt_get' (hu : X.A.units + 65 < cLine) : MtR X "dict.get" (rBm T .get) := by
  intro pins s σ H x xs v us Q I rx rv h
  obtain ⟨μ, S, d, ds, W, r1, rs, sr, af⟩ := h
  unfold bmR at af
  split at af <;> try (first | contradiction | exact af.elim)
  obtain ⟨d', hd, af'⟩ := af.of
  clear af
  unfold bmD at hd
  split at hd <;> try (first | contradiction | (cases hd; done))
  split at hd
  · rename_i hs1
    split at hd
    · rename_i hf
      cases hd
      obtain ⟨a, rfl, hn⟩ := r1.ref_inv
      obtain ⟨y, z, rfl, ry, rz⟩ := rs.two
      obtain ⟨u, w, rfl, ru, rw'⟩ := vals2 rv
      obtain ⟨H1, I1, e1, sr1, da⟩ := dct_as I sr hn hs1 ry hf
      obtain ⟨o, g, ho⟩ := da.get
      cases (show v = Value.ref a from rx)
      refine d_get2 (by omega) I1 g ru rw' fun w' s' I' rr => ?_
      refine ⟨_, H1, I', rr, af'.ok _ e1 sr1 ?_⟩
      rcases ho with ⟨rfl, h2⟩ | ⟨_, _, rfl, h2, h3⟩
      · rw [h2]; exact rz.ext e1
      · rw [h2]; exact h3
    · cases hd
  · cases hd
theorem mt_setdef' (hu : X.A.units + 65 < cLine) : MtR X "dict.setdefault" (rBm T .setdef) := by
  intro pins s σ H x xs v us Q I rx rv h
  obtain ⟨μ, S, d, ds, W, r1, rs, sr, af⟩ := h
  unfold bmR at af
  split at af <;> try (first | contradiction | exact af.elim)
  · split at af
    · rename_i k x' _ hs1
      split at af
      · rename_i hf
        simp only [Bool.and_eq_true, beq_iff_eq] at hf
        obtain ⟨hf, hk2⟩ := hf
        obtain ⟨a, rfl, hn⟩ := r1.ref_inv
        obtain ⟨y, z, rfl, ry, rz⟩ := rs.two
        obtain ⟨u, w, rfl, ru, rw'⟩ := vals2 rv
        obtain ⟨H1, I1, e1, sr1, da⟩ := dct_as I sr hn hs1 ry hf
        cases (show v = Value.ref a from rx)
        cases da with
        | k kv k e r hk hy => have := hk.cls; omega
        | t kv k b e r hk hy hb =>
          subst hy
          cases (show u = Value.ref b from ru)
          obtain ⟨zz, hd, xs, rel, dd⟩ := dt_of I1.hok e
          have ha := sr.wr hn
          have hzx : xs.length ≤ sizeLine := by rw [← Paired.length rel]; exact zz
          have hval := rel.val k
          have hget := KVR.get tkey_inj tkey_uq hk r
          refine call_setdefault_heap (hsz := hzx) (tupleKind_room_in1 (by omega)) (key_of I1.hok hb) hd dd (fun p hp => ?_) fun hp h' dd' hs => ?_
          · rcases hget with ⟨g1, g2⟩ | ⟨v', x'', g1, g2, g3⟩
            · rw [g1, hp] at hval
              exact hval.elim
            · rw [g2] at af
              rw [g1, hp] at hval
              exact ⟨v', H1, I1.tok _, hval, af.ok _ e1 sr1 g3⟩
          · rcases hget with ⟨g1, g2⟩ | ⟨v', x'', g1, g2, g3⟩
            · rw [g2] at af
              dsimp only at af
              split at af
              · rename_i hl
                have hlk : kv.length < sizeLine := by rw [Paired.length r, sizeLine_eq]; exact hl
                have hl2 : (putK kv k z).length ≤ sizeLine := by have := length_putK kv k z; omega
                obtain ⟨q, es, ep, hq, h2, h3, h4, _, h5⟩ := dd'
                have rz1 := rz.ext e1
                have I2 : L2.Inv X pins σ (upd H1 a (.dT (putK kv k z))) { s with heap := h', toks := s.toks + (tupleKind (mixKind X.prog X.w)).draws k } := by
                  refine d_write I1 (by rw [e]; exact True.intro) hs ⟨q, hq⟩ ⟨hl2, hd, _, (rel.put k hb rw').keeps fun c ys ec => ?_, q, es, ep, hq, h2, h3, h4, h5⟩
                  rw [upd_ne (ne_of ec e (fun z => nomatch z))]
                  exact ec
                refine ⟨z, _, I2, rw', af.ok _ (e1.trans (Ext.write ha)) (sr1.write hn (.inr ⟨_, upd_same, ?_⟩)) (rz1.ext (Ext.write ha))⟩
                exact Paired.mapR (KVR.put tkey_inj tkey_uq hk rz1 r) fun _ _ z => ⟨z.1, z.2.ext (Ext.write ha)⟩
              · exact af.elim
            · rw [g1, hp] at hval
              exact hval.elim
      · exact af.elim
    · exact af.elim
/-! ### join -/
theorem glued_sOf (sep : List Nat) : ∀ (ys : List (List Nat)), Txt.join (sOf sep) (ys.map sOf) = sOf (joinS sep ys) := by
  have fold : ∀ (r : List (List Nat)) (acc : List Nat), (r.map sOf).foldl (fun a p => a ++ (sOf sep).cps ++ p.cps) acc.toArray = (acc ++ (r.map fun y => sep ++ y).flatten).toArray := by
    intro r
    induction r with
    | nil => intro acc; simp
    | cons y r ih =>
      intro acc
      simp only [List.map_cons, List.foldl_cons, List.flatten_cons]
      have e : acc.toArray ++ (sOf sep).cps ++ (sOf y).cps = (acc ++ (sep ++ y)).toArray := by simp
      rw [e, ih]
      simp
  have js : ∀ (r : List (List Nat)) (x : List Nat), joinS sep (x :: r) = x ++ (r.map fun y => sep ++ y).flatten := by
    intro r
    induction r with
    | nil => intro x; simp [joinS]
    | cons y r ih =>
      intro x
      show x ++ sep ++ joinS sep (y :: r) = _
      rw [ih]
      simp
  intro ys
  cases ys with
  | nil => rfl
  | cons x r =>
    rw [js]
    show (Str.mk (((List.map sOf (x :: r)).drop 1).foldl (fun acc p => acc ++ (sOf sep).cps ++ p.cps) ((List.map sOf (x :: r)).headD Str.empty).cps)) = _
    simp only [List.map_cons, List.drop_succ_cons, List.drop_zero, List.headD_cons]
    rw [fold]
theorem joinS_mem (sep : List Nat) : ∀ (ys : List (List Nat)) (c : Nat), c ∈ joinS sep ys → c ∈ sep ∨ ∃ y ∈ ys, c ∈ y
  | [], c, h => by simp [joinS] at h
  | [x], c, h => .inr ⟨x, by simp, h⟩
  | x :: y :: r, c, h => by
    simp only [joinS, List.append_assoc, List.mem_append] at h
    rcases h with h | h | h
    · exact .inr ⟨x, by simp, h⟩
    · exact .inl h
    · rcases joinS_mem sep (y :: r) c h with h | ⟨z, hz, hc⟩
      · exact .inl h
      · exact .inr ⟨z, List.mem_cons_of_mem _ hz, hc⟩
theorem joinS_len (sep : List Nat) : ∀ (ys : List (List Nat)), (joinS sep ys).length ≤ (ys.map List.length).sum + ys.length * sep.length
  | [] => by simp [joinS]
  | [x] => by simp [joinS]
  | x :: y :: r => by
    have ih := joinS_len sep (y :: r)
    simp only [joinS, List.length_append, List.map_cons, List.sum_cons, List.length_cons, Nat.add_mul, Nat.one_mul] at ih ⊢
    omega
theorem mt_join' : MtR X "str.join" (rBm T .join) := by
  intro pins s σ H x xs v us Q I rx rv h
  obtain ⟨μ, S, d, ds, W, r1, rs, sr, af⟩ := h
  unfold bmR at af
  split at af <;> try (first | contradiction | exact af.elim)
  obtain ⟨d', hd, af'⟩ := af.of
  clear af
  unfold bmD at hd
  split at hd <;> try (first | contradiction | (cases hd; done))
  simp only [Option.bind_eq_some_iff] at hd
  obtain ⟨ns, ⟨es, h1, h2⟩, h3⟩ := hd
  split at h3
  · rename_i hl
    cases h3
    obtain ⟨rfl, o1⟩ := r1.str_inv
    obtain ⟨y, rfl, ry⟩ := rs.one
    obtain ⟨a, ys, rfl, q1, hr⟩ := list_of ry sr h1
    obtain ⟨e, ok⟩ := q1.strs h2
    have e2 : ys = (ns.map sOf).map V.str := by rw [e, List.map_map]; rfl
    rw [e2] at hr
    refine mt_join pins s σ H _ _ v us Q I rx rv ⟨_, a, ns.map sOf, rfl, rfl, .inl (.inl hr), ?_, ?_⟩
    · have e3 : (ns.map sOf).map (·.length) = ns.map List.length := by
        rw [List.map_map]
        exact List.map_congr_left fun x _ => sOf_length x
      rw [e3, List.length_map, sOf_length]
      exact hl
    · rw [glued_sOf]
      refine af'.here _ sr (.str _ (cpsOk_mk (fun c hc => ?_) (Nat.le_trans (joinS_len _ ns) hl)))
      rcases joinS_mem _ ns c hc with hc | ⟨y, hy, hc⟩
      · exact cpsOk_mem o1 c hc
      · exact cpsOk_mem (ok y hy) c hc
  · cases h3
end
end HW
/-! Expressions: each form by its parts. -/
namespace HW
open PySem L2
abbrev BR : VR Bool Bool := fun _ _ b b' => b = b'
abbrev OR : VR (Option Int) (Option Int) := fun _ _ b b' => b = b'
/-- what is wanted of errors, as the layer asks it -/
def wn (T : Tie) (W : WX) : WN := fun c σ H => W (.ref (T.xc c)) none σ H
def SE (T : Tie) (P : Prog) (call : Call) (X : Cx) (W : WX) (e : Expr) (x : HW.X) : Prop := PE X e (rd T RV (wn T W) (evalE P call x))
def ST (T : Tie) (P : Prog) (call : Call) (X : Cx) (W : WX) (e : Expr) (x : HW.T) : Prop := PT X e (rd T BR (wn T W) (evalT P call x))
def SA (T : Tie) (P : Prog) (call : Call) (X : Cx) (W : WX) (es : List Expr) (xs : List HW.X) : Prop := PA X es (rd T RVs (wn T W) (evalL P call xs))
def SO (T : Tie) (P : Prog) (call : Call) (X : Cx) (W : WX) (e : Option Expr) (x : Option HW.X) : Prop := PO X e (rd T OR (wn T W) (evalO P call x))
section
variable {T : Tie} {P : Prog} {call : Call} {X : Cx} {W : WX} {a b d : Expr} {xa xb xd : HW.X} {pos : Pos}
/-- the parts of a reading -/
theorem rd.bind {α β γ δ : Type} {rel : VR α β} {rel' : VR γ δ} {w : WN} {r : Env → Sto → R α} {f : Env → α → Sto → R γ} {σ : L2.St} {H : Hp} {Q : δ → Hp → Prop} (h : rd T rel' w (fun env S => (r env S).bind (f env)) σ H Q) :
    rd T rel w r σ H (fun v H1 => ∃ env μ1 S1 d, EnvR H1 μ1 σ env ∧ SRel T H1 μ1 S1 ∧ rel H1 μ1 v d ∧ Aft T rel' (fun c H' => w c σ H') H1 μ1 (f env d S1) Q) := by
  obtain ⟨env, S, μ, er, sr, af⟩ := h
  exact ⟨env, S, μ, er, sr, (Aft.bind (rel := rel) af).mono fun v H1 ⟨μ1, S1, d, e, s1, rv, a1⟩ => ⟨env, μ1, S1, d, er.ext e, s1, rv, a1⟩⟩
theorem s_nope {e : Expr} : SE T P call X W e .nope := ⟨fun _ _ _ _ _ _ ⟨_, _, _, _, _, af⟩ => by simp only [evalE] at af; exact af.elim⟩
theorem t_nope {e : Expr} : ST T P call X W e (.val .nope) := ⟨fun _ _ _ _ _ _ ⟨_, _, _, _, _, af⟩ => by simp only [evalT, evalE, R.bind] at af; exact af.elim⟩
theorem s_var {i : Nat} {x : Str} (hN : X.N[i]? = some x) (hv : Vis X.env.scope x) (hd : (x == ("__debug__" : Str)) = false) (hcd : (x == ("__classdict__" : Str)) = false) : SE T P call X W (.Name x pos) (.var i) := by
  refine pe_imp (pe_var hN hv hd hcd) fun σ H Q h => ?_
  obtain ⟨env, S, μ, er, sr, af⟩ := h
  simp only [evalE] at af
  split at af
  · rename_i d hd
    obtain ⟨v, h1, h2⟩ := er.get i d hd
    exact ⟨v, h1, af.here v sr h2⟩
  · exact af.elim
theorem s_const {v : V} {d : D} {e : Expr} (h : PE X e (tC v)) (r : ∀ H μ, RV H μ v d) : SE T P call X W e (.lit d) := by
  refine pe_imp h fun σ H Q h => ?_
  obtain ⟨env, S, μ, er, sr, af⟩ := h
  simp only [evalE] at af
  exact af.here v sr (r H μ)
theorem a_nil : SA T P call X W [] [] := by
  refine pa_imp pa_nil fun σ H Q h => ?_
  obtain ⟨env, S, μ, er, sr, af⟩ := h
  simp only [evalL] at af
  exact af.here [] sr .nil
theorem a_cons {es : List Expr} {xs : List HW.X} (ha : SE T P call X W a xa) (hr : SA T P call X W es xs) (hs : starEach (a :: es) X.env = (false, eval a X.env) :: starEach es X.env) : SA T P call X W (a :: es) (xa :: xs) := by
  refine pa_imp (pa_cons ha hr hs) fun σ H Q ⟨env, S, μ, er, sr, af⟩ => ?_
  simp only [evalL] at af
  refine ⟨env, S, μ, er, sr, (Aft.bind (rel := RV) af).mono fun v H1 ⟨μ1, S1, d, e1, sr1, rv, a1⟩ => ?_⟩
  refine ⟨env, S1, μ1, er.ext e1, sr1, (Aft.bind (rel := RVs) a1).mono fun vs H2 ⟨μ2, S2, ds, e2, sr2, rvs, a2⟩ => ?_⟩
  exact a2.here _ sr2 (.cons (rv.ext e2) rvs)
theorem s_tup {es : List Expr} {xs : List HW.X} {k : Nat} (h : SA T P call X W es xs) : SE T P call X W (.Tuple es k pos) (.tup xs) := by
  refine pe_imp (pe_tup h) fun σ H Q ⟨env, S, μ, er, sr, af⟩ => ?_
  simp only [evalE] at af
  refine ⟨env, S, μ, er, sr, (Aft.bind (rel := RVs) af).mono fun vs H1 ⟨μ1, S1, ds, e1, sr1, rv, a1⟩ => ?_⟩
  try dsimp only at a1
  split at a1
  · rename_i hl
    exact ⟨by rw [rv.length]; exact sz_le hl, fun p hp => a1.ok _ (Ext.side hp) (sr1.side hp) (newT sr1 hp rv)⟩
  · exact a1.elim
theorem s_lst {es : List Expr} {xs : List HW.X} (h : SA T P call X W es xs) : SE T P call X W (.List es pos) (.lst xs) := by
  refine pe_imp (pe_lst h) fun σ H Q ⟨env, S, μ, er, sr, af⟩ => ?_
  simp only [evalE] at af
  refine ⟨env, S, μ, er, sr, (Aft.bind (rel := RVs) af).mono fun vs H1 ⟨μ1, S1, ds, e1, sr1, rv, a1⟩ => ?_⟩
  try dsimp only at a1
  split at a1
  · rename_i hl
    exact ⟨by rw [rv.length]; exact sz_le hl, fun p hp => a1.ok _ (Ext.side hp) (sr1.side hp) (newLv sr1 hp rv)⟩
  · exact a1.elim
theorem s_newL {es : List Expr} {xs : List HW.X} (h : SA T P call X W es xs) : SE T P call X W (.List es pos) (.newL xs) := by
  refine pe_imp (pe_lst h) fun σ H Q ⟨env, S, μ, er, sr, af⟩ => ?_
  simp only [evalE] at af
  refine ⟨env, S, μ, er, sr, (Aft.bind (rel := RVs) af).mono fun vs H1 ⟨μ1, S1, ds, e1, sr1, rv, a1⟩ => ?_⟩
  try dsimp only at a1
  split at a1
  · rename_i hl
    refine ⟨by rw [rv.length]; exact sz_le hl, fun p hp => a1.ok _ (Ext.push hp) (sr1.push hp ⟨_, upd_same, rv.ext (Ext.push hp)⟩) (.ref ?_)⟩
    rw [← sr1.len]
    exact Mu.app_at _ _
  · exact a1.elim
theorem s_bin {op : Operator} (ha : SE T P call X W a xa) (hb : SE T P call X W b xb) : SE T P call X W (.BinOp a op b pos) (.bin op xa xb) := by
  refine pe_imp (pe_op (op_bin (T := T) op) ha hb) fun σ H Q ⟨env, S, μ, er, sr, af⟩ => ?_
  simp only [evalE] at af
  refine ⟨env, S, μ, er, sr, (Aft.bind (rel := RV) af).mono fun v H1 ⟨μ1, S1, d, e1, sr1, rv, a1⟩ => ?_⟩
  refine ⟨env, S1, μ1, er.ext e1, sr1, (Aft.bind (rel := RV) a1).mono fun u H2 ⟨μ2, S2, d2, e2, sr2, rv2, a2⟩ => ?_⟩
  exact ⟨μ2, S2, d, d2, _, rv.ext e2, rv2, sr2, a2⟩
theorem s_neg (ha : SE T P call X W a xa) : SE T P call X W (.UnaryOp .USub a pos) (.neg xa) := by
  refine pe_imp (pe_un un_neg ha) fun σ H Q ⟨env, S, μ, er, sr, af⟩ => ?_
  simp only [evalE] at af
  refine ⟨env, S, μ, er, sr, (Aft.bind (rel := RV) af).mono fun v H1 ⟨μ1, S1, d, e1, sr1, rv, a1⟩ => ?_⟩
  try dsimp only at a1
  split at a1
  · obtain rfl := rv.int_inv
    exact ⟨_, rfl, a1.here _ sr1 (.int _)⟩
  · exact a1.elim
theorem s_cmp {op : CmpOp} (hu : X.A.units + 65 < cLine) (ha : SE T P call X W a xa) (hb : SE T P call X W b xb) (hm : behindInMarks op b = false) : SE T P call X W (.Compare a [op] [b] pos) (.cmp op xa xb) := by
  refine pe_imp (pe_cmpR (op_cmp (T := T) hu op) ha hb hm) fun σ H Q ⟨env, S, μ, er, sr, af⟩ => ?_
  simp only [evalE] at af
  refine ⟨env, S, μ, er, sr, (Aft.bind (rel := RV) af).mono fun v H1 ⟨μ1, S1, d, e1, sr1, rv, a1⟩ => ?_⟩
  refine ⟨env, S1, μ1, er.ext e1, sr1, (Aft.bind (rel := RV) a1).mono fun u H2 ⟨μ2, S2, d2, e2, sr2, rv2, a2⟩ => ?_⟩
  exact ⟨μ2, S2, d, d2, _, rv.ext e2, rv2, sr2, a2⟩
/-- a comparison leaves the store and the heap but for a dict's kind -/
theorem s_chn {op op' : CmpOp} (hu : X.A.units + 65 < cLine) (ha : SE T P call X W a xa) (hb : SE T P call X W b xb) (hd : SE T P call X W d xd) (hm' : behindInMarks op' d = false) :
    SE T P call X W (.Compare a [op, op'] [b, d] pos) (.chn op op' xa xb xd) := by
  refine pe_imp (pe_chain (op_cmp (T := T) hu op) (op_cmp (T := T) hu op') ha hb hd hm') fun σ H Q ⟨env, S, μ, er, sr, af⟩ => ?_
  simp only [evalE] at af
  refine ⟨env, S, μ, er, sr, (Aft.bind (rel := RV) af).mono fun v H1 ⟨μ1, S1, d1, e1, sr1, rv, a1⟩ => ?_⟩
  refine ⟨env, S1, μ1, er.ext e1, sr1, (Aft.bind (rel := RV) a1).mono fun u H2 ⟨μ2, S2, d2, e2, sr2, rv2, a2⟩ => ?_⟩
  try dsimp only at a2
  split at a2
  · rename_i hk
    refine ⟨μ2, S2, d1, d2, fun _ _ => False, rv.ext e2, rv2, sr2, ?_⟩
    rw [hk]
    intro z H3 μ3 e3 sr3 rz
    obtain rfl := rz.bl_inv
    refine ⟨true, rfl, ?_⟩
    rw [if_pos rfl]
    refine ⟨env, S2, μ3, ((er.ext e1).ext e2).ext e3, sr3, (Aft.bind (rel := RV) (a2.ext e3)).mono fun u' H4 ⟨μ4, S4, d4, e4, sr4, rv4, a4⟩ => ?_⟩
    exact ⟨μ4, S4, d2, d4, _, (rv2.ext e3).ext e4, rv4, sr4, a4⟩
  · rename_i hk
    refine ⟨μ2, S2, d1, d2, fun _ _ => False, rv.ext e2, rv2, sr2, ?_⟩
    rw [hk]
    intro z H3 μ3 e3 sr3 rz
    obtain rfl := rz.bl_inv
    refine ⟨false, rfl, ?_⟩
    rw [if_neg (by decide)]
    exact a2.ok _ e3 sr3 (.bl _)
  · exact a2.elim
theorem tru_of {K : PySem.W.Frag} {H : Hp} {μ : Mu} {S : Sto} {v : V} {d : D} {k : Bool} (rv : RV H μ v d) (sr : SRel T H μ S) (h : truD S d = some k) : TruV K v H k := by
  cases d with
  | non => cases rv; cases h; rfl
  | bl b => cases rv; cases h; rfl
  | int i => cases rv; cases h; rfl
  | str x =>
    obtain ⟨rfl, ok⟩ := rv.str_inv
    cases h
    refine ⟨by rw [sOf_length]; exact sz_le (cpsOk_len ok), ?_⟩
    rw [sOf_length]
    cases x with
    | nil => rfl
    | cons c x => simp; omega
  | tup ds =>
    obtain ⟨a, xs, rfl, h1, n1, q1⟩ := rv.tup_inv
    cases h
    refine .inr (.inl ⟨xs, .inl (.inl h1), ?_⟩)
    have := q1.length
    cases ds <;> cases xs <;> simp_all
  | lst ds =>
    obtain ⟨a, xs, rfl, h1, n1, q1⟩ := rv.lst_inv
    cases h
    refine .inl ⟨xs, .inl h1, ?_⟩
    have := q1.length
    cases ds <;> cases xs <;> simp_all
  | ref n =>
    simp only [truD] at h
    split at h
    · rename_i hs1
      cases h
      obtain ⟨a, rfl, hn⟩ := rv.ref_inv
      obtain ⟨xs, e, q1⟩ := sr.ob _ _ _ hn hs1
      refine .inl ⟨xs, .inl (.inl e), ?_⟩
      cases q1 <;> rfl
    · cases h
theorem s_not (ha : SE T P call X W a xa) : SE T P call X W (.UnaryOp .Not a pos) (.not xa) := by
  refine pe_imp (pe_notT ha) fun σ H Q ⟨env, S, μ, er, sr, af⟩ => ?_
  simp only [evalE] at af
  refine ⟨env, S, μ, er, sr, (Aft.bind (rel := RV) af).mono fun v H1 ⟨μ1, S1, d, e1, sr1, rv, a1⟩ => ?_⟩
  try dsimp only at a1
  split at a1
  · rename_i k hk
    exact ⟨k, tru_of rv sr1 hk, a1.here _ sr1 (.bl _)⟩
  · exact a1.elim
theorem s_one {op : BoolOp} (ha : SE T P call X W a xa) : SE T P call X W (.BoolOp op [a] pos) xa := pe_one ha
theorem s_and {rest : List Expr} (ha : SE T P call X W a xa) (hb : SE T P call X W (.BoolOp .And (b :: rest) pos) xb) : SE T P call X W (.BoolOp .And (a :: b :: rest) pos) (.and xa xb) := by
  refine pe_imp (pe_andT ha hb) fun σ H Q ⟨env, S, μ, er, sr, af⟩ => ?_
  simp only [evalE] at af
  refine ⟨env, S, μ, er, sr, (Aft.bind (rel := RV) af).mono fun v H1 ⟨μ1, S1, d, e1, sr1, rv, a1⟩ => ?_⟩
  try dsimp only at a1
  split at a1
  · rename_i hk
    refine ⟨true, tru_of rv sr1 hk, ?_⟩
    rw [if_pos rfl]
    exact ⟨env, S1, μ1, er.ext e1, sr1, a1⟩
  · rename_i hk
    refine ⟨false, tru_of rv sr1 hk, ?_⟩
    rw [if_neg (by decide)]
    exact a1.here _ sr1 rv
  · exact a1.elim
theorem s_or {rest : List Expr} (ha : SE T P call X W a xa) (hb : SE T P call X W (.BoolOp .Or (b :: rest) pos) xb) : SE T P call X W (.BoolOp .Or (a :: b :: rest) pos) (.or xa xb) := by
  refine pe_imp (pe_orT ha hb) fun σ H Q ⟨env, S, μ, er, sr, af⟩ => ?_
  simp only [evalE] at af
  refine ⟨env, S, μ, er, sr, (Aft.bind (rel := RV) af).mono fun v H1 ⟨μ1, S1, d, e1, sr1, rv, a1⟩ => ?_⟩
  try dsimp only at a1
  split at a1
  · rename_i hk
    refine ⟨true, tru_of rv sr1 hk, ?_⟩
    rw [if_pos rfl]
    exact a1.here _ sr1 rv
  · rename_i hk
    refine ⟨false, tru_of rv sr1 hk, ?_⟩
    rw [if_neg (by decide)]
    exact ⟨env, S1, μ1, er.ext e1, sr1, a1⟩
  · exact a1.elim
/-! ### tests -/
variable {ta tb tc : HW.T}
theorem t_val (ha : SE T P call X W a xa) (he : ∀ whole, isTrue a X.env whole = (do let v ← whole; standAt a.pos; holding [v] (truthy v))) : ST T P call X W a (.val xa) := by
  refine pt_imp (pt_truth ha he) fun σ H Q ⟨env, S, μ, er, sr, af⟩ => ?_
  simp only [evalT] at af
  refine ⟨env, S, μ, er, sr, (Aft.bind (rel := RV) af).mono fun v H1 ⟨μ1, S1, d, e1, sr1, rv, a1⟩ => ?_⟩
  obtain ⟨k, hk, a1⟩ := a1.of
  exact ⟨k, tru_of rv sr1 hk, a1.here k sr1 rfl⟩
theorem t_cmp {op : CmpOp} (hu : X.A.units + 65 < cLine) (ha : SE T P call X W a xa) (hb : SE T P call X W b xb) (hm : behindInMarks op b = false) : ST T P call X W (.Compare a [op] [b] pos) (.val (.cmp op xa xb)) := by
  refine pt_imp (pt_cmpR (op_cmp (T := T) hu op) ha hb hm) fun σ H Q ⟨env, S, μ, er, sr, af⟩ => ?_
  simp only [evalT, evalE] at af
  have e0 : ∀ (r : R D) (f : D → Sto → R D) (g : D → Sto → R Bool), (r.bind f).bind g = r.bind fun x S => (f x S).bind g := fun r f g => by cases r <;> rfl
  rw [e0] at af
  refine ⟨env, S, μ, er, sr, (Aft.bind (rel := RV) af).mono fun v H1 ⟨μ1, S1, d, e1, sr1, rv, a1⟩ => ?_⟩
  rw [e0] at a1
  refine ⟨env, S1, μ1, er.ext e1, sr1, (Aft.bind (rel := RV) a1).mono fun u H2 ⟨μ2, S2, d2, e2, sr2, rv2, a2⟩ => ?_⟩
  cases hk : cmpD S2 op d d2 with
  | none => rw [hk] at a2; exact a2.elim
  | some k =>
    rw [hk] at a2
    refine ⟨μ2, S2, d, d2, fun _ _ => False, rv.ext e2, rv2, sr2, ?_⟩
    rw [hk]
    intro z H3 μ3 e3 sr3 rz
    obtain rfl := rz.bl_inv
    exact ⟨k, rfl, a2.ok k e3 sr3 rfl⟩
theorem t_chn {op op' : CmpOp} (hu : X.A.units + 65 < cLine) (ha : SE T P call X W a xa) (hb : SE T P call X W b xb) (hd : SE T P call X W d xd) (hm' : behindInMarks op' d = false) :
    ST T P call X W (.Compare a [op, op'] [b, d] pos) (.val (.chn op op' xa xb xd)) := by
  refine pt_imp (pt_chain (op_cmp (T := T) hu op) (op_cmp (T := T) hu op') ha hb hd hm') fun σ H Q ⟨env, S, μ, er, sr, af⟩ => ?_
  simp only [evalT, evalE] at af
  have e0 : ∀ (r : R D) (f : D → Sto → R D) (g : D → Sto → R Bool), (r.bind f).bind g = r.bind fun x S => (f x S).bind g := fun r f g => by cases r <;> rfl
  rw [e0] at af
  refine ⟨env, S, μ, er, sr, (Aft.bind (rel := RV) af).mono fun v H1 ⟨μ1, S1, d1, e1, sr1, rv, a1⟩ => ?_⟩
  rw [e0] at a1
  refine ⟨env, S1, μ1, er.ext e1, sr1, (Aft.bind (rel := RV) a1).mono fun u H2 ⟨μ2, S2, d2, e2, sr2, rv2, a2⟩ => ?_⟩
  cases hk : cmpD S2 op d1 d2 with
  | none => rw [hk] at a2; exact a2.elim
  | some k =>
    rw [hk] at a2
    refine ⟨μ2, S2, d1, d2, fun _ _ => False, rv.ext e2, rv2, sr2, ?_⟩
    rw [hk]
    intro z H3 μ3 e3 sr3 rz
    obtain rfl := rz.bl_inv
    refine ⟨k, rfl, ?_⟩
    cases k with
    | true =>
      rw [if_pos rfl]
      dsimp only at a2
      rw [e0] at a2
      refine ⟨env, S2, μ3, ((er.ext e1).ext e2).ext e3, sr3, (Aft.bind (rel := RV) (a2.ext e3)).mono fun u' H4 ⟨μ4, S4, d4, e4, sr4, rv4, a4⟩ => ?_⟩
      cases hk' : cmpD S4 op' d2 d4 with
      | none => rw [hk'] at a4; exact a4.elim
      | some k' =>
        rw [hk'] at a4
        refine ⟨μ4, S4, d2, d4, fun _ _ => False, (rv2.ext e3).ext e4, rv4, sr4, ?_⟩
        rw [hk']
        intro z H5 μ5 e5 sr5 rz
        obtain rfl := rz.bl_inv
        exact ⟨k', rfl, a4.ok k' e5 sr5 rfl⟩
    | false =>
      rw [if_neg (by decide)]
      exact ⟨false, rfl, a2.ok false e3 sr3 rfl⟩
theorem t_not (ha : ST T P call X W a ta) : ST T P call X W (.UnaryOp .Not a pos) (.not ta) := by
  refine pt_imp (pt_not ha) fun σ H Q ⟨env, S, μ, er, sr, af⟩ => ?_
  simp only [evalT] at af
  refine ⟨env, S, μ, er, sr, (Aft.bind (rel := BR) af).mono fun v H1 ⟨μ1, S1, d, e1, sr1, rv, a1⟩ => ?_⟩
  subst rv
  exact a1.here _ sr1 rfl
/-- and, or: whatever their whole is -/
def SW (T : Tie) (P : Prog) (call : Call) (X : Cx) (W : WX) (e : Expr) (x : HW.T) : Prop := PW X e (rd T BR (wn T W) (evalT P call x))
theorem SW.st {e : Expr} {x : HW.T} (h : SW T P call X W e x) : ST T P call X W e x := PW.pt h
theorem w_and1 (ha : ST T P call X W a ta) : SW T P call X W (.BoolOp .And [a] pos) ta := pw_and1 ha
theorem w_or1 (ha : ST T P call X W a ta) : SW T P call X W (.BoolOp .Or [a] pos) ta := pw_or1 ha
theorem w_and {rest : List Expr} (ha : ST T P call X W a ta) (hb : SW T P call X W (.BoolOp .And (b :: rest) pos) tb) : SW T P call X W (.BoolOp .And (a :: b :: rest) pos) (.and ta tb) := by
  refine pw_imp (pw_and ha hb) fun σ H Q ⟨env, S, μ, er, sr, af⟩ => ?_
  simp only [evalT] at af
  refine ⟨env, S, μ, er, sr, (Aft.bind (rel := BR) af).mono fun v H1 ⟨μ1, S1, d, e1, sr1, rv, a1⟩ => ?_⟩
  subst rv
  cases v with
  | true => rw [if_pos rfl] at a1 ⊢; exact ⟨env, S1, μ1, er.ext e1, sr1, a1⟩
  | false => rw [if_neg (by decide)] at a1 ⊢; exact a1.here _ sr1 rfl
theorem w_or {rest : List Expr} (ha : ST T P call X W a ta) (hb : SW T P call X W (.BoolOp .Or (b :: rest) pos) tb) : SW T P call X W (.BoolOp .Or (a :: b :: rest) pos) (.or ta tb) := by
  refine pw_imp (pw_or ha hb) fun σ H Q ⟨env, S, μ, er, sr, af⟩ => ?_
  simp only [evalT] at af
  refine ⟨env, S, μ, er, sr, (Aft.bind (rel := BR) af).mono fun v H1 ⟨μ1, S1, d, e1, sr1, rv, a1⟩ => ?_⟩
  subst rv
  cases v with
  | true => rw [if_pos rfl] at a1 ⊢; exact a1.here _ sr1 rfl
  | false => rw [if_neg (by decide)] at a1 ⊢; exact ⟨env, S1, μ1, er.ext e1, sr1, a1⟩
theorem s_ife (hc : ST T P call X W d tc) (ha : SE T P call X W a xa) (hb : SE T P call X W b xb) : SE T P call X W (.IfExp d a b pos) (.ife tc xa xb) := by
  refine pe_imp (pe_ifExp hc ha hb) fun σ H Q ⟨env, S, μ, er, sr, af⟩ => ?_
  simp only [evalE] at af
  refine ⟨env, S, μ, er, sr, (Aft.bind (rel := BR) af).mono fun v H1 ⟨μ1, S1, d, e1, sr1, rv, a1⟩ => ?_⟩
  subst rv
  cases v with
  | true => rw [if_pos rfl] at a1 ⊢; exact ⟨env, S1, μ1, er.ext e1, sr1, a1⟩
  | false => rw [if_neg (by decide)] at a1 ⊢; exact ⟨env, S1, μ1, er.ext e1, sr1, a1⟩
/-! ### subscripts, slices -/
theorem s_idx (hu : X.A.units + 65 < cLine) (ha : SE T P call X W a xa) (hb : SE T P call X W b xb) (hs : PlainIx b) : SE T P call X W (.Subscript a b pos) (.idx xa xb) := by
  refine pe_imp (pe_ix (ix_all (T := T) hu) ha hb hs) fun σ H Q ⟨env, S, μ, er, sr, af⟩ => ?_
  simp only [evalE] at af
  refine ⟨env, S, μ, er, sr, (Aft.bind (rel := RV) af).mono fun v H1 ⟨μ1, S1, d, e1, sr1, rv, a1⟩ => ?_⟩
  refine ⟨env, S1, μ1, er.ext e1, sr1, (Aft.bind (rel := RV) a1).mono fun u H2 ⟨μ2, S2, d2, e2, sr2, rv2, a2⟩ => ?_⟩
  exact ⟨μ2, S2, d, d2, _, rv.ext e2, rv2, sr2, a2⟩
theorem po_imp {X : Cx} {e : Option Expr} {t t' : TO} (h : PO X e t) (i : ∀ σ H Q, t' σ H Q → t σ H Q) : PO X e t' := ⟨fun pins s σ H Q I q => h.run pins s σ H Q I (i σ H Q q)⟩
theorem o_none : SO T P call X W none none := by
  refine po_imp po_none fun σ H Q ⟨env, S, μ, er, sr, af⟩ => ?_
  simp only [evalO] at af
  exact af.here none sr rfl
theorem o_some (ha : SE T P call X W a xa) : SO T P call X W (some a) (some xa) := by
  refine po_imp (po_some ha) fun σ H Q ⟨env, S, μ, er, sr, af⟩ => ?_
  simp only [evalO] at af
  refine ⟨env, S, μ, er, sr, (Aft.bind (rel := RV) af).mono fun v H1 ⟨μ1, S1, d, e1, sr1, rv, a1⟩ => ?_⟩
  try dsimp only at a1
  split at a1
  · obtain rfl := rv.int_inv
    exact ⟨_, rfl, a1.here _ sr1 rfl⟩
  · exact a1.elim
theorem s_slc {lo hi : Option Expr} {xl xh : Option HW.X} {p2 : Pos} (ha : SE T P call X W a xa) (hl : SO T P call X W lo xl) (hh : SO T P call X W hi xh) : SE T P call X W (.Subscript a (.Slice lo hi none p2) pos) (.slc xa xl xh) := by
  refine pe_imp (pe_slice (sl_all (T := T)) ha hl hh) fun σ H Q ⟨env, S, μ, er, sr, af⟩ => ?_
  simp only [evalE] at af
  refine ⟨env, S, μ, er, sr, (Aft.bind (rel := RV) af).mono fun v H1 ⟨μ1, S1, d, e1, sr1, rv, a1⟩ => ?_⟩
  refine ⟨env, S1, μ1, er.ext e1, sr1, (Aft.bind (rel := OR) a1).mono fun u H2 ⟨μ2, S2, d2, e2, sr2, rv2, a2⟩ => ?_⟩
  subst rv2
  refine ⟨env, S2, μ2, (er.ext e1).ext e2, sr2, (Aft.bind (rel := OR) a2).mono fun u3 H3 ⟨μ3, S3, d3, e3, sr3, rv3, a3⟩ => ?_⟩
  subst rv3
  exact ⟨μ3, S3, d, _, (rv.ext e2).ext e3, sr3, a3⟩
end
end HW
/-! text[::-1] -/
namespace HW
open PySem L2 PySem.Spec PyProof.Rows
theorem rev_text (x : Str) (t u : Tok) : sliceMade x t none none (some (-1, u)) = .str ⟨x.cps.toList.reverse.toArray⟩ := by
  unfold sliceMade slicePicked
  rw [if_neg (by simp)]
  have e : Builtin.Str.strSliceIndices (Option.map (·.1) (none : Option (Int × Tok))) (Option.map (·.1) (none : Option (Int × Tok))) ((Option.map (·.1) (some ((-1 : Int), u))).getD 1) x.length = sliceRange ((x.cps.size : Int) - 1) (-1) (-1) := rfl
  rw [e, PySem.W.krv_sliceRange, PySem.W.krv_range, List.filterMap_reverse, PySem.W.krv_all]
section
variable {X : Cx}
def tRevS (te : TE) : TE := fun σ H Q => te σ H fun x H1 => ∃ y : Str, x = .str y ∧ y.length ≤ sizeLine ∧ Q (.str ⟨y.cps.toList.reverse.toArray⟩) H1
theorem pe_revS {e : Expr} {te : TE} {k : Nat} {p1 p2 p3 pos : Pos} (he : PE X e te) : PE X (.Subscript e (.Slice none none (some (.UnaryOp .USub (.Constant (.int 1) k p1) p2)) p3) pos) (tRevS te) := by
  refine ⟨fun pins s σ H Q I h => ?_⟩
  refine Subscript_ (thn (he.run pins s σ H _ I h) fun v s1 ⟨x, H1, I1, r1, q1⟩ => ?_)
  obtain ⟨y, ex, hz, q⟩ := q1
  subst ex
  obtain ⟨t, rfl⟩ := r1
  have hst : PO X (some (.UnaryOp .USub (.Constant (.int 1) k p1) p2)) (tPart (tUn (rU fun i => .int (-i)) (tC (.int 1)))) := po_some (pe_un un_neg pe_int)
  refine wpAny_Slice (thn (po_none.run pins s1 σ H1 (fun o H2 => o = none ∧ H2 = H1) I1 ⟨rfl, rfl⟩) fun vl s2 ⟨l, H2, I2, pl, el, e2⟩ => ?_)
  subst el e2
  refine thn (po_none.run pins s2 σ H2 (fun o H3 => o = none ∧ H3 = H2) I2 ⟨rfl, rfl⟩) fun vu s3 ⟨u, H3, I3, pu, eu, e3⟩ => ?_
  subst eu e3
  refine thn (hst.run pins s3 σ H3 (fun o H4 => o = some (-1) ∧ H4 = H3) I3 ⟨1, rfl, -1, rfl, rfl, rfl⟩) fun vs s4 ⟨o, H4, I4, ps, eo, e4⟩ => ?_
  subst eo e4
  have I5 : Inv X pins σ H4 { s4 with heap := s4.heap.push { cls := .type "slice", data := .fields #[vl, vu, vs] } } := I4.kept (t' := s4.toks) fun b ob q => Heap.get?_push_of_some _ q
  obtain rfl : vl = .none := by cases pl; rfl
  obtain rfl : vu = .none := by cases pu; rfl
  obtain ⟨tk, rfl⟩ : ∃ tk, vs = .int (-1) tk := by cases ps; exact ⟨_, rfl⟩
  show wpAny (model X.prog X.w) X.A (subscriptTail e (.Slice none none (some (.UnaryOp .USub (.Constant (.int 1) k p1) p2)) p3) (.str y t) (.ref s4.heap.objs.size)) (EP X pins σ Q) X.xe { s4 with heap := s4.heap.push { cls := .type "slice", data := .fields #[.none, .none, .int (-1) tk] } }
  refine tail_any (ops := [.str y t, .ref s4.heap.objs.size]) (typeIs_str _ y t) (PySem.F.slot_str_getitem.lookup) ?_ (by with_unfolding_all rfl)
  refine wpAny_getItem_str_slice (l := none) (u := none) (st := some (-1, tk)) ⟨_, Heap.get?_push_size _ rfl, rfl, rfl⟩ rfl ?_
  rw [rev_text]
  refine ⟨?_, .str _, H4, I5.tok _, ⟨_, rfl⟩, q⟩
  have e : (⟨y.cps.toList.reverse.toArray⟩ : Str).length = y.length := by show (y.cps.toList.reverse.toArray).size = y.cps.size; simp
  rw [e]
  exact hz
theorem pe_alt {e : Expr} {t t' : TE} (h : PE X e t) (h' : PE X e t') : PE X e (fun σ H Q => t σ H Q ∨ t' σ H Q) := ⟨fun pins s σ H Q I q => q.elim (h.run pins s σ H Q I) (h'.run pins s σ H Q I)⟩
theorem rev_cases {S : Sto} {d d' : D} (h : revD S d = some d') : (∃ ds, listD S d = some ds ∧ d' = .lst ds.reverse) ∨ ∃ x, d = .str x ∧ d' = .str x.reverse := by
  unfold revD at h
  unfold listD
  cases d with
  | str x => simp only [vw] at h; cases h; exact .inr ⟨x, rfl, rfl⟩
  | lst es => simp only [vw] at h ⊢; cases h; exact .inl ⟨_, rfl, rfl⟩
  | ref n =>
    simp only [vw] at h ⊢
    cases q : S[n]? with
    | none => simp [q] at h
    | some o =>
      simp only [q] at h ⊢
      cases o with
      | lst es => cases h; exact .inl ⟨_, rfl, rfl⟩
      | _ => simp at h
  | _ => simp [vw] at h
theorem s_rev {T : Tie} {P : Prog} {call : Call} {W : WX} {a : Expr} {xa : HW.X} {k : Nat} {p1 p2 p3 pos : Pos} (ha : SE T P call X W a xa) : SE T P call X W (.Subscript a (.Slice none none (some (.UnaryOp .USub (.Constant (.int 1) k p1) p2)) p3) pos) (.rev xa) := by
  refine pe_imp (pe_alt (pe_revL ha) (pe_revS ha)) fun σ H Q ⟨env, S, μ, er, sr, af⟩ => ?_
  simp only [evalE] at af
  cases hr : evalE P call xa env S with
  | bad => rw [hr] at af; exact af.elim
  | exc c S1 => rw [hr] at af; exact .inl ⟨env, S, μ, er, sr, by rw [hr]; exact af⟩
  | ok d S1 =>
    rw [hr] at af
    simp only [R.bind] at af
    obtain ⟨d', hd, a1⟩ := af.of
    rcases rev_cases hd with ⟨ds, h1, rfl⟩ | ⟨x, rfl, rfl⟩
    · refine .inl ⟨env, S, μ, er, sr, ?_⟩
      rw [hr]
      intro v H1 μ1 e1 sr1 rv
      obtain ⟨p, ys, rfl, q1, hR⟩ := list_of rv sr1 h1
      exact ⟨p, ys, rfl, .inl hR, fun p hp => a1.ok _ (e1.trans (Ext.side hp)) (sr1.side hp) (newLv sr1 hp q1.reverse)⟩
    · refine .inr ⟨env, S, μ, er, sr, ?_⟩
      rw [hr]
      intro v H1 μ1 e1 sr1 rv
      obtain ⟨rfl, ok⟩ := rv.str_inv
      refine ⟨sOf x, rfl, by rw [sOf_length]; exact sz_le (cpsOk_len ok), ?_⟩
      have e : (⟨(sOf x).cps.toList.reverse.toArray⟩ : Str) = sOf x.reverse := by simp [sOf]
      rw [e]
      exact a1.ok _ e1 sr1 (.str _ (cpsOk_mk (fun c hc => cpsOk_mem ok c (by simpa using hc)) (by rw [List.length_reverse]; exact cpsOk_len ok)))
end
end HW
/-! What must be seen of the syntax. -/
namespace HW
open PySem L2
def noStar : Expr → Bool
  | .Starred _ _ => false
  | _ => true
theorem star_cons {e : Expr} (h : noStar e = true) (es : List Expr) (env : PySem.Env) : starEach (e :: es) env = (false, eval e env) :: starEach es env := by
  cases e <;> first | rfl | (simp [noStar] at h)
theorem star_any : ∀ (es : List Expr) (env : PySem.Env) (pos : Pos), es.all noStar = true → (backTo pos (starEach es env)).any (·.1) = false
  | [], _, _, _ => rfl
  | e :: es, env, pos, h => by
    simp only [List.all_cons, Bool.and_eq_true] at h
    rw [star_cons h.1]
    show (false || (backTo pos (starEach es env)).any (·.1)) = false
    rw [star_any es env pos h.2]
    rfl
theorem star_all : ∀ (es : List Expr) (env : PySem.Env) (pos : Pos), es.all noStar = true → (backTo pos (starEach es env)).all (fun x => !x.1) = true
  | [], _, _, _ => rfl
  | e :: es, env, pos, h => by
    simp only [List.all_cons, Bool.and_eq_true] at h
    rw [star_cons h.1]
    show (true && (backTo pos (starEach es env)).all (fun x => !x.1)) = true
    rw [star_all es env pos h.2]
    rfl
/-- not a call of super -/
def abOk : Expr → Bool
  | .Call (.Name id _) [] [] _ => id != "super"
  | _ => true
theorem ab_ok {o : Expr} (h : abOk o = true) (attr : Str) (env : PySem.Env) (whole : Sem Value) : attributeBase o attr env whole = whole := by
  unfold attributeBase
  split
  · rename_i id pos' pos
    simp only [abOk] at h
    simp [h]
  · rfl
def mtOk (o : Expr) (args : List Expr) (apos pos : Pos) : Bool := abOk o && args.all noStar && decide (args.length < 20) && (apos.endLine == pos.line)
/-- an index that is no slice -/
def noSlice : Expr → Bool
  | .Slice .. => false
  | _ => true
theorem plain_ix {b : Expr} (h : noSlice b = true) : PlainIx b := fun o i => by
  cases b <;> first | rfl | (simp [noSlice] at h)
/-- no set display (behind in) -/
def noSet : Expr → Bool
  | .Set .. => false
  | _ => true
theorem no_marks {b : Expr} (h : noSet b = true) (op : CmpOp) : behindInMarks op b = false := by
  cases b <;> first | rfl | (simp [noSet] at h)
theorem no_fold {b : Expr} (h : noSet b = true) (env : PySem.Env) (x : Value) : foldedSetIterable b env x = pure x := by
  cases b <;> first | rfl | (simp [noSet] at h)
/-- a test by its value -/
def plainT : Expr → Bool
  | .UnaryOp .Not _ _ => false
  | .BoolOp .. => false
  | .IfExp .. => false
  | .Compare .. => false
  | _ => true
theorem plain_t {a : Expr} (h : plainT a = true) (env : PySem.Env) (whole : Sem Value) : isTrue a env whole = (do let v ← whole; standAt a.pos; holding [v] (truthy v)) := by
  cases a with
  | UnaryOp op x p => cases op <;> first | rfl | (simp [plainT] at h)
  | BoolOp _ _ _ => simp [plainT] at h
  | IfExp _ _ _ _ => simp [plainT] at h
  | Compare _ _ _ _ => simp [plainT] at h
  | _ => rfl
def noComp : Expr → Bool
  | .ListComp .. => false
  | .SetComp .. => false
  | .DictComp .. => false
  | _ => true
theorem no_swap {e : Expr} (h : noComp e = true) (tg : Option Expr) (l : Nat) (env : PySem.Env) : swapsWith e tg l env = pure false := by
  cases e <;> first | rfl | (simp [noComp] at h)
end HW
/-! Calls: own defs, classes, methods; built-in functions and methods by name; fields; displays. -/
namespace HW
open PySem L2
/-- the promise of a def by the interpreter's run -/
def spOf (T : Tie) (call : Call) (f : Nat) : Sp := fun vs H Q E => ∃ ds S μ, RVs H μ vs ds ∧ SRel T H μ S ∧ Aft T RV (fun c H' => E (.ref (T.xc c)) none H') H μ (call f ds S) Q
section
variable {T : Tie} {P : Prog} {call : Call} {X : Cx} {W : WX} {a b d e o : Expr} {xa xb xd xo : HW.X} {pos apos p : Pos} {es : List Expr} {xs : List HW.X} {k : Nat} {fa : Addr} {fd : FuncData} {ps : List Str} {x m : Str}
theorem s_call {f : Nat} (F : FnOk X.prog X.w X.K X.mg X.base (L2.CX X.prog X.w) k fa fd ps (spOf T call f)) (hr : Room k X.A) (hg : Gl X x) (hm : X.mg x = some (.ref fa)) (hk : PySem.W.keepIn X.K (.ref fa) = true) (hb : Binds X.K fd ps []) (tk : Takes X W)
    (ha : SA T P call X W (e :: es) xs) (hdb : (x == ("__debug__" : Str)) = false) (hs : (e :: es).all noStar = true) : SE T P call X W (.Call (.Name x p) (e :: es) [] pos) (.call f xs) := by
  simp only [List.all_cons, Bool.and_eq_true] at hs
  refine pe_imp (pe_callS (E := WE W) F hr hg hm hk hb (fun σ => passAt tk σ) ha hdb (star_cons hs.1 es _) (star_any es _ _ hs.2)) fun σ H Q ⟨env, S, μ, er, sr, af⟩ => ?_
  simp only [evalE] at af
  refine ⟨env, S, μ, er, sr, (Aft.bind (rel := RVs) af).mono fun vs H1 ⟨μ1, S1, ds, e1, sr1, rv, a1⟩ => ?_⟩
  exact ⟨ds, S1, μ1, rv, sr1, a1⟩
theorem s_call0 {f : Nat} (F : FnOk X.prog X.w X.K X.mg X.base (L2.CX X.prog X.w) k fa fd ps (spOf T call f)) (hr : Room k X.A) (hg : Gl X x) (hm : X.mg x = some (.ref fa)) (hk : PySem.W.keepIn X.K (.ref fa) = true) (hb : Binds X.K fd ps []) (tk : Takes X W)
    (hdb : (x == ("__debug__" : Str)) = false) : SE T P call X W (.Call (.Name x p) [] [] pos) (.call f []) := by
  refine ⟨fun pins s σ H Q I ⟨env, S, μ, er, sr, af⟩ => ?_⟩
  simp only [evalE, evalL, R.bind] at af
  refine wpAny_Call_Name_kw (ld_glob I hg hm ?_ hdb)
  exact PySem.W.callWith_K0 I.kIn hk (run_fnS (us := []) F hr hb (passAt tk σ) I .nil ⟨[], S, μ, .nil, sr, af⟩)
/-! ### built-in functions -/
theorem s_blt {f : Bf} {id : String} (hc : CallR X (.builtin id) (rBf T f)) (hg : Gl X x) (hm : X.mg x = none) (hv : bootBuiltins x = some (.builtin id)) (ha : SA T P call X W (e :: es) xs) (hs : (e :: es).all noStar = true) (hn : x ≠ "__name__") (hdb : (x == ("__debug__" : Str)) = false) (hf : f ≠ .dict) :
    SE T P call X W (.Call (.Name x p) (e :: es) [] pos) (.blt f xs) := by
  simp only [List.all_cons, Bool.and_eq_true] at hs
  refine pe_imp (pe_callB hc hg hm hv ha hn hdb (star_cons hs.1 es _) (star_any es _ _ hs.2)) fun σ H Q ⟨env, S, μ, er, sr, af⟩ => ?_
  simp only [evalE] at af
  refine ⟨env, S, μ, er, sr, (Aft.bind (rel := RVs) af).mono fun vs H1 ⟨μ1, S1, ds, e1, sr1, rv, a1⟩ => ?_⟩
  have a1' : Aft T RV (fun c H' => wn T W c σ H') H1 μ1 (R.of (bfD S1 f ds) S1) Q := by
    cases f <;> first | exact a1 | exact absurd rfl hf
  exact ⟨μ1, S1, ds, _, rv, sr1, a1'⟩
theorem s_bltT {f : Bf} {id : String} (hc : CallR X (.type id) (rBf T f)) (hg : Gl X x) (hm : X.mg x = none) (hv : bootBuiltins x = some (.type id)) (ha : SA T P call X W (e :: es) xs) (hs : (e :: es).all noStar = true) (hn : x ≠ "__name__") (hdb : (x == ("__debug__" : Str)) = false) (hf : f ≠ .dict) :
    SE T P call X W (.Call (.Name x p) (e :: es) [] pos) (.blt f xs) := by
  simp only [List.all_cons, Bool.and_eq_true] at hs
  refine pe_imp (pe_callTy hc hg hm hv ha hn hdb (star_cons hs.1 es _) (star_any es _ _ hs.2)) fun σ H Q ⟨env, S, μ, er, sr, af⟩ => ?_
  simp only [evalE] at af
  refine ⟨env, S, μ, er, sr, (Aft.bind (rel := RVs) af).mono fun vs H1 ⟨μ1, S1, ds, e1, sr1, rv, a1⟩ => ?_⟩
  have a1' : Aft T RV (fun c H' => wn T W c σ H') H1 μ1 (R.of (bfD S1 f ds) S1) Q := by
    cases f <;> first | exact a1 | exact absurd rfl hf
  exact ⟨μ1, S1, ds, _, rv, sr1, a1'⟩
theorem s_isi {f : Bf} {t : Str} {pt : Pos} (hf : isiB f = true) (hg : Gl X "isinstance") (hm : X.mg "isinstance" = none) (hgt : Gl X t) (hmt : X.mg t = none) (hvt : bootBuiltins t = some (.type (isiName f))) (ha : SE T P call X W a xa) (hs : noStar a = true) (hnt : t ≠ "__name__") (hdt : (t == ("__debug__" : Str)) = false) :
    SE T P call X W (.Call (.Name "isinstance" p) [a, .Name t pt] [] pos) (.blt f [xa]) := by
  have hT : PE X (.Name t pt) (tC (.ty (isiName f))) := pe_bltn hgt hmt hvt rfl hnt hdt
  have hA : PA X [a, .Name t pt] (tCons (rd T RV (wn T W) (evalE P call xa)) (tCons (tC (.ty (isiName f))) tNil)) := pa_cons ha (pa_cons hT pa_nil) (star_cons hs _ _)
  refine pe_imp (pe_callB (cr_isi (T := T) hf) hg hm (by decide +kernel) hA (by decide) (by decide) (star_cons hs _ _) (by rfl)) fun σ H Q ⟨env, S, μ, er, sr, af⟩ => ?_
  simp only [evalE, evalL] at af
  have e0 : ∀ (r : R D) (f : D → Sto → R (List D)) (g : List D → Sto → R D), (r.bind f).bind g = r.bind fun x S => (f x S).bind g := fun r f g => by cases r <;> rfl
  rw [e0] at af
  refine ⟨env, S, μ, er, sr, (Aft.bind (rel := RV) af).mono fun v H1 ⟨μ1, S1, d, e1, sr1, rv, a1⟩ => ?_⟩
  simp only [R.bind] at a1
  have a1' : Aft T RV (fun c H' => wn T W c σ H') H1 μ1 (R.of (bfD S1 f [d]) S1) Q := by
    cases f <;> first | exact a1 | (simp [isiB] at hf)
  exact ⟨v, rfl, μ1, S1, [d], _, .cons rv .nil, sr1, a1'⟩
/-! ### built-in methods -/
def bmTy : Bm → String
  | .append | .extend | .pop | .popAt => "list"
  | .get | .setdef | .values | .items => "dict"
  | _ => "str"
theorem kind_ty {H : Hp} {μ : Mu} {S : Sto} {v : V} {d : D} {mm : Bm} {K : PySem.W.Frag} (rv : RV H μ v d) (sr : SRel T H μ S) (h : kindOk mm d S = true) :
    tyV K (bmTy mm) v H := by
  have lst : ∀ n, d = .ref n → (match S[n]? with | some (.lst _) => true | _ => false) = true → ∃ a, v = .ref a ∧ ∃ xs, SqL K H a xs := by
    rintro n rfl h
    split at h
    · rename_i hs1
      obtain ⟨a, rfl, hn⟩ := rv.ref_inv
      obtain ⟨xs, e, q1⟩ := sr.ob _ _ _ hn hs1
      exact ⟨a, rfl, xs, .inl (.inl e)⟩
    · cases h
  have dct : ∀ n, d = .ref n → (match S[n]? with | some (.dct _) => true | _ => false) = true → ∃ a, v = .ref a ∧ ((∃ kvs, H a = some (.dK kvs)) ∨ ∃ kvs, H a = some (.dT kvs)) := by
    rintro n rfl h
    split at h
    · rename_i hs1
      obtain ⟨a, rfl, hn⟩ := rv.ref_inv
      rcases sr.ob _ _ _ hn hs1 with ⟨kv, e, q1⟩ | ⟨kv, e, q1⟩
      · exact ⟨a, rfl, .inl ⟨kv, e⟩⟩
      · exact ⟨a, rfl, .inr ⟨kv, e⟩⟩
    · cases h
  cases mm <;> cases d <;> simp only [kindOk, Bool.false_eq_true] at h <;> first
    | (obtain ⟨rfl, _⟩ := rv.str_inv; rfl)
    | (obtain ⟨a, rfl, xs, q⟩ := lst _ rfl h; exact .inl ⟨rfl, xs, q⟩)
    | (obtain ⟨a, rfl, q⟩ := dct _ rfl h; exact .inr (.inr (.inl ⟨rfl, q⟩)))
theorem s_mth {mm : Bm} {Ty id : String} (pa : PlainAttrs Ty) (slot : Slot Ty m id) (hty : typeOf (.builtin id) = pure (.type "method_descriptor")) (hm : MtR X id (rBm T mm))
    (hT : (bmTy mm) = Ty)
    (ho : SE T P call X W o xo) (ha : SA T P call X W (e :: es) xs) (hok : mtOk o (e :: es) apos pos = true) : SE T P call X W (.Call (.Attribute o m apos) (e :: es) [] pos) (.mth mm xo xs) := by
  unfold mtOk at hok
  simp only [Bool.and_eq_true, decide_eq_true_eq] at hok
  obtain ⟨⟨⟨h1, h2⟩, h3⟩, h4⟩ := hok
  have h2' := h2
  simp only [List.all_cons, Bool.and_eq_true] at h2'
  refine pe_imp (pe_bm pa slot hty hm ho ha (ab_ok h1 _ _ _) (by
    rw [star_all _ _ _ h2]
    show (true && true && decide ((e :: es).length + 0 + 0 < 30)) = true
    simp only [List.length_cons] at h3 ⊢
    simp
    omega) h4 (star_cons h2'.1 es _) (star_any es _ _ h2'.2)) fun σ H Q ⟨env, S, μ, er, sr, af⟩ => ?_
  simp only [evalE] at af
  refine ⟨env, S, μ, er, sr, (Aft.bind (rel := RV) af).mono fun v H1 ⟨μ1, S1, d, e1, sr1, rv, a1⟩ => ?_⟩
  try dsimp only at a1
  split at a1
  · rename_i hk
    have ty := kind_ty (K := X.K) rv sr1 hk
    rw [hT] at ty
    refine ⟨ty, env, S1, μ1, er.ext e1, sr1, (Aft.bind (rel := RVs) a1).mono fun vs H2 ⟨μ2, S2, ds, e2, sr2, rv2, a2⟩ => ?_⟩
    exact ⟨μ2, S2, d, ds, _, rv.ext e2, rv2, sr2, a2⟩
  · exact a1.elim
theorem s_mth0 {mm : Bm} {Ty id : String} (pa : PlainAttrs Ty) (slot : Slot Ty m id) (hty : typeOf (.builtin id) = pure (.type "method_descriptor")) (hm : MtR X id (rBm T mm))
    (hT : (bmTy mm) = Ty)
    (ho : SE T P call X W o xo) (hok : mtOk o [] apos pos = true) : SE T P call X W (.Call (.Attribute o m apos) [] [] pos) (.mth mm xo []) := by
  unfold mtOk at hok
  simp only [Bool.and_eq_true, decide_eq_true_eq] at hok
  obtain ⟨⟨⟨h1, h2⟩, h3⟩, h4⟩ := hok
  refine pe_imp (pe_bm0 pa slot hty hm ho (ab_ok h1 _ _ _) h4) fun σ H Q ⟨env, S, μ, er, sr, af⟩ => ?_
  simp only [evalE, evalL] at af
  refine ⟨env, S, μ, er, sr, (Aft.bind (rel := RV) af).mono fun v H1 ⟨μ1, S1, d, e1, sr1, rv, a1⟩ => ?_⟩
  try dsimp only at a1
  split at a1
  · rename_i hk
    have ty := kind_ty (K := X.K) rv sr1 hk
    rw [hT] at ty
    exact ⟨ty, μ1, S1, d, [], _, rv, .nil, sr1, a1⟩
  · exact a1.elim
/-! ### fields -/
/-- the attributes' names by number -/
structure FldOk (T : Tie) (K : PySem.W.Frag) : Prop where
  inj : ∀ i j s, T.fld i = some s → T.fld j = some s → i = j
  cls : ∀ c, T.okc c = true → Cls K (T.cls c) ∧ ∀ n s, T.fld n = some s → NoAttr K (T.cls c) s
theorem fld_get {H : Hp} {μ : Mu} (inj : ∀ i j s, T.fld i = some s → T.fld j = some s → i = j) {n : Nat} {s : Str} (hs : T.fld n = some s) {d : D} : ∀ {xs : List (Str × V)} {fs : List (Nat × D)}, Paired (fun (p : Str × V) (q : Nat × D) => T.fld q.1 = some p.1 ∧ RV H μ p.2 q.2) xs fs → fgetD fs n = some d →
    ∃ v, xs.lookup s = some v ∧ RV H μ v d
  | _, _, .nil, h => by simp [fgetD] at h
  | (g, x) :: xs, (k, y) :: fs, .cons r t, h => by
    unfold fgetD at h
    simp only [List.lookup_cons] at h ⊢
    have hr : T.fld k = some g := r.1
    by_cases e : n = k
    · have e1 : (n == k) = true := by simp [e]
      have e2 : (s == g) = true := by
        rw [← e, hs] at hr
        cases hr
        simp
      rw [e1] at h
      rw [e2]
      cases h
      exact ⟨x, rfl, r.2⟩
    · have e1 : (n == k) = false := by simp [e]
      have e2 : (s == g) = false := beq_eq_false_iff_ne.mpr fun z => e (inj _ _ s hs (by rw [hr, z]))
      rw [e1] at h
      rw [e2]
      exact fld_get inj hs t h
theorem fld_put {H : Hp} {μ : Mu} (inj : ∀ i j s, T.fld i = some s → T.fld j = some s → i = j) {n : Nat} {s : Str} (hs : T.fld n = some s) {v : V} {d : D} (rv : RV H μ v d) : ∀ {xs : List (Str × V)} {fs : List (Nat × D)}, Paired (fun (p : Str × V) (q : Nat × D) => T.fld q.1 = some p.1 ∧ RV H μ p.2 q.2) xs fs →
    Paired (fun (p : Str × V) (q : Nat × D) => T.fld q.1 = some p.1 ∧ RV H μ p.2 q.2) (putF s v xs) (fputD fs n d)
  | _, _, .nil => .cons ⟨hs, rv⟩ .nil
  | (g, x) :: xs, (k, y) :: fs, .cons r t => by
    unfold putF fputD
    have hr : T.fld k = some g := r.1
    by_cases e : k = n
    · have e2 : g = s := by
        rw [e, hs] at hr
        cases hr
        rfl
      rw [if_pos e, if_pos e2]
      exact .cons ⟨r.1, rv⟩ t
    · have e2 : ¬ g = s := fun z => e (inj _ _ s (by rw [hr, z]) hs)
      rw [if_neg e, if_neg e2]
      exact .cons r (fld_put inj hs rv t)
theorem fld_none {H : Hp} {μ : Mu} {m : Str} (hm : ∀ n, T.fld n ≠ some m) : ∀ {xs : List (Str × V)} {fs : List (Nat × D)}, Paired (fun (p : Str × V) (q : Nat × D) => T.fld q.1 = some p.1 ∧ RV H μ p.2 q.2) xs fs → xs.lookup m = none
  | _, _, .nil => rfl
  | (g, x) :: xs, (k, y) :: fs, .cons r t => by
    simp only [List.lookup_cons]
    have hr : T.fld k = some g := r.1
    have e2 : (m == g) = false := beq_eq_false_iff_ne.mpr fun z => hm k (by rw [hr, z])
    rw [e2]
    exact fld_none hm t
theorem s_fld {n : Nat} {f : Str} (F : FldOk T X.K) (hf : T.fld n = some f) (ho : SE T P call X W o xo) (hab : abOk o = true) : SE T P call X W (.Attribute o f pos) (.fld xo n) := by
  refine pe_imp (pe_fld ho (ab_ok hab _ _ _)) fun σ H Q ⟨env, S, μ, er, sr, af⟩ => ?_
  simp only [evalE] at af
  refine ⟨env, S, μ, er, sr, (Aft.bind (rel := RV) af).mono fun v H1 ⟨μ1, S1, d, e1, sr1, rv, a1⟩ => ?_⟩
  try dsimp only at a1
  split at a1
  · split at a1
    · rename_i hs1
      obtain ⟨z, hz, a1'⟩ := a1.of
      clear a1
      obtain ⟨a, rfl, hn⟩ := rv.ref_inv
      obtain ⟨hc, dx, ys, e, q1⟩ := sr1.ob _ _ _ hn hs1
      obtain ⟨w, hw, rw'⟩ := fld_get F.inj hf q1 hz
      obtain ⟨c1, c2⟩ := F.cls _ hc
      exact ⟨a, _, dx, ys, w, rfl, e, c1, c2 n f hf, hw, a1'.here _ sr1 rw'⟩
    · exact a1.elim
  · exact a1.elim
/-! ### own methods: the class is the receiver's -/
/-- what stands behind o.m for each class -/
structure MthOk (T : Tie) (P : Prog) (call : Call) (X : Cx) (k : Nat) (m : Str) (n : Nat) : Prop where
  nofld : ∀ i, T.fld i ≠ some m
  all : ∀ c f, T.okc c = true → P.meth.lookup (c, n) = some f → ∃ fa fd ps, Meth X.K (T.cls c) m fa ∧ Binds X.K fd ps [] ∧ FnOk X.prog X.w X.K X.mg X.base (L2.CX X.prog X.w) k fa fd ps (spOf T call f)
theorem s_inv {n : Nat} (F : FldOk T X.K) (M : MthOk T P call X k m n) (hr : Room k X.A) (tk : Takes X W) (ho : SE T P call X W o xo) (ha : SA T P call X W (e :: es) xs) (hok : mtOk o (e :: es) apos pos = true) :
    SE T P call X W (.Call (.Attribute o m apos) (e :: es) [] pos) (.inv xo n xs) := by
  unfold mtOk at hok
  simp only [Bool.and_eq_true, decide_eq_true_eq] at hok
  obtain ⟨⟨⟨h1, h2⟩, h3⟩, h4⟩ := hok
  have h2' := h2
  simp only [List.all_cons, Bool.and_eq_true] at h2'
  refine ⟨fun pins s σ H Q I ⟨env, S, μ, er, sr, af⟩ => ?_⟩
  simp only [evalE] at af
  rw [arm_eval_Call, ab_ok h1]
  refine wpAny_bind (thn (ho.run pins s σ H _ I ⟨env, S, μ, er, sr, Aft.bind (rel := RV) af⟩) fun u s1 ⟨x, H1, I1, rx, μ1, S1, d, e1, sr1, rv, a1⟩ => ?_)
  refine wpAny_bind (wpAny_standAt ?_)
  try dsimp only at a1
  split at a1
  · split at a1
    · rename_i hs1
      split at a1
      · rename_i f hf
        obtain ⟨a, rfl, hn⟩ := rv.ref_inv
        cases (show u = Value.ref a from rx)
        obtain ⟨hc, dx, ys, eH, q1⟩ := sr1.ob _ _ _ hn hs1
        obtain ⟨c1, c2⟩ := F.cls _ hc
        obtain ⟨fa, fd, ps, hM, hb, FF⟩ := M.all _ f hc hf
        have hform : methodCallForm ((e :: es).length + ([] : List Keyword).length) (backTo pos (starEach (e :: es) X.env)) (backToKw pos (keywordEach [] X.env)) = true := by
          unfold methodCallForm
          rw [star_all _ _ _ h2]
          show (true && true && decide ((e :: es).length + 0 + 0 < 30)) = true
          simp only [List.length_cons] at h3 ⊢
          simp
          omega
        have hpos : methodCallPos true o X.env apos pos = pure pos := by unfold methodCallPos; simp [h4]
        unfold methodCall
        rw [hform]
        refine wpAny_bind (wpAny_holding (getmeth_ok I1 eH c1 hM (fld_none M.nofld q1) ?_))
        refine wpAny_bind (wpAny_of_eq hpos ?_)
        refine PySem.W.callWith_K (first := [.ref a]) (h₀ := X.base) I.ok.mod.kin hM.kp (thn (ha.run pos pins s1 σ H1 _ I1 ⟨env, S1, μ1, er.ext e1, sr1, Aft.bind (rel := RVs) a1⟩) fun us s2 ⟨vs, H2, I2, r, μ2, S2, ds, e2, sr2, rvs, a2⟩ => ⟨I2.kIn, ?_⟩) (star_cons h2'.1 es _) (star_any es _ _ h2'.2)
        try dsimp only at a2
        split at a2
        · split at a2
          · exact run_fnS (us := .ref a :: us) (vs := .ref a :: vs) FF hr hb (passAt tk σ) I2 (.cons rfl r) ⟨.ref _ :: ds, S2, μ2, .cons (rv.ext e2) rvs, sr2, a2⟩
          · exact a2.elim
        · exact a2.elim
      · exact a1.elim
    · exact a1.elim
  · exact a1.elim
theorem s_inv0 {n : Nat} (F : FldOk T X.K) (M : MthOk T P call X k m n) (hr : Room k X.A) (tk : Takes X W) (ho : SE T P call X W o xo) (hok : mtOk o [] apos pos = true) :
    SE T P call X W (.Call (.Attribute o m apos) [] [] pos) (.inv xo n []) := by
  unfold mtOk at hok
  simp only [Bool.and_eq_true, decide_eq_true_eq] at hok
  obtain ⟨⟨⟨h1, h2⟩, h3⟩, h4⟩ := hok
  refine ⟨fun pins s σ H Q I ⟨env, S, μ, er, sr, af⟩ => ?_⟩
  simp only [evalE, evalL] at af
  rw [arm_eval_Call, ab_ok h1]
  refine wpAny_bind (thn (ho.run pins s σ H _ I ⟨env, S, μ, er, sr, Aft.bind (rel := RV) af⟩) fun u s1 ⟨x, H1, I1, rx, μ1, S1, d, e1, sr1, rv, a1⟩ => ?_)
  refine wpAny_bind (wpAny_standAt ?_)
  try dsimp only at a1
  split at a1
  · split at a1
    · rename_i hs1
      split at a1
      · rename_i f hf
        obtain ⟨a, rfl, hn⟩ := rv.ref_inv
        cases (show u = Value.ref a from rx)
        obtain ⟨hc, dx, ys, eH, q1⟩ := sr1.ob _ _ _ hn hs1
        obtain ⟨c1, c2⟩ := F.cls _ hc
        obtain ⟨fa, fd, ps, hM, hb, FF⟩ := M.all _ f hc hf
        have hform : methodCallForm (([] : List Expr).length + ([] : List Keyword).length) (backTo pos (starEach [] X.env)) (backToKw pos (keywordEach [] X.env)) = true := by rfl
        have hpos : methodCallPos true o X.env apos pos = pure pos := by unfold methodCallPos; simp [h4]
        unfold methodCall
        rw [hform]
        refine wpAny_bind (wpAny_holding (getmeth_ok I1 eH c1 hM (fld_none M.nofld q1) ?_))
        refine wpAny_bind (wpAny_of_eq hpos ?_)
        simp only [R.bind, hs1, if_true] at a1
        exact PySem.W.callWith_K0 (first := [.ref a]) I1.kIn hM.kp (run_fnS (us := [.ref a]) (vs := [.ref a]) FF hr hb (passAt tk σ) I1 (.cons rfl .nil) ⟨[.ref _], S1, μ1, .cons rv .nil, sr1, a1⟩)
      · exact a1.elim
    · exact a1.elim
  · exact a1.elim
/-! ### own classes made -/
theorem mk_body {c f : Nat} {ds : List D} {S1 : Sto} {H1 : Hp} {μ1 : Mu} {vs : List V} {Q : VK} {w : Nat → Hp → Prop} (hc : T.okc c = true) (hf : P.init.lookup c = some f) (rv : RVs H1 μ1 vs ds) (sr1 : SRel T H1 μ1 S1)
    (a1 : Aft T RV w H1 μ1 (match P.init.lookup c with
      | some f => match call f (.ref S1.length :: ds) (S1 ++ [.ins c []]) with
        | .ok .non S' => .ok (.ref S1.length) S'
        | _ => .bad
      | none => .bad) Q) (x dx : Addr) (hx : H1 x = none) (hdx : H1 dx = none) (hne : dx ≠ x) :
    spOf T call f (.ref x :: (vs ++ [])) (upd (upd H1 dx (.own x)) x (.ins (T.cls c) dx [])) (fun v H2 => v = .non ∧ Q (.ref x) H2) E0 := by
  rw [hf] at a1
  have hx' : upd H1 dx (.own x) x = none := by rw [upd_ne (Ne.symm hne)]; exact hx
  have e1 : Ext H1 μ1 (upd H1 dx (.own x)) μ1 := Ext.side hdx
  have e2 : Ext (upd H1 dx (.own x)) μ1 (upd (upd H1 dx (.own x)) x (.ins (T.cls c) dx [])) (μ1 ++ [x]) := Ext.push hx'
  have sr2 : SRel T (upd (upd H1 dx (.own x)) x (.ins (T.cls c) dx [])) (μ1 ++ [x]) (S1 ++ [.ins c []]) := (sr1.side hdx).push hx' ⟨hc, dx, [], upd_same, .nil⟩
  have hn : (μ1 ++ [x])[S1.length]? = some x := by rw [← sr1.len]; exact Mu.app_at _ _
  refine ⟨.ref S1.length :: ds, S1 ++ [.ins c []], μ1 ++ [x], .cons (.ref hn) (by rw [List.append_nil]; exact rv.ext (e1.trans e2)), sr2, ?_⟩
  dsimp only at a1
  split at a1
  · rename_i S' hq
    rw [hq]
    intro v H3 μ3 e3 sr3 rv3
    refine ⟨rv3.non_inv, a1.ok _ ((e1.trans e2).trans e3) sr3 (.ref (e3.get hn))⟩
  · exact a1.elim
theorem s_mk {c f : Nat} (hc : T.okc c = true) (hf : P.init.lookup c = some f) (M : Mk X.K (T.cls c) fa) (F : FnOk X.prog X.w X.K X.mg X.base (L2.CX X.prog X.w) k fa fd ps (spOf T call f)) (hr : Room (k + 1) X.A) (hg : Gl X x) (hm : X.mg x = some (.ref (T.cls c))) (hb : Binds X.K fd ps [])
    (ha : SA T P call X W (e :: es) xs) (hdb : (x == ("__debug__" : Str)) = false) (hs : (e :: es).all noStar = true) : SE T P call X W (.Call (.Name x p) (e :: es) [] pos) (.mk c xs) := by
  simp only [List.all_cons, Bool.and_eq_true] at hs
  refine pe_imp (pe_make (dvs := []) (E := E0) M F hr hg hm hb .nil passL ha hdb (star_cons hs.1 es _) (star_any es _ _ hs.2)) fun σ H Q ⟨env, S, μ, er, sr, af⟩ => ?_
  simp only [evalE] at af
  refine ⟨env, S, μ, er, sr, (Aft.bind (rel := RVs) af).mono fun vs H1 ⟨μ1, S1, ds, e1, sr1, rv, a1⟩ => ?_⟩
  exact fun x dx hx hdx hne => mk_body hc hf rv sr1 a1 x dx hx hdx hne
theorem s_mk0 {c f : Nat} (hc : T.okc c = true) (hf : P.init.lookup c = some f) (M : Mk X.K (T.cls c) fa) (F : FnOk X.prog X.w X.K X.mg X.base (L2.CX X.prog X.w) k fa fd ps (spOf T call f)) (hr : Room (k + 1) X.A) (hg : Gl X x) (hm : X.mg x = some (.ref (T.cls c))) (hb : Binds X.K fd ps [])
    (hdb : (x == ("__debug__" : Str)) = false) : SE T P call X W (.Call (.Name x p) [] [] pos) (.mk c []) := by
  refine pe_imp (pe_make0 (dvs := []) (E := E0) M F hr hg hm hb .nil passL hdb) fun σ H Q ⟨env, S, μ, er, sr, af⟩ => ?_
  simp only [evalE, evalL, R.bind] at af
  exact fun x dx hx hdx hne => mk_body hc hf .nil sr af x dx hx hdx hne
/-! ### displays of dicts -/
theorem s_dnew : SE T P call X W (.Dict [] [] pos) (.newD []) := by
  refine pe_imp pe_dnewK fun σ H Q ⟨env, S, μ, er, sr, af⟩ => ?_
  simp only [evalE, evalL, R.bind, kvOf] at af
  intro p hp
  have af' : Aft T RV (fun c H' => wn T W c σ H') H μ (.ok (D.ref S.length) (S ++ [Ob.dct []])) Q := by simpa [mergeD] using af
  have q : ObR T (upd H p (.dK [])) (μ ++ [p]) p (.dct []) := .inl ⟨[], upd_same, .nil⟩
  exact af'.ok _ (Ext.push hp) (sr.push hp q) (.ref (by rw [← sr.len]; exact Mu.app_at _ _))
def flatP : List (V × V) → List V
  | [] => []
  | (a, b) :: r => a :: b :: flatP r
def trsOf (T : Tie) (P : Prog) (call : Call) (W : WX) : List HW.X → List (TE × TE)
  | a :: b :: r => (rd T RV (wn T W) (evalE P call a), rd T RV (wn T W) (evalE P call b)) :: trsOf T P call W r
  | _ => []
theorem pairs_rd {σ : L2.St} {env : Env} : ∀ (n : Nat) (es : List HW.X) {H : Hp} {μ : Mu} {S : Sto} {Q : List (V × V) → Hp → Prop}, es.length = 2 * n → EnvR H μ σ env → SRel T H μ S →
    Aft T RVs (fun c H' => wn T W c σ H') H μ (evalL P call es env S) (fun vs H2 => ∀ ps, flatP ps = vs → Q ps H2) → tPairs (trsOf T P call W es) σ H Q
  | 0, [], H, μ, S, Q, _, er, sr, af => by
    simp only [evalL] at af
    exact af.here [] sr .nil [] rfl
  | 0, _ :: _, _, _, _, _, h, _, _, _ => by simp at h
  | n + 1, [], _, _, _, _, h, _, _, _ => by simp at h
  | n + 1, [_], _, _, _, _, h, _, _, _ => by simp only [List.length_cons, List.length_nil] at h; omega
  | n + 1, a :: b :: r, H, μ, S, Q, h, er, sr, af => by
    simp only [evalL] at af
    refine ⟨env, S, μ, er, sr, (Aft.bind (rel := RV) af).mono fun v H1 ⟨μ1, S1, d, e1, sr1, rv, a1⟩ => ?_⟩
    have e0 : ∀ (r : R D) (f : D → Sto → R (List D)) (g : List D → Sto → R (List D)), (r.bind f).bind g = r.bind fun x S => (f x S).bind g := fun r f g => by cases r <;> rfl
    have e00 : ∀ (r : R (List D)) (f : List D → Sto → R (List D)) (g : List D → Sto → R (List D)), (r.bind f).bind g = r.bind fun x S => (f x S).bind g := fun r f g => by cases r <;> rfl
    rw [e0] at a1
    refine ⟨env, S1, μ1, er.ext e1, sr1, (Aft.bind (rel := RV) a1).mono fun u H2 ⟨μ2, S2, d2, e2, sr2, rv2, a2⟩ => ?_⟩
    rw [e00] at a2
    have hl : r.length = 2 * n := by simp only [List.length_cons] at h; omega
    refine pairs_rd n r hl ((er.ext e1).ext e2) sr2 ((Aft.bind (rel := RVs) a2).mono fun vs H3 ⟨μ3, S3, ds, e3, sr3, rvs, a3⟩ ps hps => ?_)
    simp only [R.bind] at a3
    exact a3.here _ sr3 (.cons ((rv.ext e2).ext e3) (.cons (rv2.ext e3) rvs)) ((v, u) :: ps) (by rw [← hps]; rfl)
mutual
/-- a dict that is no part of the store yet becomes one -/
theorem RV.up {H : Hp} {μ : Mu} {p : Addr} {o u : HO} (hp : H p = some o) (ht : ∀ xs, o ≠ .tup xs) (hl : ∀ xs, o ≠ .lst xs) (hf : ∀ ob xs, o ≠ .frz ob (.lst xs)) : ∀ {d : D} {v : V}, RV H μ v d → RV (upd H p u) (μ ++ [p]) v d
  | .non, _, h => by cases h; exact .non
  | .bl _, _, h => by cases h; exact .bl _
  | .int _, _, h => by cases h; exact .int _
  | .str _, _, h => by cases h with | str _ h => exact .str _ h
  | .ref _, _, h => by
    cases h with
    | ref h => exact .ref (by rw [Mu.app_lt (Mu.get_lt h)]; exact h)
  | .tup ds, _, h => by
    cases h with
    | @tup a xs _ h n r =>
      have ne : a ≠ p := fun e => by rw [e, hp] at h; cases h; exact ht _ rfl
      exact .tup (by rw [upd_ne ne]; exact h) (by simp only [Mu.app_mem, not_or]; exact ⟨n, ne⟩) (RVs.up hp ht hl hf r)
  | .lst ds, _, h => by
    cases h with
    | @lst a xs _ h n r =>
      have ne : a ≠ p := fun e => by
        rcases h with h | ⟨ob, h⟩
        · rw [e, hp] at h; cases h; exact hl _ rfl
        · rw [e, hp] at h; cases h; exact hf _ _ rfl
      refine .lst ?_ (by simp only [Mu.app_mem, not_or]; exact ⟨n, ne⟩) (RVs.up hp ht hl hf r)
      rcases h with h | ⟨ob, h⟩
      · exact .inl (by rw [upd_ne ne]; exact h)
      · exact .inr ⟨ob, by rw [upd_ne ne]; exact h⟩
theorem RVs.up {H : Hp} {μ : Mu} {p : Addr} {o u : HO} (hp : H p = some o) (ht : ∀ xs, o ≠ .tup xs) (hl : ∀ xs, o ≠ .lst xs) (hf : ∀ ob xs, o ≠ .frz ob (.lst xs)) : ∀ {ds : List D} {vs : List V}, RVs H μ vs ds → RVs (upd H p u) (μ ++ [p]) vs ds
  | [], _, h => by cases h; exact .nil
  | d :: ds, _, h => by cases h with | cons a b => exact .cons (RV.up hp ht hl hf a) (RVs.up hp ht hl hf b)
end
theorem kv_flat {H : Hp} {μ : Mu} : ∀ {ps : List (V × V)} {ds : List D} {kvs : List (D × D)}, RVs H μ (flatP ps) ds → kvOf ds = some kvs → (∀ p ∈ kvs, p.1.kcls = 1) → ∃ kv : List (Key × V), ps = kv.map (fun kv => (kV kv.1, kv.2)) ∧ KVR KeyR H μ kv kvs
  | [], _, _, r, h, _ => by
    cases r
    cases h
    exact ⟨[], rfl, .nil⟩
  | (a, b) :: ps, _, kvs, r, h, hk => by
    cases r with
    | @cons _ _ d1 _ r1 r =>
      cases r with
      | @cons _ _ d2 ds r2 r =>
        simp only [kvOf, Option.map_eq_some_iff] at h
        obtain ⟨rest, h1, rfl⟩ := h
        obtain ⟨kv, e, q⟩ := kv_flat r h1 fun p hp => hk p (List.mem_cons_of_mem _ hp)
        obtain ⟨k, hkr⟩ := keyR_mk r1 (kcls1 (hk (d1, d2) List.mem_cons_self))
        refine ⟨(k, b) :: kv, ?_, .cons ⟨hkr, r2⟩ q⟩
        rw [e, kV_of hkr r1]
        rfl
theorem KVR.merge {H : Hp} {μ : Mu} : ∀ {kv : List (Key × V)} {kvs : List (D × D)} {kv0 : List (Key × V)} {kvs0 : List (D × D)}, KVR KeyR H μ kv kvs → KVR KeyR H μ kv0 kvs0 → KVR KeyR H μ (mergeK kv0 kv) (mergeD kvs0 kvs)
  | _, _, _, _, .nil, h => h
  | p :: kv, q :: kvs, kv0, kvs0, .cons r t, h => by
    show KVR KeyR H μ (mergeK (putK kv0 p.1 p.2) kv) (mergeD (dput kvs0 q.1 q.2) kvs)
    exact KVR.merge t (KVR.put key_inj key_uq r.1 r.2 h)
theorem kvOf_len : ∀ {ds : List D} {kvs : List (D × D)}, kvOf ds = some kvs → ds.length = 2 * kvs.length
  | [], _, h => by cases h; rfl
  | [_], _, h => by simp [kvOf] at h
  | a :: b :: r, kvs, h => by
    simp only [kvOf, Option.map_eq_some_iff] at h
    obtain ⟨rest, h1, rfl⟩ := h
    have := kvOf_len h1
    simp only [List.length_cons]
    omega
theorem SRel.up {H : Hp} {μ : Mu} {S : Sto} {p : Addr} {o u : HO} {ob : Ob} (sr : SRel T H μ S) (np : p ∉ μ) (hp : H p = some o) (ht : ∀ xs, o ≠ .tup xs) (hl : ∀ xs, o ≠ .lst xs) (hf : ∀ ob xs, o ≠ .frz ob (.lst xs)) (q : ObR T (upd H p u) (μ ++ [p]) p ob) :
    SRel T (upd H p u) (μ ++ [p]) (S ++ [ob]) := by
  refine ⟨by show (μ.l ++ [p]).length = _; simp; exact sr.len, ?_, fun b z => ?_, fun n b ob' h1 h2 => ?_⟩
  · refine List.nodup_append.mpr ⟨sr.nd, by simp, fun x hx y hy => ?_⟩
    simp at hy
    subst hy
    exact fun e => np (e ▸ .inl hx)
  · obtain ⟨n, w, e⟩ := sr.hd b z
    have nb : b ≠ p := fun q => np (by rw [← q]; exact .inr z)
    refine ⟨fun z' => ?_, w, by rw [upd_ne nb]; exact e⟩
    rcases List.mem_append.mp z' with z' | z'
    · exact n z'
    · simp at z'; exact nb z'
  · by_cases hn : n < μ.length
    · rw [Mu.app_lt hn] at h1
      rw [List.getElem?_append_left (by rw [← sr.len]; exact hn)] at h2
      have q := sr.ob n b ob' h1 h2
      have nb : b ≠ p := fun e => np (e ▸ .inl (Mu.of_get h1))
      have ha : upd H p u b = H b := upd_ne nb
      cases ob' with
      | lst ds =>
        obtain ⟨xs, h1, h2⟩ := q
        exact ⟨xs, ha.trans h1, RVs.up hp ht hl hf h2⟩
      | dct kvs =>
        rcases q with ⟨kv, h1, h2⟩ | ⟨kv, h1, h2⟩
        · exact .inl ⟨kv, ha.trans h1, Paired.mapR h2 fun _ _ z => ⟨z.1, RV.up hp ht hl hf z.2⟩⟩
        · exact .inr ⟨kv, ha.trans h1, Paired.mapR h2 fun _ _ z => ⟨z.1, RV.up hp ht hl hf z.2⟩⟩
      | ins c fs =>
        obtain ⟨hc, dx, xs, h1, h2⟩ := q
        exact ⟨hc, dx, xs, ha.trans h1, Paired.mapR h2 fun _ _ z => ⟨z.1, RV.up hp ht hl hf z.2⟩⟩
    · have hle : μ.length ≤ n := by omega
      rw [Mu.app_ge hle] at h1
      rw [List.getElem?_append_right (by rw [← sr.len]; exact hle)] at h2
      rw [← sr.len] at h2
      cases e : n - μ.length with
      | zero =>
        rw [e] at h1 h2
        simp at h1 h2
        subst h1; subst h2
        exact q
      | succ m =>
        rw [e] at h1
        simp at h1
theorem s_disp {keys : List (Option Expr)} {values : List Expr} {n : Nat} (h : PPs X pos keys values (trsOf T P call W xs)) (hx : xs.length = 2 * n) (hall : keys.all (·.isSome) = true) (hl : keys.length = values.length) (h0 : keys ≠ []) (h15 : keys.length ≤ 15) :
    SE T P call X W (.Dict keys values pos) (.newD xs) := by
  refine pe_imp (pe_disp h hall hl h0 h15) fun σ H Q ⟨env, S, μ, er, sr, af⟩ => ?_
  simp only [evalE] at af
  intro p hp
  have e0 : Ext H μ (upd H p (.dK [])) μ := Ext.side hp
  have npμ : p ∉ μ := sr.fresh hp
  refine pairs_rd (S := S) n xs hx (er.ext e0) (sr.side hp) ?_
  cases hr : evalL P call xs env S with
  | bad => rw [hr] at af; exact af.elim
  | exc c S2 => rw [hr] at af; exact fun H' μ' f s => af H' μ' (e0.trans f) s
  | ok ds S2 =>
    rw [hr] at af
    simp only [R.bind] at af
    intro vs H2 μ2 e2 sr2 rvs ps hps
    subst hps
    have hp2 : H2 p = some (.dK []) := e2.keep p _ upd_same npμ
    have np2 : p ∉ μ2 := e2.out (o := .dK []) upd_same npμ
    refine ⟨hp2, ?_⟩
    split at af
    · rename_i kvs hkv
      split at af
      · rename_i hc
        simp only [Bool.and_eq_true, decide_eq_true_eq, List.all_eq_true, beq_iff_eq] at hc
        obtain ⟨kv, e, q⟩ := kv_flat rvs hkv hc.1
        have hlen : kv.length = kvs.length := Paired.length q
        refine ⟨kv, e, by rw [hlen]; exact hc.2, ?_⟩
        refine af.ok (μ' := μ2 ++ [p]) _ ?_ (sr2.up np2 hp2 (fun _ z => nomatch z) (fun _ z => nomatch z) (fun _ _ z => nomatch z) (.inl ⟨mergeK [] kv, upd_same, Paired.mapR (KVR.merge q .nil) fun _ _ z => ⟨z.1, RV.up hp2 (fun _ z => nomatch z) (fun _ z => nomatch z) (fun _ _ z => nomatch z) z.2⟩⟩)) (.ref (by rw [← sr2.len]; exact Mu.app_at _ _))
        refine ⟨fun b o h n => ?_, ?_, fun b hb => ?_⟩
        · have nb : b ≠ p := ne_of_none h hp
          rw [upd_ne nb]
          exact e2.kp b o (by rw [upd_ne nb]; exact h) n
        · obtain ⟨m, rfl⟩ := e2.grow
          exact ⟨m ++ [p], Mu.app_app _ _ _⟩
        · rcases List.mem_append.mp hb with hb | hb
          · rcases e2.new b hb with z | z
            · exact .inl z
            · refine .inr ?_
              by_cases nb : b = p
              · subst nb; exact hp
              · rwa [upd_ne nb] at z
          · simp at hb; subst hb; exact .inr hp
      · exact af.elim
    · exact af.elim
end
end HW
/-! What is walked; targets; comprehensions. -/
namespace HW
open PySem L2
/-- data stay borne -/
structure Mv (H : Hp) (μ : Mu) (H' : Hp) (μ' : Mu) : Prop where
  k : ∀ a o, H a = some o → a ∉ μ → H' a = some o ∧ a ∉ μ'
  g : ∀ (n : Nat) (a : Addr), μ[n]? = some a → μ'[n]? = some a
section
variable {T : Tie} {H H1 H2 : Hp} {μ μ1 μ2 : Mu} {S : Sto}
theorem Mv.refl (H : Hp) (μ : Mu) : Mv H μ H μ := ⟨fun _ _ h n => ⟨h, n⟩, fun _ _ h => h⟩
theorem Ext.mv (e : Ext H μ H1 μ1) : Mv H μ H1 μ1 := ⟨fun a o h n => ⟨e.keep a o h n, e.out h n⟩, fun _ _ h => e.get h⟩
theorem Mv.trans (e : Mv H μ H1 μ1) (f : Mv H1 μ1 H2 μ2) : Mv H μ H2 μ2 := ⟨fun a o h n => let ⟨x, y⟩ := e.k a o h n; f.k a o x y, fun n a h => f.g n a (e.g n a h)⟩
mutual
theorem RV.move (e : Mv H μ H1 μ1) : ∀ {d : D} {v : V}, RV H μ v d → RV H1 μ1 v d
  | .non, _, h => by cases h; exact .non
  | .bl _, _, h => by cases h; exact .bl _
  | .int _, _, h => by cases h; exact .int _
  | .str _, _, h => by cases h with | str _ h => exact .str _ h
  | .ref _, _, h => by cases h with | ref h => exact .ref (e.g _ _ h)
  | .tup ds, _, h => by
    cases h with
    | tup h n r => obtain ⟨x, y⟩ := e.k _ _ h n; exact .tup x y (RVs.move e r)
  | .lst ds, _, h => by
    cases h with
    | lst h n r =>
      rcases h with h | ⟨o, h⟩
      · obtain ⟨x, y⟩ := e.k _ _ h n; exact .lst (.inl x) y (RVs.move e r)
      · obtain ⟨x, y⟩ := e.k _ _ h n; exact .lst (.inr ⟨o, x⟩) y (RVs.move e r)
theorem RVs.move (e : Mv H μ H1 μ1) : ∀ {ds : List D} {vs : List V}, RVs H μ vs ds → RVs H1 μ1 vs ds
  | [], _, h => by cases h; exact .nil
  | d :: ds, _, h => by cases h with | cons a b => exact .cons (RV.move e a) (RVs.move e b)
end
theorem EnvR.move {σ : L2.St} {env : Env} (r : EnvR H μ σ env) (e : Mv H μ H1 μ1) : EnvR H1 μ1 σ env :=
  ⟨r.len, fun i d h => let ⟨v, h1, h2⟩ := r.get i d h; ⟨v, h1, h2.move e⟩⟩
theorem ObR.move {a : Addr} {o : Ob} (e : Mv H μ H1 μ1) (ha : H1 a = H a) (h : ObR T H μ a o) : ObR T H1 μ1 a o := by
  cases o with
  | lst ds =>
    obtain ⟨xs, h1, h2⟩ := h
    exact ⟨xs, ha.trans h1, h2.move e⟩
  | dct kvs =>
    rcases h with ⟨kv, h1, h2⟩ | ⟨kv, h1, h2⟩
    · exact .inl ⟨kv, ha.trans h1, Paired.mapR h2 fun _ _ z => ⟨z.1, z.2.move e⟩⟩
    · exact .inr ⟨kv, ha.trans h1, Paired.mapR h2 fun _ _ z => ⟨z.1, z.2.move e⟩⟩
  | ins c fs =>
    obtain ⟨hc, dx, xs, h1, h2⟩ := h
    exact ⟨hc, dx, xs, ha.trans h1, Paired.mapR h2 fun _ _ z => ⟨z.1, z.2.move e⟩⟩
/-- a new list, hidden -/
theorem Mv.hide {D : Addr} {u : HO} (h : H D = none) : Mv H μ (upd H D u) ⟨μ.l, D :: μ.h⟩ :=
  ⟨fun a o e n => ⟨by rw [upd_ne (ne_of_none e h)]; exact e, fun z => by
    rcases z with z | z
    · exact n (.inl z)
    · rcases List.mem_cons.mp z with z | z
      · subst z; rw [h] at e; cases e
      · exact n (.inr z)⟩, fun _ _ z => z⟩
theorem SRel.hide {D : Addr} {xs : List V} (s : SRel T H μ S) (h : H D = none) : SRel T (upd H D (.lst xs)) ⟨μ.l, D :: μ.h⟩ S := by
  refine ⟨s.len, s.nd, fun b z => ?_, fun n b o h1 h2 => ?_⟩
  · rcases List.mem_cons.mp z with z | z
    · subst z; exact ⟨fun z => s.fresh h (.inl z), xs, upd_same⟩
    · obtain ⟨n, w, e⟩ := s.hd b z
      exact ⟨n, w, by rw [upd_ne (ne_of_none e h)]; exact e⟩
  · have q := s.ob n b o h1 h2
    obtain ⟨w, e⟩ := q.there
    exact q.move (Mv.hide h) (upd_ne (ne_of_none e h))
theorem Mv.unhide {D : Addr} {l h : List Addr} : Mv H ⟨l, D :: h⟩ H ⟨l, h⟩ :=
  ⟨fun a o e n => ⟨e, fun z => n (z.elim .inl fun z => .inr (List.mem_cons_of_mem _ z))⟩, fun _ _ z => z⟩
theorem SRel.unhide {D : Addr} {l h : List Addr} (s : SRel T H ⟨l, D :: h⟩ S) : SRel T H ⟨l, h⟩ S :=
  ⟨s.len, s.nd, fun b z => s.hd b (List.mem_cons_of_mem _ z), fun n b o h1 h2 => (s.ob n b o h1 h2).move Mv.unhide rfl⟩
theorem Mv.hid {D : Addr} {u : HO} (h : D ∈ μ.h) : Mv H μ (upd H D u) μ :=
  ⟨fun a o e n => ⟨by rw [upd_ne (show a ≠ D from fun z => n (.inr (z ▸ h)))]; exact e, n⟩, fun _ _ z => z⟩
theorem SRel.hid {D : Addr} {xs : List V} (s : SRel T H μ S) (h : D ∈ μ.h) : SRel T (upd H D (.lst xs)) μ S := by
  refine ⟨s.len, s.nd, fun b z => ⟨(s.hd b z).1, ?_⟩, fun n b o h1 h2 => (s.ob n b o h1 h2).move (Mv.hid h) (upd_ne fun z => (s.hd D h).1 (by rw [← z]; exact Mu.of_get h1))⟩
  by_cases e : b = D
  · subst e; exact ⟨xs, upd_same⟩
  · obtain ⟨w, q⟩ := (s.hd b z).2
    exact ⟨w, by rw [upd_ne e]; exact q⟩
end
/-! ### what is walked -/
/-- the iterator yields these data -/
def BearsR (T : Tie) : VR Src L2.It := fun H0 μ0 J src => ∀ (i : Nat) (H : Hp) (μ : Mu) (S : Sto), Mv H0 μ0 H μ → SRel T H μ S → stay src.own S = true →
  (∀ d, src.items[i]? = some d → J.go i H ∧ ∀ v H', J.yld i H v H' → Ext H μ H' μ ∧ SRel T H' μ S ∧ RV H' μ v d) ∧ (src.items.length = i → J.stop i H)
def SI (T : Tie) (P : Prog) (call : Call) (X : Cx) (W : WX) (tg e : Expr) (x : HW.It) : Prop := PI X tg e (rd T (BearsR T) (wn T W) (evalI P call x))
section
variable {T : Tie} {P : Prog} {call : Call} {X : Cx} {W : WX} {a b d e tg : Expr} {xa xb xd : HW.X} {pos p : Pos}
theorem bears_list {K : PySem.W.Frag} {H : Hp} {μ : Mu} {S : Sto} {v : V} {d : D} {ds : List D} (rv : RV H μ v d) (sr : SRel T H μ S) (h : listD S d = some ds) :
    ∃ a, v = .ref a ∧ (∃ xs, SqL K H a xs) ∧ BearsR T H μ (Itl K a) ⟨ds, ownD S d⟩ := by
  unfold listD at h
  cases d with
  | lst es =>
    simp only [vw] at h
    cases h
    obtain ⟨a, xs, rfl, h1, n1, q1⟩ := rv.lst_inv
    refine ⟨a, rfl, ⟨xs, .inl h1⟩, fun i H' μ' S' m sr' _ => ?_⟩
    have h1' : Rd H' a (.lst xs) := by
      rcases h1 with h | ⟨o, h⟩
      · exact .inl (m.k _ _ h n1).1
      · exact .inr ⟨o, (m.k _ _ h n1).1⟩
    have q : SqL K H' a xs := .inl h1'
    have q1' := q1.move m
    refine ⟨fun d hd => ?_, fun hl => ⟨xs, q, by rw [q1.length]; exact Nat.le_of_eq hl⟩⟩
    obtain ⟨x, hx, rx⟩ := q1'.get hd
    refine ⟨⟨xs, x, q, hx⟩, fun v H2 y => ?_⟩
    obtain ⟨e, y⟩ := y
    subst e
    have z := y xs q
    rw [hx] at z
    cases z
    exact ⟨Ext.refl _ _, sr', rx⟩
  | ref n =>
    simp only [vw] at h
    split at h
    · rename_i hd
      split at hd
      · rename_i es hs
        cases hd
        cases h
        obtain ⟨a, rfl, hn⟩ := rv.ref_inv
        obtain ⟨xs, e, q1⟩ := sr.ob _ _ _ hn hs
        refine ⟨a, rfl, ⟨xs, .inl (.inl e)⟩, fun i H' μ' S' m sr' st => ?_⟩
        have hs' : S'[n]? = some (.lst ds) := by
          simp only [ownD, hs, stay, List.all_cons, List.all_nil, Bool.and_true] at st
          split at st
          · rename_i q; simp only [decide_eq_true_eq] at st; rw [q, st]
          · cases st
        obtain ⟨ys, e', q1'⟩ := sr'.ob _ _ _ (m.g _ _ hn) hs'
        have q : SqL K H' a ys := .inl (.inl e')
        refine ⟨fun d hd => ?_, fun hl => ⟨ys, q, by rw [q1'.length]; exact Nat.le_of_eq hl⟩⟩
        obtain ⟨x, hx, rx⟩ := q1'.get hd
        refine ⟨⟨ys, x, q, hx⟩, fun v H2 y => ?_⟩
        obtain ⟨e, y⟩ := y
        subst e
        have z := y ys q
        rw [hx] at z
        cases z
        exact ⟨Ext.refl _ _, sr', rx⟩
      · cases hd
    · cases h
  | _ => simp [vw] at h
theorem bears_tup {K : PySem.W.Frag} {H : Hp} {μ : Mu} {S : Sto} {v : V} {ds : List D} (rv : RV H μ v (.tup ds)) :
    ∃ a, v = .ref a ∧ (∃ xs, SqT K H a xs) ∧ BearsR T H μ (Itt K a) ⟨ds, []⟩ := by
  obtain ⟨a, xs, rfl, h1, n1, q1⟩ := rv.tup_inv
  refine ⟨a, rfl, ⟨xs, .inl (.inl h1)⟩, fun i H' μ' S' m sr' _ => ?_⟩
  have q : SqT K H' a xs := .inl (.inl (m.k _ _ h1 n1).1)
  have q1' := q1.move m
  refine ⟨fun d hd => ?_, fun hl => ⟨xs, q, by rw [q1.length]; exact Nat.le_of_eq hl⟩⟩
  obtain ⟨x, hx, rx⟩ := q1'.get hd
  refine ⟨⟨xs, x, q, hx⟩, fun v H2 y => ?_⟩
  obtain ⟨e, y⟩ := y
  subst e
  have z := y xs q
  rw [hx] at z
  cases z
  exact ⟨Ext.refl _ _, sr', rx⟩
theorem bears_str {H : Hp} {μ : Mu} {v : V} {x : List Nat} (rv : RV H μ v (.str x)) :
    v = .str (sOf x) ∧ BearsR T H μ (Its (sOf x)) ⟨x.map fun c => .str [c], []⟩ := by
  obtain ⟨rfl, ok⟩ := rv.str_inv
  refine ⟨rfl, fun i H' μ' S' m sr' _ => ⟨fun d hd => ?_, fun hl => ?_⟩⟩
  · rw [List.getElem?_map] at hd
    cases hx : x[i]? with
    | none => rw [hx] at hd; cases hd
    | some c =>
      rw [hx] at hd
      cases hd
      have hi : i < x.length := (List.getElem?_eq_some_iff.mp hx).1
      refine ⟨by show i < (sOf x).cps.size; simpa using hi, fun v H2 y => ?_⟩
      obtain ⟨e, c', hc', y⟩ := y
      subst e
      have e2 : (sOf x).cps[i]? = some c := by simpa using hx
      rw [e2] at hc'
      cases hc'
      subst y
      exact ⟨Ext.refl _ _, sr', .str [c] (cpsOk_mk (by intro k hk; simp at hk; subst hk; exact cpsOk_mem ok _ (List.mem_of_getElem? hx)) (by show 1 ≤ 16777216; decide))⟩
  · have hl : (x.map fun c => D.str [c]).length = i := hl
    show (sOf x).cps.size ≤ i
    simp at hl ⊢
    omega
theorem rangeD_get : ∀ (n : Nat) (lo : Int) (i : Nat), (rangeD lo n)[i]? = if i < n then some (.int (lo + i)) else none
  | 0, _, i => by simp [rangeD]
  | n + 1, lo, 0 => by simp [rangeD]
  | n + 1, lo, i + 1 => by
    simp only [rangeD, List.getElem?_cons_succ, rangeD_get n (lo + 1) i]
    by_cases h : i < n
    · rw [if_pos h, if_pos (by omega)]
      congr 2
      omega
    · rw [if_neg h, if_neg (by omega)]
theorem rangeD_len : ∀ (n : Nat) (lo : Int), (rangeD lo n).length = n
  | 0, _ => rfl
  | n + 1, lo => by simp [rangeD, rangeD_len n]
theorem bears_rng {H : Hp} {μ : Mu} {lo : Int} {n : Nat} : BearsR T H μ (Itr lo n) ⟨rangeD lo n, []⟩ := by
  intro i H' μ' S' m sr' _
  refine ⟨fun d hd => ?_, fun hl => ?_⟩
  · have hd : (rangeD lo n)[i]? = some d := hd
    rw [rangeD_get] at hd
    split at hd
    · rename_i hi
      cases hd
      refine ⟨hi, fun v H2 y => ?_⟩
      obtain ⟨e, y⟩ := y
      subst e y
      exact ⟨Ext.refl _ _, sr', .int _⟩
    · cases hd
  · have hl : (rangeD lo n).length = i := hl
    rw [rangeD_len] at hl
    exact Nat.le_of_eq hl
theorem seq_cases {S : Sto} {d : D} {ds : List D} (h : seqOf S d = some ds) : listD S d = some ds ∨ d = .tup ds ∧ ownD S d = [] ∨ ∃ x, d = .str x ∧ ds = (x.map fun c => .str [c]) ∧ ownD S d = [] := by
  unfold seqOf at h
  unfold listD
  cases d with
  | tup es => simp only [vw] at h; cases h; exact .inr (.inl ⟨rfl, rfl⟩)
  | str x => simp only [vw] at h; cases h; exact .inr (.inr ⟨x, rfl, rfl, rfl⟩)
  | lst es => simp only [vw] at h ⊢; exact .inl h
  | ref n =>
    simp only [vw] at h ⊢
    cases q : S[n]? with
    | none => simp [q] at h
    | some o =>
      simp only [q] at h ⊢
      cases o with
      | lst es => exact .inl h
      | _ => simp at h
  | _ => simp [vw] at h
theorem i_seq (ha : SE T P call X W a xa) : SI T P call X W tg a (.seq xa) := by
  refine pi_imp (pi_or (pi_list ha) (pi_or (pi_tup ha) (pi_str ha))) fun σ H Q ⟨env, S, μ, er, sr, af⟩ => ?_
  simp only [evalI] at af
  cases hr : evalE P call xa env S with
  | bad => rw [hr] at af; exact af.elim
  | exc c S1 => rw [hr] at af; exact .inl ⟨env, S, μ, er, sr, by rw [hr]; exact af⟩
  | ok d S1 =>
    rw [hr] at af
    simp only [R.bind] at af
    split at af
    · rename_i ds hds
      rcases seq_cases hds with hl | ⟨rfl, ho⟩ | ⟨x, rfl, rfl, ho⟩
      · refine .inl ⟨env, S, μ, er, sr, ?_⟩
        rw [hr]
        intro v H1 μ1 e1 sr1 rv
        obtain ⟨a, rfl, hx, hb⟩ := bears_list (K := X.K) rv sr1 hl
        exact ⟨a, rfl, hx, af.ok _ e1 sr1 hb⟩
      · refine .inr (.inl ⟨env, S, μ, er, sr, ?_⟩)
        rw [hr]
        intro v H1 μ1 e1 sr1 rv
        obtain ⟨a, rfl, hx, hb⟩ := bears_tup (K := X.K) (T := T) (S := S1) rv
        rw [ho] at af
        exact ⟨a, rfl, hx, af.ok _ e1 sr1 hb⟩
      · refine .inr (.inr ⟨env, S, μ, er, sr, ?_⟩)
        rw [hr]
        intro v H1 μ1 e1 sr1 rv
        obtain ⟨rfl, hb⟩ := bears_str (T := T) rv
        rw [ho] at af
        exact ⟨_, rfl, af.ok _ e1 sr1 hb⟩
    · exact af.elim
theorem star_one {e : Expr} (h : noStar e = true) (env : PySem.Env) : starEach [e] env = [(false, eval e env)] := star_cons h [] env
theorem i_rng1 (hg : Gl X "range") (hm : X.mg "range" = none) (ha : SE T P call X W a xa) (hs : noStar a = true) : SI T P call X W tg (.Call (.Name "range" p) [a] [] pos) (.rng1 xa) := by
  refine pi_imp (pi_range1 hg hm (pa_cons ha pa_nil (star_cons hs [] _)) (star_one hs _)) fun σ H R ⟨env, S, μ, er, sr, af⟩ => ?_
  simp only [evalI] at af
  refine ⟨env, S, μ, er, sr, (Aft.bind (rel := RV) af).mono fun v H1 ⟨μ1, S1, d, e1, sr1, rv, a1⟩ => ?_⟩
  try dsimp only at a1
  split at a1
  · split at a1
    · rename_i j hj
      obtain rfl := rv.int_inv
      exact ⟨_, rfl, by omega, by omega, a1.here _ sr1 bears_rng⟩
    · exact a1.elim
  · exact a1.elim
theorem i_rng2 (hg : Gl X "range") (hm : X.mg "range" = none) (ha : SE T P call X W a xa) (hb : SE T P call X W b xb) (hs : noStar a = true) (hs2 : noStar b = true) : SI T P call X W tg (.Call (.Name "range" p) [a, b] [] pos) (.rng2 xa xb) := by
  refine pi_imp (pi_range2 hg hm (pa_cons ha (pa_cons hb pa_nil (star_cons hs2 [] _)) (star_cons hs _ _)) (by rw [star_cons hs, star_one hs2]) (star_one hs2 _)) fun σ H R ⟨env, S, μ, er, sr, af⟩ => ?_
  simp only [evalI] at af
  refine ⟨env, S, μ, er, sr, (Aft.bind (rel := RV) af).mono fun v H1 ⟨μ1, S1, d, e1, sr1, rv, a1⟩ => ?_⟩
  refine ⟨env, S1, μ1, er.ext e1, sr1, (Aft.bind (rel := RV) a1).mono fun u H2 ⟨μ2, S2, d2, e2, sr2, rv2, a2⟩ => ?_⟩
  try dsimp only at a2
  split at a2
  · split at a2
    · rename_i j hj
      obtain rfl := rv.int_inv
      obtain rfl := rv2.int_inv
      exact ⟨_, _, rfl, ⟨by omega, by omega, by omega, by omega⟩, a2.here _ sr2 bears_rng⟩
    · exact a2.elim
  · exact a2.elim
/-! ### targets of names -/
mutual
def Tg.slots : Tg → List Nat
  | .name i => [i]
  | .tup ts => Tg.slotsL ts
def Tg.slotsL : List Tg → List Nat
  | [] => []
  | t :: ts => Tg.slots t ++ Tg.slotsL ts
end
theorem wipe_set {σ : L2.St} {i : Nat} {v : Option V} : ∀ {vs : List Nat}, i ∈ vs → L2.wipe (σ.set i v) vs = L2.wipe σ vs
  | w :: vs, h => by
    unfold L2.wipe
    by_cases e : i ∈ vs
    · rw [wipe_set e]
    · have : i = w := by
        rcases List.mem_cons.mp h with h | h
        · exact h
        · exact absurd h e
      subst this
      have : ∀ vs : List Nat, i ∉ vs → L2.wipe (σ.set i v) vs = (L2.wipe σ vs).set i v := fun vs => by
        induction vs with
        | nil => intro _; rfl
        | cons u us ih =>
          intro hn
          simp only [List.mem_cons, not_or] at hn
          unfold L2.wipe
          rw [ih hn.2]
          exact List.set_comm _ _ hn.1
      rw [this vs e]
      simp
theorem wipe_idem {σ : L2.St} : ∀ {vs us : List Nat}, (∀ i ∈ us, i ∈ vs) → L2.wipe (L2.wipe σ us) vs = L2.wipe σ vs
  | vs, [], _ => rfl
  | vs, u :: us, h => by
    show L2.wipe ((L2.wipe σ us).set u none) vs = _
    rw [wipe_set (h u List.mem_cons_self)]
    exact wipe_idem fun i hi => h i (List.mem_cons_of_mem _ hi)
/-- a target's reading -/
def tgR (T : Tie) (t : Tg) : TG := fun v σ H Q => ∃ env S μ d env', EnvR H μ σ env ∧ SRel T H μ S ∧ RV H μ v d ∧ setTg t d env = some env' ∧ ∀ σ', EnvR H μ σ' env' → (∀ vs, (∀ i ∈ t.slots, i ∈ vs) → L2.wipe σ' vs = L2.wipe σ vs) → Q σ' H
def tgsR (T : Tie) (ts : List Tg) : TGs := fun vs σ H Q => ∃ env S μ ds env', EnvR H μ σ env ∧ SRel T H μ S ∧ RVs H μ vs ds ∧ setTgs ts ds env = some env' ∧ ∀ σ', EnvR H μ σ' env' → (∀ vs, (∀ i ∈ Tg.slotsL ts, i ∈ vs) → L2.wipe σ' vs = L2.wipe σ vs) → Q σ' H
theorem pg_imp {X : Cx} {e : Expr} {t t' : TG} (h : PG X e t) (i : ∀ v σ H Q, t' v σ H Q → t v σ H Q) : PG X e t' := ⟨fun pins s σ H v u Q I r q => h.run pins s σ H v u Q I r (i v σ H Q q)⟩
theorem pgs_imp {X : Cx} {e : List Expr} {t t' : TGs} (h : PGs X e t) (i : ∀ v σ H Q, t' v σ H Q → t v σ H Q) : PGs X e t' := ⟨fun pins s σ H v u Q I r q => h.run pins s σ H v u Q I r (i v σ H Q q)⟩
theorem g_name {i : Nat} {x : Str} (hN : X.N.Nodup) (hi : X.N[i]? = some x) (hx : Loc X.env.scope x) (hf : X.fn x = true ∨ X.env.scope.names.lookup x = some .local) : PG X (.Name x pos) (tgR T (.name i)) := by
  refine pg_imp (pg_name hN hi hx hf) fun v σ H Q ⟨env, S, μ, d, env', er, sr, rv, hs, q⟩ => ?_
  simp only [setTg] at hs
  cases hs
  exact q _ (er.set i rv) fun vs h => wipe_set (h i (by simp [Tg.slots]))
theorem gs_nil : PGs X [] (tgsR T []) := by
  refine pgs_imp pgs_nil fun v σ H Q ⟨env, S, μ, ds, env', er, sr, rv, hs, q⟩ => ?_
  cases ds with
  | nil =>
    cases rv
    simp only [setTgs] at hs
    cases hs
    exact ⟨rfl, q σ er fun _ _ => rfl⟩
  | cons d ds => simp [setTgs] at hs
theorem assignEach_cons {e : Expr} {es : List Expr} {env : PySem.Env} (h : noStar e = true) : assignEach (e :: es) env = (false, assign e env) :: assignEach es env := by
  cases e <;> first | rfl | (simp [noStar] at h)
theorem gs_cons {es : List Expr} {t : Tg} {ts : List Tg} (h1 : PG X e (tgR T t)) (h2 : PGs X es (tgsR T ts)) (hs : noStar e = true) : PGs X (e :: es) (tgsR T (t :: ts)) := by
  refine pgs_imp (pgs_cons h1 h2 (by rw [assignEach_cons hs]; rfl)) fun v σ H Q ⟨env, S, μ, ds, env', er, sr, rv, hs, q⟩ => ?_
  cases ds with
  | nil => simp [setTgs] at hs
  | cons d ds =>
    cases rv with
    | cons r rs =>
      simp only [setTgs] at hs
      split at hs
      · rename_i env1 h1
        refine ⟨_, _, rfl, env, S, μ, d, env1, er, sr, r, h1, fun σ1 er1 w1 => ?_⟩
        refine ⟨env1, S, μ, ds, env', er1, sr, rs, hs, fun σ2 er2 w2 => q σ2 er2 fun vs h => ?_⟩
        rw [w2 vs fun i hi => h i (by simp only [Tg.slotsL, List.mem_append]; exact .inr hi), w1 vs fun i hi => h i (by simp only [Tg.slotsL, List.mem_append]; exact .inl hi)]
      · cases hs
theorem assignEach_len : ∀ (es : List Expr) (env : PySem.Env), es.all noStar = true → (assignEach es env).length = es.length
  | [], _, _ => rfl
  | e :: es, env, h => by
    simp only [List.all_cons, Bool.and_eq_true] at h
    rw [assignEach_cons h.1]
    simp [assignEach_len es env h.2]
theorem assignEach_no : ∀ (es : List Expr) (env : PySem.Env), es.all noStar = true → (assignEach es env).findIdx? (·.1) = none
  | [], _, _ => rfl
  | e :: es, env, h => by
    simp only [List.all_cons, Bool.and_eq_true] at h
    rw [assignEach_cons h.1]
    simp [List.findIdx?_cons, assignEach_no es env h.2]
theorem setTgs_len : ∀ {ts : List Tg} {ds : List D} {env env' : Env}, setTgs ts ds env = some env' → ts.length = ds.length
  | [], [], _, _, _ => rfl
  | [], _ :: _, _, _, h => by simp [setTgs] at h
  | _ :: _, [], _, _, h => by simp [setTgs] at h
  | t :: ts, d :: ds, env, env', h => by
    simp only [setTgs] at h
    split at h
    · simp [setTgs_len h]
    · cases h
theorem g_tup {es : List Expr} {k : Nat} {ts : List Tg} (hc : X.calm = true) (h : PGs X es (tgsR T ts)) (hs : es.all noStar = true) (hl : es.length = ts.length) : PG X (.Tuple es k pos) (tgR T (.tup ts)) := by
  refine pg_imp (pg_tup hc h (assignEach_len es _ hs) (assignEach_no es _ hs)) fun v σ H Q ⟨env, S, μ, d, env', er, sr, rv, hs', q⟩ => ?_
  cases d with
  | tup ds =>
    simp only [setTg] at hs'
    obtain ⟨a, xs, rfl, h1, n1, q1⟩ := rv.tup_inv
    refine ⟨a, xs, rfl, .inl (.inl h1), by rw [q1.length, ← setTgs_len hs', hl], env, S, μ, ds, env', er, sr, q1, hs', fun σ' er' w => q σ' er' fun vs hv => w vs fun i hi => hv i (by simpa [Tg.slots] using hi)⟩
  | _ => simp [setTg] at hs'
/-! ### comprehensions -/
def STs (T : Tie) (P : Prog) (call : Call) (X : Cx) (W : WX) (es : List Expr) (x : List HW.T) : Prop := PTs X es (rd T BR (wn T W) (evalTs P call x))
theorem pts_imp {X : Cx} {e : List Expr} {t t' : TT} (h : PTs X e t) (i : ∀ σ H Q, t' σ H Q → t σ H Q) : PTs X e t' := ⟨fun pins s σ H Q I q => h.run pins s σ H Q I (i σ H Q q)⟩
theorem ts_nil : STs T P call X W [] [] := by
  refine pts_imp pts_nil fun σ H Q ⟨env, S, μ, er, sr, af⟩ => ?_
  simp only [evalTs] at af
  exact af.here true sr rfl
theorem ts_one {ta : HW.T} (ha : ST T P call X W a ta) : STs T P call X W [a] [ta] := by
  refine pts_imp (pts_one ha) fun σ H Q ⟨env, S, μ, er, sr, af⟩ => ?_
  simp only [evalTs] at af
  refine ⟨env, S, μ, er, sr, (Aft.bind (rel := BR) af).mono fun v H1 ⟨μ1, S1, d, e1, sr1, rv, a1⟩ => ?_⟩
  subst rv
  cases v with
  | true => rw [if_pos rfl] at a1; exact a1.here _ sr1 rfl
  | false => rw [if_neg (by decide)] at a1; exact a1.here _ sr1 rfl
theorem compL_len {own : List (Nat × List D)} {turn : D → Sto → R (Option D)} : ∀ {items acc : List D} {S S' : Sto} {ds : List D}, compL own turn items acc S = .ok ds S' → acc.length ≤ ds.length
  | [], acc, S, S', ds, h => by
    simp only [compL] at h
    split at h
    · cases h; exact Nat.le_refl _
    · cases h
  | d :: items, acc, S, S', ds, h => by
    simp only [compL] at h
    split at h
    · cases ht : turn d S with
      | ok o S1 =>
        rw [ht] at h
        simp only [R.bind] at h
        cases o with
        | some x => exact Nat.le_trans (by simp) (compL_len h)
        | none => exact compL_len h
      | exc c S1 => rw [ht] at h; cases h
      | bad => rw [ht] at h; cases h
    · cases h
abbrev W0 : WX := fun _ _ _ _ => False
theorem comp_imp {own : List (Str × Nat)} {xe : HW.X} {t : Tg} {xi : HW.It} {xts : List HW.T} (hsl : ∀ i ∈ t.slots, i ∈ own.map (·.2)) {σ : L2.St} {H : Hp} {Q : VK}
    (hrd : rd T RV (wn T W) (evalE P call (.comp xe t xi xts (own.map (·.2)))) σ H Q) :
    tLc (rd T (BearsR T) (wn T W) (evalI P call xi)) (tgR T t) (rd T BR (wn T W0) (evalTs P call xts)) (rd T RV (wn T W0) (evalE P call xe)) (own.map (·.2)) σ H Q := by
  obtain ⟨env, S, μ, er, sr, af⟩ := hrd
  simp only [evalE] at af
  refine ⟨env, S, μ, er, sr, (Aft.bind (rel := BearsR T) af).mono fun J H1 ⟨μ1, S1, src, e1, sr1, bear, a1⟩ => ?_⟩
  generalize hturn : (fun d S => match setTg t d (wipeE env (own.map (·.2))) with
        | some env' => (evalTs P call xts env' S).bind fun k S => if k = true then (evalE P call xe env' S).bind fun x S => R.ok (some x) S else R.ok none S
        | none => R.bad) = turn at a1
  intro D hD
  split at a1
  case h_2 => exact a1.elim
  rename_i ds S9 hcl
  split at a1
  case isFalse => exact a1.elim
  rename_i hlen
  have er1 : EnvR H1 μ1 (L2.wipe σ (own.map (·.2))) (wipeE env (own.map (·.2))) := (er.ext e1).wipe _
  refine ⟨fun i m H => m = src.items.length - i ∧ i ≤ src.items.length ∧ ∃ μ S acc accD, Ext H1 μ1 H ⟨μ.l, μ1.h⟩ ∧ μ.h = D :: μ1.h ∧ SRel T H μ S ∧ H D = some (.lst acc) ∧ RVs H μ acc accD ∧ compL src.own turn (src.items.drop i) accD S = .ok ds S9, ⟨src.items.length, by simp, Nat.zero_le _, ⟨μ1.l, D :: μ1.h⟩, S1, [], [], Ext.side hD, rfl, sr1.hide hD, upd_same, .nil, by simpa using hcl⟩, ?_⟩
  rintro i m H ⟨rfl, hi, μ, S, acc, accD, ex, hh, sr, hDl, ra, hq⟩
  have nD1 : D ∉ μ1 := sr1.fresh hD
  have hDh : D ∈ μ.h := by rw [hh]; exact List.mem_cons_self
  have nDl : D ∉ μ.l := (sr.hd D hDh).1
  have mv : Mv H1 μ1 H μ := ⟨fun a o h n => ⟨ex.keep a o h n, fun z => by
    rcases z with z | z
    · exact ex.out h n (.inl z)
    · rw [hh] at z
      rcases List.mem_cons.mp z with z | z
      · subst z; rw [hD] at h; cases h
      · exact n (.inr z)⟩, fun n a h => ex.get h⟩
  by_cases hlt : i < src.items.length
  · rw [List.drop_eq_getElem_cons hlt] at hq
    simp only [compL] at hq
    split at hq
    case isFalse => cases hq
    rename_i hst
    obtain ⟨bg, _⟩ := bear i H μ S mv sr hst
    obtain ⟨go, yl⟩ := bg _ (List.getElem?_eq_getElem hlt)
    refine .inr ⟨go, fun H' => ∃ μ S acc accD, Ext H1 μ1 H' ⟨μ.l, μ1.h⟩ ∧ μ.h = D :: μ1.h ∧ SRel T H' μ S ∧ H' D = some (.lst acc) ∧ RVs H' μ acc accD ∧ compL src.own turn (src.items.drop (i + 1)) accD S = .ok ds S9, fun H' z => ⟨_, by omega, rfl, hlt, z⟩, fun v H2 y => ?_⟩
    obtain ⟨ex2, sr2, rv2⟩ := yl v H2 y
    have er2 := (er1.move mv).ext ex2
    generalize src.items[i] = d at rv2 hq
    rw [← hturn] at hq
    cases hset : setTg t d (wipeE env (own.map (·.2))) with
    | none => simp only [hset, R.bind] at hq; cases hq
    | some env' =>
      simp only [hset] at hq
      refine ⟨_, S, μ, d, env', er2, sr2, rv2, hset, fun σ3 er3 w3 => ⟨by rw [w3 _ hsl]; exact wipe_idem fun i h => h, ?_⟩⟩
      -- the composed way from the beginning
      have step : ∀ {H3 : Hp} {μ3 : Mu}, Ext H2 μ H3 μ3 → Ext H1 μ1 H3 ⟨μ3.l, μ1.h⟩ ∧ μ3.h = D :: μ1.h ∧ H3 D = some (.lst acc) ∧ RVs H3 μ3 acc accD := fun {H3 μ3} e3 => by
        have e23 := ex2.trans e3
        refine ⟨⟨fun a o h n => ?_, ?_, fun a h => ?_⟩, by rw [e3.hh, hh], e23.kp D _ hDl nDl, ra.ext e23⟩
        · refine e23.kp a o (ex.kp a o h n) fun z => ?_
          rcases ex.new a z with z | z
          · exact n z
          · rw [z] at h; cases h
        · obtain ⟨m, hm⟩ := ex.grow
          obtain ⟨m', hm'⟩ := e3.grow
          have h1 : μ.l = μ1.l ++ m := congrArg Mu.l hm
          have h2 : μ3.l = μ.l ++ m' := congrArg Mu.l hm'
          refine ⟨m ++ m', ?_⟩
          show (⟨μ3.l, μ1.h⟩ : Mu) = ⟨μ1.l ++ (m ++ m'), μ1.h⟩
          rw [h2, h1, List.append_assoc]
        · have h : a ∈ μ3.l := h
          rcases e23.new a h with z | z
          · exact ex.new a z
          · by_cases q : a ∈ μ1.l
            · exact .inl q
            · refine .inr ?_
              cases w : H1 a with
              | none => rfl
              | some o => rw [ex.kp a o w q] at z; cases z
      refine ⟨env', S, μ, er3, sr2, ?_⟩
      cases hk : evalTs P call xts env' S with
      | bad => rw [hk] at hq; simp only [R.bind] at hq; cases hq
      | exc c S3 => rw [hk] at hq; simp only [R.bind] at hq; cases hq
      | ok k S3 =>
        rw [hk] at hq
        simp only [R.bind] at hq
        intro b H3 μ3 e3 sr3 rb
        have rb : b = k := rb
        subst rb
        cases b with
        | false =>
          rw [if_neg (by decide)]
          simp only [Bool.false_eq_true, if_false] at hq
          obtain ⟨x1, x2, x3, x4⟩ := step e3
          exact ⟨μ3, S3, acc, accD, x1, x2, sr3, x3, x4, by rw [← hturn]; exact hq⟩
        | true =>
          rw [if_pos rfl]
          simp only [if_true] at hq
          refine ⟨env', S3, μ3, er3.ext e3, sr3, ?_⟩
          cases hx : evalE P call xe env' S3 with
          | bad => rw [hx] at hq; simp only [R.bind] at hq; cases hq
          | exc c S4 => rw [hx] at hq; simp only [R.bind] at hq; cases hq
          | ok x S4 =>
            rw [hx] at hq
            simp only [R.bind] at hq
            intro y H4 μ4 e4 sr4 ry
            obtain ⟨x1, x2, x3, x4⟩ := step (e3.trans e4)
            have hl := compL_len hq
            simp only [List.length_append, List.length_cons, List.length_nil] at hl
            have hDh4 : D ∈ μ4.h := by rw [x2]; exact List.mem_cons_self
            refine ⟨acc, x3, ?_, μ4, S4, acc ++ [y], accD ++ [x], ?_, x2, sr4.hid hDh4, upd_same, (RVs.append x4 (.cons ry .nil)).move (Mv.hid hDh4), by rw [← hturn]; exact hq⟩
            · rw [x4.length, sizeLine_eq]
              have : ds.length ≤ 16777216 := hlen
              omega
            · refine ⟨fun a o h n => ?_, x1.grow, x1.new⟩
              rw [upd_ne (ne_of_none h hD)]
              exact x1.kp a o h n
  · have e : i = src.items.length := by omega
    subst e
    rw [List.drop_eq_nil_of_le (Nat.le_refl _)] at hq
    simp only [compL] at hq
    split at hq
    case isFalse => cases hq
    rename_i hst
    obtain ⟨_, bs⟩ := bear _ H μ S mv sr hst
    cases hq
    refine .inl ⟨bs rfl, ?_⟩
    have un : Mv H μ H ⟨μ.l, μ1.h⟩ := by
      have : μ = ⟨μ.l, D :: μ1.h⟩ := by rw [← hh]
      rw [this]
      exact Mv.unhide
    refine a1.ok (μ' := ⟨μ.l, μ1.h⟩) _ ex ?_ (.lst (.inl hDl) ?_ (ra.move un))
    · have : μ = ⟨μ.l, D :: μ1.h⟩ := by rw [← hh]
      rw [this] at sr
      exact sr.unhide
    · intro z
      rcases z with z | z
      · exact nDl z
      · exact nD1 (.inr z)
theorem compN_imp {own : List (Str × Nat)} {xe : HW.X} {t : Tg} {xi : HW.It} {xts : List HW.T} (hsl : ∀ i ∈ t.slots, i ∈ own.map (·.2)) {σ : L2.St} {H : Hp} {Q : VK}
    (hrd : rd T RV (wn T W) (evalE P call (.newC xe t xi xts (own.map (·.2)))) σ H Q) :
    tLc (rd T (BearsR T) (wn T W) (evalI P call xi)) (tgR T t) (rd T BR (wn T W0) (evalTs P call xts)) (rd T RV (wn T W0) (evalE P call xe)) (own.map (·.2)) σ H Q := by
  obtain ⟨env, S, μ, er, sr, af⟩ := hrd
  simp only [evalE] at af
  refine ⟨env, S, μ, er, sr, (Aft.bind (rel := BearsR T) af).mono fun J H1 ⟨μ1, S1, src, e1, sr1, bear, a1⟩ => ?_⟩
  generalize hturn : (fun d S => match setTg t d (wipeE env (own.map (·.2))) with
        | some env' => (evalTs P call xts env' S).bind fun k S => if k = true then (evalE P call xe env' S).bind fun x S => R.ok (some x) S else R.ok none S
        | none => R.bad) = turn at a1
  intro D hD
  split at a1
  case h_2 => exact a1.elim
  rename_i ds S9 hcl
  split at a1
  case isFalse => exact a1.elim
  rename_i hlen
  have er1 : EnvR H1 μ1 (L2.wipe σ (own.map (·.2))) (wipeE env (own.map (·.2))) := (er.ext e1).wipe _
  refine ⟨fun i m H => m = src.items.length - i ∧ i ≤ src.items.length ∧ ∃ μ S acc accD, Ext H1 μ1 H ⟨μ.l, μ1.h⟩ ∧ μ.h = D :: μ1.h ∧ SRel T H μ S ∧ H D = some (.lst acc) ∧ RVs H μ acc accD ∧ compL src.own turn (src.items.drop i) accD S = .ok ds S9, ⟨src.items.length, by simp, Nat.zero_le _, ⟨μ1.l, D :: μ1.h⟩, S1, [], [], Ext.side hD, rfl, sr1.hide hD, upd_same, .nil, by simpa using hcl⟩, ?_⟩
  rintro i m H ⟨rfl, hi, μ, S, acc, accD, ex, hh, sr, hDl, ra, hq⟩
  have nD1 : D ∉ μ1 := sr1.fresh hD
  have hDh : D ∈ μ.h := by rw [hh]; exact List.mem_cons_self
  have nDl : D ∉ μ.l := (sr.hd D hDh).1
  have mv : Mv H1 μ1 H μ := ⟨fun a o h n => ⟨ex.keep a o h n, fun z => by
    rcases z with z | z
    · exact ex.out h n (.inl z)
    · rw [hh] at z
      rcases List.mem_cons.mp z with z | z
      · subst z; rw [hD] at h; cases h
      · exact n (.inr z)⟩, fun n a h => ex.get h⟩
  by_cases hlt : i < src.items.length
  · rw [List.drop_eq_getElem_cons hlt] at hq
    simp only [compL] at hq
    split at hq
    case isFalse => cases hq
    rename_i hst
    obtain ⟨bg, _⟩ := bear i H μ S mv sr hst
    obtain ⟨go, yl⟩ := bg _ (List.getElem?_eq_getElem hlt)
    refine .inr ⟨go, fun H' => ∃ μ S acc accD, Ext H1 μ1 H' ⟨μ.l, μ1.h⟩ ∧ μ.h = D :: μ1.h ∧ SRel T H' μ S ∧ H' D = some (.lst acc) ∧ RVs H' μ acc accD ∧ compL src.own turn (src.items.drop (i + 1)) accD S = .ok ds S9, fun H' z => ⟨_, by omega, rfl, hlt, z⟩, fun v H2 y => ?_⟩
    obtain ⟨ex2, sr2, rv2⟩ := yl v H2 y
    have er2 := (er1.move mv).ext ex2
    generalize src.items[i] = d at rv2 hq
    rw [← hturn] at hq
    cases hset : setTg t d (wipeE env (own.map (·.2))) with
    | none => simp only [hset, R.bind] at hq; cases hq
    | some env' =>
      simp only [hset] at hq
      refine ⟨_, S, μ, d, env', er2, sr2, rv2, hset, fun σ3 er3 w3 => ⟨by rw [w3 _ hsl]; exact wipe_idem fun i h => h, ?_⟩⟩
      -- the composed way from the beginning
      have step : ∀ {H3 : Hp} {μ3 : Mu}, Ext H2 μ H3 μ3 → Ext H1 μ1 H3 ⟨μ3.l, μ1.h⟩ ∧ μ3.h = D :: μ1.h ∧ H3 D = some (.lst acc) ∧ RVs H3 μ3 acc accD := fun {H3 μ3} e3 => by
        have e23 := ex2.trans e3
        refine ⟨⟨fun a o h n => ?_, ?_, fun a h => ?_⟩, by rw [e3.hh, hh], e23.kp D _ hDl nDl, ra.ext e23⟩
        · refine e23.kp a o (ex.kp a o h n) fun z => ?_
          rcases ex.new a z with z | z
          · exact n z
          · rw [z] at h; cases h
        · obtain ⟨m, hm⟩ := ex.grow
          obtain ⟨m', hm'⟩ := e3.grow
          have h1 : μ.l = μ1.l ++ m := congrArg Mu.l hm
          have h2 : μ3.l = μ.l ++ m' := congrArg Mu.l hm'
          refine ⟨m ++ m', ?_⟩
          show (⟨μ3.l, μ1.h⟩ : Mu) = ⟨μ1.l ++ (m ++ m'), μ1.h⟩
          rw [h2, h1, List.append_assoc]
        · have h : a ∈ μ3.l := h
          rcases e23.new a h with z | z
          · exact ex.new a z
          · by_cases q : a ∈ μ1.l
            · exact .inl q
            · refine .inr ?_
              cases w : H1 a with
              | none => rfl
              | some o => rw [ex.kp a o w q] at z; cases z
      refine ⟨env', S, μ, er3, sr2, ?_⟩
      cases hk : evalTs P call xts env' S with
      | bad => rw [hk] at hq; simp only [R.bind] at hq; cases hq
      | exc c S3 => rw [hk] at hq; simp only [R.bind] at hq; cases hq
      | ok k S3 =>
        rw [hk] at hq
        simp only [R.bind] at hq
        intro b H3 μ3 e3 sr3 rb
        have rb : b = k := rb
        subst rb
        cases b with
        | false =>
          rw [if_neg (by decide)]
          simp only [Bool.false_eq_true, if_false] at hq
          obtain ⟨x1, x2, x3, x4⟩ := step e3
          exact ⟨μ3, S3, acc, accD, x1, x2, sr3, x3, x4, by rw [← hturn]; exact hq⟩
        | true =>
          rw [if_pos rfl]
          simp only [if_true] at hq
          refine ⟨env', S3, μ3, er3.ext e3, sr3, ?_⟩
          cases hx : evalE P call xe env' S3 with
          | bad => rw [hx] at hq; simp only [R.bind] at hq; cases hq
          | exc c S4 => rw [hx] at hq; simp only [R.bind] at hq; cases hq
          | ok x S4 =>
            rw [hx] at hq
            simp only [R.bind] at hq
            intro y H4 μ4 e4 sr4 ry
            obtain ⟨x1, x2, x3, x4⟩ := step (e3.trans e4)
            have hl := compL_len hq
            simp only [List.length_append, List.length_cons, List.length_nil] at hl
            have hDh4 : D ∈ μ4.h := by rw [x2]; exact List.mem_cons_self
            refine ⟨acc, x3, ?_, μ4, S4, acc ++ [y], accD ++ [x], ?_, x2, sr4.hid hDh4, upd_same, (RVs.append x4 (.cons ry .nil)).move (Mv.hid hDh4), by rw [← hturn]; exact hq⟩
            · rw [x4.length, sizeLine_eq]
              have : ds.length ≤ 16777216 := hlen
              omega
            · refine ⟨fun a o h n => ?_, x1.grow, x1.new⟩
              rw [upd_ne (ne_of_none h hD)]
              exact x1.kp a o h n
  · have e : i = src.items.length := by omega
    subst e
    rw [List.drop_eq_nil_of_le (Nat.le_refl _)] at hq
    simp only [compL] at hq
    split at hq
    case isFalse => cases hq
    rename_i hst
    obtain ⟨_, bs⟩ := bear _ H μ S mv sr hst
    cases hq
    refine .inl ⟨bs rfl, ?_⟩
    have mvN : Mv H μ H ⟨μ.l ++ [D], μ1.h⟩ := ⟨fun a o h n => ⟨h, fun z => by
      rcases z with z | z
      · rcases List.mem_append.mp z with z | z
        · exact n (.inl z)
        · simp at z; subst z; exact n (.inr hDh)
      · exact n (.inr (by rw [hh]; exact List.mem_cons_of_mem _ z))⟩, fun n a h => by
        have hlt := Mu.get_lt h
        show (μ.l ++ [D])[n]? = some a
        rw [List.getElem?_append_left hlt]
        exact h⟩
    have hn : (⟨μ.l ++ [D], μ1.h⟩ : Mu)[S9.length]? = some D := by
      show (μ.l ++ [D])[S9.length]? = some D
      rw [← sr.len]
      show (μ.l ++ [D])[μ.l.length]? = some D
      simp
    refine a1.ok (μ' := ⟨μ.l ++ [D], μ1.h⟩) _ ⟨fun a o h n => ex.kp a o h n, ?_, fun a h => ?_⟩ ⟨?_, ?_, fun b z => ?_, fun n b ob h1 h2 => ?_⟩ (.ref hn)
    · obtain ⟨m, hm⟩ := ex.grow
      have h1 : μ.l = μ1.l ++ m := congrArg Mu.l hm
      refine ⟨m ++ [D], ?_⟩
      show (⟨μ.l ++ [D], μ1.h⟩ : Mu) = ⟨μ1.l ++ (m ++ [D]), μ1.h⟩
      rw [h1, List.append_assoc]
    · have h : a ∈ μ.l ++ [D] := h
      rcases List.mem_append.mp h with h | h
      · exact ex.new a h
      · simp at h; subst h; exact .inr hD
    · show (μ.l ++ [D]).length = _
      have := sr.len
      simp only [List.length_append, List.length_cons, List.length_nil]
      show μ.l.length + 1 = S9.length + 1
      rw [show μ.l.length = S9.length from this]
    · refine List.nodup_append.mpr ⟨sr.nd, by simp, fun x hx y hy => ?_⟩
      simp at hy
      subst hy
      exact fun e => nDl (e ▸ hx)
    · obtain ⟨n1, w, e⟩ := sr.hd b (by rw [hh]; exact List.mem_cons_of_mem _ z)
      refine ⟨fun z' => ?_, w, e⟩
      have z' : b ∈ μ.l ++ [D] := z'
      rcases List.mem_append.mp z' with z' | z'
      · exact n1 z'
      · simp at z'
        exact nD1 (.inr (z' ▸ z))
    · by_cases hlt : n < μ.l.length
      · have h1' : (μ.l ++ [D])[n]? = some b := h1
        rw [List.getElem?_append_left hlt] at h1'
        rw [List.getElem?_append_left (by rw [← sr.len]; exact hlt)] at h2
        exact (sr.ob n b ob h1' h2).move mvN rfl
      · have h1' : (μ.l ++ [D])[n]? = some b := h1
        have hle : μ.l.length ≤ n := by omega
        rw [List.getElem?_append_right hle] at h1'
        have hsl : S9.length = μ.l.length := sr.len.symm
        rw [List.getElem?_append_right (by rw [hsl]; exact hle), hsl] at h2
        cases e : n - μ.l.length with
        | zero =>
          rw [e] at h1' h2
          simp at h1' h2
          subst h1'; subst h2
          exact ⟨acc, hDl, ra.move mvN⟩
        | succ m =>
          rw [e] at h1'
          simp at h1'
theorem s_comp {elt iter : Expr} {ifs : List Expr} {scope : Scope} {own : List (Str × Nat)} {xe : HW.X} {t : Tg} {xi : HW.It} {xts : List HW.T} (hc : X.calm = true) (hN : X.N.Nodup) (hi : SI T P call X W tg iter xi) (ok : BlkOk X.N X.env.scope scope own)
    (hg : ∀ (s : Shared) (H : Hp) (C : Addr) (cl : List (Str × Addr)) (fp : List Addr), PG (X.blk s H scope (compEnvC scope cl C X.env) fp) tg (tgR T t))
    (ht : ∀ (s : Shared) (H : Hp) (C : Addr) (cl : List (Str × Addr)) (fp : List Addr), STs T P call (X.blk s H scope (compEnvC scope cl C X.env) fp) W0 ifs xts)
    (he : ∀ (s : Shared) (H : Hp) (C : Addr) (cl : List (Str × Addr)) (fp : List Addr), SE T P call (X.blk s H scope (compEnvC scope cl C X.env) fp) W0 elt xe)
    (hsl : ∀ i ∈ t.slots, i ∈ own.map (·.2)) (hf : noSet iter = true) :
    SE T P call X W (.ListComp elt [⟨tg, iter, ifs, 0⟩] scope pos) (.comp xe t xi xts (own.map (·.2))) :=
  pe_imp (pe_lc hc hN hi ok hg ht he (fun x => no_fold hf _ _)) fun σ H Q h => comp_imp hsl h
theorem s_compN {elt iter : Expr} {ifs : List Expr} {scope : Scope} {own : List (Str × Nat)} {xe : HW.X} {t : Tg} {xi : HW.It} {xts : List HW.T} (hc : X.calm = true) (hN : X.N.Nodup) (hi : SI T P call X W tg iter xi) (ok : BlkOk X.N X.env.scope scope own)
    (hg : ∀ (s : Shared) (H : Hp) (C : Addr) (cl : List (Str × Addr)) (fp : List Addr), PG (X.blk s H scope (compEnvC scope cl C X.env) fp) tg (tgR T t))
    (ht : ∀ (s : Shared) (H : Hp) (C : Addr) (cl : List (Str × Addr)) (fp : List Addr), STs T P call (X.blk s H scope (compEnvC scope cl C X.env) fp) W0 ifs xts)
    (he : ∀ (s : Shared) (H : Hp) (C : Addr) (cl : List (Str × Addr)) (fp : List Addr), SE T P call (X.blk s H scope (compEnvC scope cl C X.env) fp) W0 elt xe)
    (hsl : ∀ i ∈ t.slots, i ∈ own.map (·.2)) (hf : noSet iter = true) :
    SE T P call X W (.ListComp elt [⟨tg, iter, ifs, 0⟩] scope pos) (.newC xe t xi xts (own.map (·.2))) :=
  pe_imp (pe_lc hc hN hi ok hg ht he (fun x => no_fold hf _ _)) fun σ H Q h => compN_imp hsl h
end
end HW
/-! enumerate, zip. -/
namespace HW
open PySem L2
set_option maxHeartbeats 1000000 in
theorem meets_enum1 {v : Value} {o : Obj} {H : Heap → Prop} (B : Begins v o H) :
    Meets (Builtin.«enumerate.__new__» ⟨[.type "enumerate", v], []⟩) (fun _ R s => H s.heap ∧
      R (.ok (.ret (.ref (s.heap.push o).objs.size))) { s with heap := (s.heap.push o).push { cls := .type "enumerate", data := .fields #[.none, .bool false, .ref s.heap.objs.size, rawInt 0, .none, .none] } }) :=
  .of_wp fun prog w A R s h => by
    obtain ⟨hp, g, d, tk, os⟩ := s; obtain ⟨h1, h⟩ := h
    have hsub := sub_enumerate
    have q1 : ∀ {A' : Around} {E : Value → Shared → Prop} {Q : Value → Shared → Prop}, Q (.ref hp.objs.size) ⟨hp.push o, g, d, tk, os⟩ → wpAny (model prog w) A' (pyIter v) Q E ⟨hp, g, d, tk, os⟩ :=
      fun q => B.iter prog w _ _ ⟨hp, g, d, tk, os⟩ _ h1 q
    wp_walk using q1
    refine wpAny_stack_any fun st => wpAny_pure ?_
    split
    · rename_i c _ _ _ _ _
      cases (c == Value.type "enumerate")
      · wp_walk using q1
        exact ⟨_, rfl, h⟩
      · wp_walk using q1
        exact ⟨_, rfl, h⟩
    · wp_walk using q1
      exact ⟨_, rfl, h⟩
section
variable {prog : Program} {w : World} {A : Around} {E : Value → Shared → Prop} {s : Shared}
theorem call_enum1 {v : Value} {o : Obj} {H : Heap → Prop} {Q : Value → Shared → Prop} (B : Begins v o H) (h1 : H s.heap)
    (h : ∀ h', IsEnum h' (s.heap.objs.size + 1) s.heap.objs.size 0 .none → h'.get? s.heap.objs.size = some o → h'.objs.size = s.heap.objs.size + 2 →
      (∀ b o, s.heap.get? b = some o → h'.get? b = some o) → Q (.ref (s.heap.objs.size + 1)) { s with heap := h' }) :
    wpAny (model prog w) A (call (.type "enumerate") [v]) Q E s := by
  refine callType_new F.called_enumerate (by decide) (F.typeCall_enumerate_1 _) (F.newCall_enumerate_1 _) (fun obj => F.args_object_init_2 obj _) F.entry_enumerate_new
    (meets_enum1 B) ⟨h1, ?_⟩
  have hz : (s.heap.push o).objs.size = s.heap.objs.size + 1 := Heap.size_push ..
  show _ ∧ _
  rw [hz]
  have he : IsEnum ((s.heap.push o).push { cls := .type "enumerate", data := .fields #[.none, .bool false, .ref s.heap.objs.size, rawInt 0, .none, .none] }) (s.heap.objs.size + 1) s.heap.objs.size 0 .none := by
    have := Heap.get?_push_size (s.heap.push o) (o := { cls := .type "enumerate", data := .fields #[.none, .bool false, .ref s.heap.objs.size, rawInt 0, .none, .none] }) rfl
    rw [hz] at this; exact this
  refine ⟨⟨_, he, rfl⟩, h _ he (Heap.get?_push_of_some _ (Heap.get?_push_size _ B.free)) (by rw [Heap.size_push, hz]) fun b o x => Heap.get?_push_of_some _ (Heap.get?_push_of_some _ x)⟩
end
/-- the tuple at a, each item in a new pair -/
def IteT (K : PySem.W.Frag) (a : Addr) : L2.It :=
  ⟨fun i H => ∃ (xs : List V) (x : V), SqT K H a xs ∧ xs[i]? = some x, fun i H v H' => ∃ T x, v = .ref T ∧ H T = none ∧ H' = upd H T (.tup [.int (i : Nat), x]) ∧ ∀ xs, SqT K H a xs → xs[i]? = some x, fun i H => ∃ xs : List V, SqT K H a xs ∧ xs.length = i⟩
/-- a text, each sign in a new pair -/
def IteS (x : Str) : L2.It :=
  ⟨fun i _ => i < x.cps.size, fun i H v H' => ∃ T c, v = .ref T ∧ H T = none ∧ x.cps[i]? = some c ∧ H' = upd H T (.tup [.int (i : Nat), .str ⟨#[c]⟩]), fun i _ => x.cps.size = i⟩
/-- a turn of an enumerate over what is drawn -/
theorem enum_item {X : Cx} {pins : List (Addr × Obj)} {s : Shared} {σ : L2.St} {H : Hp} {E : Value → Shared → Prop} {e it : Addr} {fp : List Addr} {n i : Nat} {Pd : Nat → Value → Prop} {St : Nat → Heap → Prop} {old : Value} {elts : List Expr} {kk : Nat} {tpos : Pos} {Q : V → Hp → Heap → Prop} {Gx : V → Prop}
    (I : Inv X pins σ H s) (hf : ∀ b ∈ [e, it], FpOk X pins H b) (Dr : Draws X.prog X.w X.A.in1 it fp n Pd St) (he : IsEnum s.heap e it (i : Nat) old) (hst : St i s.heap) (hlt : i < n) (hne : e ≠ it) (hef : e ∉ fp) (hil : it < s.heap.objs.size)
    (hv : ∀ u, Pd i u → ∃ x, RelV x u ∧ Gx x)
    (hq : ∀ (T : Addr) (x : V) (u : Value) (h' : Heap), Pd i u → Gx x → H T = none → St (i + 1) h' → Q (.ref T) (upd H T (.tup [.int (i : Nat), x])) h') :
    wpAny (model X.prog X.w) X.A (pyNext (.ref e)) (fun r s1 => ∃ u, r = some u ∧
      wpAny (model X.prog X.w) X.A (letOwnedTupleGo (.Tuple elts kk tpos) (.ref e) u) (fun _ s2 => ∃ x H', Inv X pins σ H' s2 ∧ RelV x u ∧ Q x H' s2.heap ∧ (∃ old, IsEnum s2.heap e it ((i + 1 : Nat) : Int) old) ∧ ∀ b ∈ [e, it], H' b = none) E s1) E s := by
  have hel : e < s.heap.objs.size := Heap.lt_size he
  refine wpAny_pyNext_enum_itemD Dr he hst hlt hne hef fun u h' tk hP ho hs' hT hsz hk => ?_
  obtain ⟨x, ru, gx⟩ := hv u hP
  refine ⟨_, rfl, wpAny_letOwnedTupleGo_enum (s := { s with heap := h', toks := tk + 1 }) ho fun h'' he' sb => ?_⟩
  have hT2 : h''.get? s.heap.objs.size = some { cls := .type "tuple", data := .seq #[.int i tk, u] } := (sb.2 _ (Nat.ne_of_gt hel)).trans hT
  have new : ObjOk X.prog X.w (upd H s.heap.objs.size (.tup [.int (i : Nat), x])) h'' s.heap.objs.size (.tup [.int (i : Nat), x]) :=
    ⟨by show 2 ≤ sizeLine; decide, [.int i tk, u], .cons ⟨_, rfl⟩ (.cons ru .nil), ⟨_, hT2, rfl, _, rfl⟩⟩
  have I1 : Inv X pins σ (upd H s.heap.objs.size (.tup [.int (i : Nat), x])) { s with heap := h'', toks := tk + 1 } :=
    I.turnedNew (ch := [e, it]) (fun b ob hb q => (sb.2 b (fun z => hb (by simp [z]))).trans (hk b ob (fun z => hb (by simp [z])) (fun z => hb (by simp [z])) q)) hf (Nat.le_refl _) new
  refine ⟨.ref s.heap.objs.size, _, I1, rfl, hq _ x u h'' hP gx (I.hok.fresh (Nat.le_refl _)) (Dr.frame _ _ _ hs' fun b hb o y => (sb.2 b fun q => hef (q ▸ hb)).trans y), ⟨u, ?_⟩, fun b hb => ?_⟩
  · have e1 : ((i + 1 : Nat) : Int) = (i : Int) + 1 := by omega
    rw [e1]; exact he'
  · have hb' : b < s.heap.objs.size := by
      have e' : b = e ∨ b = it := by simpa using hb
      rcases e' with z | z
      · rw [z]; exact hel
      · rw [z]; exact hil
    rw [upd_ne (Nat.ne_of_lt hb')]
    exact (hf b hb).1
theorem cls_ne {h : Heap} {a b : Addr} {o o' : Obj} {m n : String} (h1 : h.get? a = some o) (h2 : h.get? b = some o') (c1 : o.cls = .type m) (c2 : o'.cls = .type n) (hn : m ≠ n) : a ≠ b := fun e => by
  subst e
  rw [h1] at h2
  cases h2
  rw [c1] at c2
  cases c2
  exact hn rfl
theorem turn_enumT {P : Program} {w : World} {K : PySem.W.Frag} {elts : List Expr} {kk : Nat} {tpos : Pos} (a e it : Addr) :
    Turn P w K (.Tuple elts kk tpos) (IteT K a) [e, it] e (fun i h => (∃ old, IsEnum h e it ((i : Nat) : Int) old) ∧ h.IsTupleIter it a i ∧ e ≠ it) where
  mem := by simp
  obj := fun i h st b hb => by
    obtain ⟨⟨old, he⟩, ⟨o, ho, hc, hd⟩, _⟩ := st
    have e' : b = e ∨ b = it := by simpa using hb
    rcases e' with z | z
    · rw [z]; exact ⟨_, he, fun v q => nomatch q⟩
    · rw [z]; exact ⟨o, ho, fun v q => by rw [hd] at q; cases q⟩
  keep := fun i h h' st k => let ⟨⟨old, he⟩, hi, hne⟩ := st; ⟨⟨old, k e (by simp) _ he⟩, hi.at fun o q => k it (by simp) o q, hne⟩
  item := by
    intro X hP hw hK hc i pins s σ H E I hf st hg
    subst hP hw hK
    obtain ⟨⟨old, he⟩, hit, hne⟩ := st
    obtain ⟨xs, x, hq, hx⟩ := hg
    obtain ⟨its, rv, p, hz⟩ := I.tuple hq
    obtain ⟨u, hu, ru⟩ := rv.get hx
    obtain ⟨oi, ho, hci, hdi⟩ := id hit
    obtain ⟨oa, hoa, hca, _⟩ := id p
    have hai : a ≠ it := cls_ne hoa ho hca hci (by decide)
    have hae : e ≠ a := cls_ne he hoa rfl hca (by decide)
    have hlt : i < its.toArray.size := by
      have := (List.getElem?_eq_some_iff.mp hu).1
      simpa using this
    refine wpAny_mono (enum_item (Gx := fun y => y = x) (Q := fun v H' h' => (IteT X.K a).yld i H v H' ∧ h'.IsTupleIter it a (i + 1)) I hf (Draws.tuple (A := X.A.in1) (I.ok.hd hc) it a hai its.toArray) he ⟨hit, p⟩ hlt hne (by simp [hne, hae]) (Heap.lt_size ho) (fun u' h' => ⟨x, by
      have : u' = u := by simpa [hu] using h'.symm
      rw [this]; exact ru, rfl⟩) (fun T x' u' h' hPu gx hT hst => ⟨⟨T, x, rfl, hT, by rw [gx], fun ys hy => by rw [I.tuple_inj hy hq]; exact hx⟩, hst.1⟩)) (fun r s1 ⟨u, hr, h1⟩ => ⟨u, hr, wpAny_mono h1 (fun _ s2 ⟨x, H', I', rx, ⟨y, st'⟩, he', fr⟩ => ⟨x, H', I', rx, y, ⟨he', st', hne⟩, fr⟩) fun _ _ z => z⟩) fun _ _ z => z
  done := by
    intro X hP hw hK hc i pins s σ H E I hf st hg
    subst hP hw hK
    obtain ⟨⟨old, he⟩, hit, hne⟩ := st
    obtain ⟨xs, hq, hx⟩ := hg
    obtain ⟨its, rv, p, hz⟩ := I.tuple hq
    obtain ⟨oi, ho, hci, hdi⟩ := id hit
    obtain ⟨oa, hoa, hca, _⟩ := id p
    have hai : a ≠ it := cls_ne hoa ho hca hci (by decide)
    obtain ⟨f0, f1, f2, f3, f4, f5⟩ := hf it (by simp)
    have hl := rv.length
    have hi : i = its.toArray.size := by simp; omega
    subst hi
    exact wpAny_pyNext_enum_endD (Draws.tuple (A := X.A.in1) (I.ok.hd hc) it a hai its.toArray) he ⟨hit, p⟩ fun h' eb => ⟨rfl, I.turned (t' := s.toks) (fun b o hb q => eb b o hb q) f0 f1 f3 f4 f5⟩
  self := fun A i s Q E st h => let ⟨⟨_, he⟩, _⟩ := st; wpAny_pyIter_enum he h
theorem turn_enumS {P : Program} {w : World} {K : PySem.W.Frag} {elts : List Expr} {kk : Nat} {tpos : Pos} (x : Str) (t : Tok) (e it : Addr) :
    Turn P w K (.Tuple elts kk tpos) (IteS x) [e, it] e (fun i h => (∃ old, IsEnum h e it ((i : Nat) : Int) old) ∧ h.IsStrIter it (strIterType x) x t i ∧ e ≠ it) where
  mem := by simp
  obj := fun i h st b hb => by
    obtain ⟨⟨old, he⟩, ⟨o, ho, hc, hd⟩, _⟩ := st
    have e' : b = e ∨ b = it := by simpa using hb
    rcases e' with z | z
    · rw [z]; exact ⟨_, he, fun v q => nomatch q⟩
    · rw [z]; exact ⟨o, ho, fun v q => by rw [hd] at q; cases q⟩
  keep := fun i h h' st k => let ⟨⟨old, he⟩, ⟨o, ho, r⟩, hne⟩ := st; ⟨⟨old, k e (by simp) _ he⟩, ⟨o, k it (by simp) o ho, r⟩, hne⟩
  item := by
    intro X hP hw hK hc i pins s σ H E I hf st hg
    subst hP hw hK
    obtain ⟨⟨old, he⟩, hit, hne⟩ := st
    obtain ⟨oi, ho, hci, hdi⟩ := id hit
    refine wpAny_mono (enum_item (Gx := fun y => ∃ c, x.cps[i]? = some c ∧ y = .str ⟨#[c]⟩) (Q := fun v H' h' => (IteS x).yld i H v H' ∧ h'.IsStrIter it (strIterType x) x t (i + 1)) I hf (Draws.text (A := X.A.in1) (I.ok.hd hc) it x t) he hit hg hne (by simp [hne]) (Heap.lt_size ho) (fun u' h' => by
      obtain ⟨c, tu, hcx, rfl⟩ := h'
      exact ⟨.str ⟨#[c]⟩, ⟨tu, rfl⟩, c, hcx, rfl⟩) (fun T x' u' h' hPu gx hT hst => by
      obtain ⟨c, hcx, rfl⟩ := gx
      exact ⟨⟨T, c, rfl, hT, hcx, rfl⟩, hst⟩)) (fun r s1 ⟨u, hr, h1⟩ => ⟨u, hr, wpAny_mono h1 (fun _ s2 ⟨x, H', I', rx, ⟨y, st'⟩, he', fr⟩ => ⟨x, H', I', rx, y, ⟨he', st', hne⟩, fr⟩) fun _ _ z => z⟩) fun _ _ z => z
  done := by
    intro X hP hw hK hc i pins s σ H E I hf st hg
    subst hP hw hK
    obtain ⟨⟨old, he⟩, hit, hne⟩ := st
    obtain ⟨f0, f1, f2, f3, f4, f5⟩ := hf it (by simp)
    have hi : x.cps.size = i := hg
    subst hi
    exact wpAny_pyNext_enum_endD (Draws.text (A := X.A.in1) (I.ok.hd hc) it x t) he hit fun h' eb => ⟨rfl, I.turned (t' := s.toks) (fun b o hb q => eb b o hb q) f0 f1 f3 f4 f5⟩
  self := fun A i s Q E st h => let ⟨⟨_, he⟩, _⟩ := st; wpAny_pyIter_enum he h
def iEnumA (K : PySem.W.Frag) (te : TE) : TI := fun σ H R => te σ H fun v H1 => ∃ w, [v] = [w] ∧ ((∃ a xs, w = .ref a ∧ SqL K H1 a xs ∧ R (Ite K a) H1) ∨ (∃ a xs, w = .ref a ∧ SqT K H1 a xs ∧ R (IteT K a) H1) ∨ ∃ x, w = .str x ∧ R (IteS x) H1)
open PySem.Spec PyProof.Rows in
theorem pi_enumA {X : Cx} {e : Expr} {te : TE} {p pos tpos : Pos} {elts : List Expr} {kk : Nat} (hg : Gl X "enumerate") (hm : X.mg "enumerate" = none) (he : PE X e te) (hs : noStar e = true) :
    PI X (.Tuple elts kk tpos) (.Call (.Name "enumerate" p) [e] [] pos) (iEnumA X.K te) := by
  refine ⟨fun pins s σ H R I h => ?_⟩
  have ha : PA X [e] (fun σ H Q => te σ H fun x H1 => Q [x] H1) := pa_cons he pa_nil (star_cons hs [] _)
  have h' : te σ H fun v H1 => ∃ w, [v] = [w] ∧ ((∃ a xs, w = .ref a ∧ SqL X.K H1 a xs ∧ R (Ite X.K a) H1) ∨ (∃ a xs, w = .ref a ∧ SqT X.K H1 a xs ∧ R (IteT X.K a) H1) ∨ ∃ x, w = .str x ∧ R (IteS x) H1) := h
  refine Call_ (ld_blt I hg hm boot_enumerate (PyProof.Rows.callWith_type1 (thn (ha.run pos pins s σ H (fun vs H1 => ∃ v, vs = [v] ∧ ((∃ a xs, v = .ref a ∧ SqL X.K H1 a xs ∧ R (Ite X.K a) H1) ∨ (∃ a xs, v = .ref a ∧ SqT X.K H1 a xs ∧ R (IteT X.K a) H1) ∨ ∃ x, v = .str x ∧ R (IteS x) H1)) I h') fun us s1 ⟨vs, H1, I1, r1, q1⟩ => ?_) (star_cons hs [] _) rfl))
  obtain ⟨v, rfl, q1⟩ := q1
  have fresh2 : ∀ b ∈ [s1.heap.objs.size + 1, s1.heap.objs.size], FpOk X pins H1 b := fun b hb => by
    have e' : b = s1.heap.objs.size + 1 ∨ b = s1.heap.objs.size := by simpa using hb
    have hle : s1.heap.objs.size ≤ b := by
      rcases e' with z | z
      · rw [z]; exact Nat.le_add_right _ _
      · rw [z]; exact Nat.le_refl _
    exact I1.fpOk hle (I1.hok.fresh hle)
  cases r1 with
  | cons r rr =>
    cases rr
    rcases q1 with ⟨a, xs, rfl, hq, q⟩ | ⟨a, xs, rfl, hq, q⟩ | ⟨x, rfl, q⟩
    · cases r
      obtain ⟨its, rv, p', hz⟩ := I1.list hq
      refine call_enumerate_list p'.isList fun h' he hit hsz hk => wpAny_pyIter_enum he ?_
      have I2 : Inv X pins σ H1 { s1 with heap := h' } := I1.kept (t' := s1.toks) hk
      exact ⟨s1.heap.objs.size + 1, [s1.heap.objs.size + 1, s1.heap.objs.size], _, _, H1, rfl, I2, turn_enum a (s1.heap.objs.size + 1) s1.heap.objs.size, ⟨⟨.none, he⟩, hit, Nat.succ_ne_self _⟩, fresh2, q⟩
    · cases r
      obtain ⟨its, rv, p', hz⟩ := I1.tuple hq
      refine call_enum1 (begins_tuple a its.toArray) p' fun h' he ho hsz hk => wpAny_pyIter_enum he ?_
      have I2 : Inv X pins σ H1 { s1 with heap := h' } := I1.kept (t' := s1.toks) hk
      exact ⟨s1.heap.objs.size + 1, [s1.heap.objs.size + 1, s1.heap.objs.size], _, _, H1, rfl, I2, turn_enumT a (s1.heap.objs.size + 1) s1.heap.objs.size, ⟨⟨.none, he⟩, ⟨_, ho, rfl, rfl⟩, Nat.succ_ne_self _⟩, fresh2, q⟩
    · obtain ⟨t, rfl⟩ := r
      refine call_enum1 (begins_text x t) trivial fun h' he ho hsz hk => wpAny_pyIter_enum he ?_
      have I2 : Inv X pins σ H1 { s1 with heap := h' } := I1.kept (t' := s1.toks) hk
      exact ⟨s1.heap.objs.size + 1, [s1.heap.objs.size + 1, s1.heap.objs.size], _, _, H1, rfl, I2, turn_enumS x t (s1.heap.objs.size + 1) s1.heap.objs.size, ⟨⟨.none, he⟩, ⟨_, ho, rfl, rfl⟩, Nat.succ_ne_self _⟩, fresh2, q⟩
theorem enumFrom_get : ∀ (ds : List D) (n i : Nat), (enumFrom n ds)[i]? = (ds[i]?).map fun d => .tup [.int ((n + i : Nat) : Int), d]
  | [], _, _ => by simp [enumFrom]
  | d :: ds, n, 0 => by simp [enumFrom]
  | d :: ds, n, i + 1 => by
    simp only [enumFrom, List.getElem?_cons_succ, enumFrom_get ds (n + 1) i]
    congr 2
    funext d
    congr 3
    omega
theorem enumFrom_len : ∀ (ds : List D) (n : Nat), (enumFrom n ds).length = ds.length
  | [], _ => rfl
  | d :: ds, n => by simp [enumFrom, enumFrom_len ds]
theorem zipD_get : ∀ (x y : List D) (i : Nat) {d : D}, (zipD x y)[i]? = some d → ∃ a b, x[i]? = some a ∧ y[i]? = some b ∧ d = .tup [a, b]
  | [], _, _, _, h => by simp [zipD] at h
  | _ :: _, [], _, _, h => by simp [zipD] at h
  | a :: x, b :: y, 0, d, h => by simp [zipD] at h; exact ⟨a, b, rfl, rfl, h.symm⟩
  | a :: x, b :: y, i + 1, d, h => by
    obtain ⟨p, q, h1, h2, h3⟩ := zipD_get x y i (by simpa [zipD] using h)
    exact ⟨p, q, by simpa using h1, by simpa using h2, h3⟩
theorem zipD_len : ∀ (x y : List D), (zipD x y).length = min x.length y.length
  | [], _ => by simp [zipD]
  | _ :: _, [] => by simp [zipD]
  | a :: x, b :: y => by simp [zipD, zipD_len x y]
section
variable {T : Tie} {P : Prog} {call : Call} {X : Cx} {W : WX} {a b : Expr} {xa xb : HW.X} {pos p tpos : Pos} {elts : List Expr} {kk : Nat}
/-- how a list or tuple stays readable -/
theorem seq_stay {K : PySem.W.Frag} {H : Hp} {μ : Mu} {S : Sto} {v : V} {d : D} {ds : List D} (rv : RV H μ v d) (sr : SRel T H μ S) (h : listD S d = some ds) :
    ∃ a, v = .ref a ∧ ∀ H' μ' S', Mv H μ H' μ' → SRel T H' μ' S' → stay (ownD S d) S' = true → ∃ xs, SqL K H' a xs ∧ RVs H' μ' xs ds := by
  unfold listD at h
  cases d with
  | lst es =>
    simp only [vw] at h
    cases h
    obtain ⟨a, xs, rfl, h1, n1, q1⟩ := rv.lst_inv
    refine ⟨a, rfl, fun H' μ' S' m sr' _ => ⟨xs, .inl ?_, q1.move m⟩⟩
    rcases h1 with h | ⟨o, h⟩
    · exact .inl (m.k _ _ h n1).1
    · exact .inr ⟨o, (m.k _ _ h n1).1⟩
  | ref n =>
    simp only [vw] at h
    split at h
    · rename_i hd
      split at hd
      · rename_i es hs
        cases hd
        cases h
        obtain ⟨a, rfl, hn⟩ := rv.ref_inv
        refine ⟨a, rfl, fun H' μ' S' m sr' st => ?_⟩
        have hs' : S'[n]? = some (.lst ds) := by
          simp only [ownD, hs, stay, List.all_cons, List.all_nil, Bool.and_true] at st
          split at st
          · rename_i q; simp only [decide_eq_true_eq] at st; rw [q, st]
          · cases st
        obtain ⟨ys, e', q1'⟩ := sr'.ob _ _ _ (m.g _ _ hn) hs'
        exact ⟨ys, .inl (.inl e'), q1'⟩
      · cases hd
    · cases h
  | _ => simp [vw] at h
theorem tup_stay {K : PySem.W.Frag} {H : Hp} {μ : Mu} {v : V} {ds : List D} (rv : RV H μ v (.tup ds)) :
    ∃ a, v = .ref a ∧ ∀ H' μ', Mv H μ H' μ' → ∃ xs, SqT K H' a xs ∧ RVs H' μ' xs ds := by
  obtain ⟨a, xs, rfl, h1, n1, q1⟩ := rv.tup_inv
  exact ⟨a, rfl, fun H' μ' m => ⟨xs, .inl (.inl (m.k _ _ h1 n1).1), q1.move m⟩⟩
theorem i_enum (hg : Gl X "enumerate") (hm : X.mg "enumerate" = none) (ha : SE T P call X W a xa) (hs : noStar a = true) : SI T P call X W (.Tuple elts kk tpos) (.Call (.Name "enumerate" p) [a] [] pos) (.enum xa) := by
  refine pi_imp (pi_enumA hg hm ha hs) fun σ H Q ⟨env, S, μ, er, sr, af⟩ => ?_
  simp only [evalI] at af
  refine ⟨env, S, μ, er, sr, (Aft.bind (rel := RV) af).mono fun v H1 ⟨μ1, S1, d, e1, sr1, rv, a1⟩ => ⟨v, rfl, ?_⟩⟩
  try dsimp only at a1
  split at a1
  · rename_i ds hds
    have pair : ∀ {H : Hp} {μ : Mu} {S : Sto} {x : V} {d : D} {Tt : Addr} {i : Nat}, SRel T H μ S → H Tt = none → RV H μ x d → Ext H μ (upd H Tt (.tup [.int (i : Nat), x])) μ ∧ SRel T (upd H Tt (.tup [.int (i : Nat), x])) μ S ∧ RV (upd H Tt (.tup [.int (i : Nat), x])) μ (.ref Tt) (.tup [.int (i : Nat), d]) := fun {H μ S x d Tt i} sr hT rx =>
      ⟨Ext.side hT, sr.side hT, .tup upd_same (sr.fresh hT) (.cons (.int _) (.cons (rx.ext (Ext.side hT)) .nil))⟩
    rcases seq_cases hds with hl | ⟨rfl, ho⟩ | ⟨x, rfl, rfl, ho⟩
    · obtain ⟨a', rfl, st⟩ := seq_stay (K := X.K) rv sr1 hl
      obtain ⟨xs0, q0, _⟩ := st H1 μ1 S1 (Mv.refl _ _) sr1 (by
        cases d with
        | ref n =>
          simp only [ownD]
          cases q : S1[n]? with
          | none => rfl
          | some o => cases o <;> simp [stay, q]
        | _ => rfl)
      refine .inl ⟨a', xs0, rfl, q0, a1.here _ sr1 fun i H' μ' S' m sr' hst => ?_⟩
      obtain ⟨xs, q, r⟩ := st H' μ' S' m sr' hst
      refine ⟨fun d hd => ?_, fun hl => ⟨xs, q, by rw [r.length]; rw [enumFrom_len] at hl; omega⟩⟩
      have hd : (enumFrom 0 ds)[i]? = some d := hd
      rw [enumFrom_get] at hd
      cases hx : ds[i]? with
      | none => rw [hx] at hd; cases hd
      | some d' =>
        rw [hx] at hd
        cases hd
        obtain ⟨x, hx1, rx⟩ := r.get hx
        refine ⟨⟨xs, x, q, hx1⟩, fun v H2 y => ?_⟩
        obtain ⟨Tt, x', rfl, hT, rfl, y⟩ := y
        have := y xs q
        rw [hx1] at this
        cases this
        have := pair (i := i) sr' hT rx
        rw [Nat.zero_add]
        exact this
    · obtain ⟨a', rfl, st⟩ := tup_stay (K := X.K) rv
      obtain ⟨xs0, q0, _⟩ := st H1 μ1 (Mv.refl _ _)
      rw [ho] at a1
      refine .inr (.inl ⟨a', xs0, rfl, q0, a1.here _ sr1 fun i H' μ' S' m sr' hst => ?_⟩)
      obtain ⟨xs, q, r⟩ := st H' μ' m
      refine ⟨fun d hd => ?_, fun hl => ⟨xs, q, by rw [r.length]; rw [enumFrom_len] at hl; omega⟩⟩
      have hd : (enumFrom 0 ds)[i]? = some d := hd
      rw [enumFrom_get] at hd
      cases hx : ds[i]? with
      | none => rw [hx] at hd; cases hd
      | some d' =>
        rw [hx] at hd
        cases hd
        obtain ⟨x, hx1, rx⟩ := r.get hx
        refine ⟨⟨xs, x, q, hx1⟩, fun v H2 y => ?_⟩
        obtain ⟨Tt, x', rfl, hT, rfl, y⟩ := y
        have := y xs q
        rw [hx1] at this
        cases this
        have := pair (i := i) sr' hT rx
        rw [Nat.zero_add]
        exact this
    · obtain ⟨rfl, ok⟩ := rv.str_inv
      rw [ho] at a1
      refine .inr (.inr ⟨sOf x, rfl, a1.here _ sr1 fun i H' μ' S' m sr' hst => ⟨fun d hd => ?_, fun hl => ?_⟩⟩)
      · have hd : (enumFrom 0 (x.map fun c => .str [c]))[i]? = some d := hd
        rw [enumFrom_get, List.getElem?_map] at hd
        cases hx : x[i]? with
        | none => rw [hx] at hd; cases hd
        | some c =>
          rw [hx] at hd
          cases hd
          have hi : i < x.length := (List.getElem?_eq_some_iff.mp hx).1
          refine ⟨by show i < (sOf x).cps.size; simpa using hi, fun v H2 y => ?_⟩
          obtain ⟨Tt, c', rfl, hT, hc', rfl⟩ := y
          have e2 : (sOf x).cps[i]? = some c := by simpa using hx
          rw [e2] at hc'
          cases hc'
          have := pair (i := i) (x := .str ⟨#[c]⟩) (d := .str [c]) sr' hT (.str [c] (cpsOk_mk (by intro k hk; simp at hk; subst hk; exact cpsOk_mem ok _ (List.mem_of_getElem? hx)) (by show 1 ≤ 16777216; decide)))
          rw [Nat.zero_add]
          exact this
      · rw [enumFrom_len] at hl
        show (sOf x).cps.size = i
        simpa using hl
  · exact a1.elim
theorem own_stay (S : Sto) (d : D) : stay (ownD S d) S = true := by
  cases d with
  | ref n =>
    simp only [ownD]
    cases q : S[n]? with
    | none => rfl
    | some o => cases o <;> simp [stay, q]
  | _ => rfl
theorem stay_app {x y : List (Nat × List D)} {S : Sto} (h : stay (x ++ y) S = true) : stay x S = true ∧ stay y S = true := by
  unfold stay at *
  simpa using h
theorem items_cases {S : Sto} {d : D} {ds : List D} (h : itemsD S d = some ds) : (listD S d = some ds ∧ isT d = false) ∨ (d = .tup ds ∧ ownD S d = []) := by
  unfold itemsD at h
  unfold listD
  cases d with
  | tup es => simp only [vw] at h; cases h; exact .inr ⟨rfl, rfl⟩
  | lst es => simp only [vw] at h ⊢; exact .inl ⟨h, rfl⟩
  | ref n =>
    simp only [vw] at h ⊢
    cases q : S[n]? with
    | none => simp [q] at h
    | some o =>
      simp only [q] at h ⊢
      cases o with
      | lst es => exact .inl ⟨h, rfl⟩
      | _ => simp at h
  | _ => simp [vw] at h
theorem i_zip (hg : Gl X "zip") (hm : X.mg "zip" = none) (ha : SE T P call X W a xa) (hb : SE T P call X W b xb) (hs : noStar a = true) (hs2 : noStar b = true) : SI T P call X W (.Tuple elts kk tpos) (.Call (.Name "zip" p) [a, b] [] pos) (.zip xa xb) := by
  have hA : PA X [a, b] (tCons (rd T RV (wn T W) (evalE P call xa)) (tCons (rd T RV (wn T W) (evalE P call xb)) tNil)) := pa_cons ha (pa_cons hb pa_nil (star_cons hs2 [] _)) (star_cons hs _ _)
  refine pi_imp (RZ.pi_zipA hg hm hA (star_cons hs _ _) (by rw [star_cons hs2]; rfl)) fun σ H Q ⟨env, S, μ, er, sr, af⟩ => ?_
  simp only [evalI] at af
  refine ⟨env, S, μ, er, sr, (Aft.bind (rel := RV) af).mono fun v H1 ⟨μ1, S1, d1, e1, sr1, rv, a1⟩ => ?_⟩
  refine ⟨env, S1, μ1, er.ext e1, sr1, (Aft.bind (rel := RV) a1).mono fun u H2 ⟨μ2, S2, d2, e2, sr2, rv2, a2⟩ => ?_⟩
  try dsimp only at a2
  have rv1 := rv.ext e2
  split at a2
  case h_2 => exact a2.elim
  rename_i x y hx hy
  split at a2
  case isFalse => exact a2.elim
  rename_i hk
  have pair : ∀ {H : Hp} {μ : Mu} {S : Sto} {x y : V} {d e : D} {Tt : Addr}, SRel T H μ S → H Tt = none → RV H μ x d → RV H μ y e → Ext H μ (upd H Tt (.tup [x, y])) μ ∧ SRel T (upd H Tt (.tup [x, y])) μ S ∧ RV (upd H Tt (.tup [x, y])) μ (.ref Tt) (.tup [d, e]) := fun {H μ S x y d e Tt} sr hT rx ry =>
    ⟨Ext.side hT, sr.side hT, .tup upd_same (sr.fresh hT) (.cons (rx.ext (Ext.side hT)) (.cons (ry.ext (Ext.side hT)) .nil))⟩
  rcases items_cases hx with ⟨hl1, t1⟩ | ⟨rfl, o1⟩
  · rcases items_cases hy with ⟨hl2, t2⟩ | ⟨rfl, o2⟩
    · obtain ⟨a', rfl, st⟩ := seq_stay (K := X.K) rv1 sr2 hl1
      obtain ⟨b', rfl, st2⟩ := seq_stay (K := X.K) rv2 sr2 hl2
      obtain ⟨xs0, q0, _⟩ := st H2 μ2 S2 (Mv.refl _ _) sr2 (own_stay _ _)
      obtain ⟨ys0, q0', _⟩ := st2 H2 μ2 S2 (Mv.refl _ _) sr2 (own_stay _ _)
      refine ⟨a', b', xs0, ys0, rfl, .inl ⟨q0, q0', a2.here _ sr2 fun i H' μ' S' m sr' hst => ?_⟩⟩
      obtain ⟨s1, s2⟩ := stay_app hst
      obtain ⟨xs, q, r⟩ := st H' μ' S' m sr' s1
      obtain ⟨ys, q', r'⟩ := st2 H' μ' S' m sr' s2
      refine ⟨fun d hd => ?_, fun hl => ⟨xs, ys, q, q', by
        have hl : (zipD x y).length = i := hl
        rw [zipD_len] at hl
        rw [r.length, r'.length]; omega⟩⟩
      obtain ⟨p1, p2, h1, h2, rfl⟩ := zipD_get x y i hd
      obtain ⟨v1, hv1, rr1⟩ := r.get h1
      obtain ⟨v2, hv2, rr2⟩ := r'.get h2
      refine ⟨⟨xs, ys, v1, v2, q, q', hv1, hv2⟩, fun v H2 y => ?_⟩
      obtain ⟨Tt, x', y', rfl, hT, rfl, z1, z2⟩ := y
      have z1 := z1 xs q
      have z2 := z2 ys q'
      rw [hv1] at z1
      rw [hv2] at z2
      cases z1
      cases z2
      exact pair sr' hT rr1 rr2
    · rw [t1] at hk; simp [isT] at hk
  · rcases items_cases hy with ⟨hl2, t2⟩ | ⟨rfl, o2⟩
    · rw [t2] at hk; simp [isT] at hk
    · obtain ⟨a', rfl, st⟩ := tup_stay (K := X.K) rv1
      obtain ⟨b', rfl, st2⟩ := tup_stay (K := X.K) rv2
      obtain ⟨xs0, q0, _⟩ := st H2 μ2 (Mv.refl _ _)
      obtain ⟨ys0, q0', _⟩ := st2 H2 μ2 (Mv.refl _ _)
      refine ⟨a', b', xs0, ys0, rfl, .inr ⟨q0, q0', a2.here _ sr2 fun i H' μ' S' m sr' hst => ?_⟩⟩
      obtain ⟨xs, q, r⟩ := st H' μ' m
      obtain ⟨ys, q', r'⟩ := st2 H' μ' m
      refine ⟨fun d hd => ?_, fun hl => ⟨xs, ys, q, q', by
        have hl : (zipD x y).length = i := hl
        rw [zipD_len] at hl
        rw [r.length, r'.length]; omega⟩⟩
      obtain ⟨p1, p2, h1, h2, rfl⟩ := zipD_get x y i hd
      obtain ⟨v1, hv1, rr1⟩ := r.get h1
      obtain ⟨v2, hv2, rr2⟩ := r'.get h2
      refine ⟨⟨xs, ys, v1, v2, q, q', hv1, hv2⟩, fun v H2 y => ?_⟩
      obtain ⟨Tt, x', y', rfl, hT, rfl, z1, z2⟩ := y
      have z1 := z1 xs q
      have z2 := z2 ys q'
      rw [hv1] at z1
      rw [hv2] at z2
      cases z1
      cases z2
      exact pair sr' hT rr1 rr2
end
end HW
/-! Statements. -/
namespace HW
open PySem L2
/-- behind a statement -/
def AftS (T : Tie) (W : WN) (H : Hp) (μ : Mu) (o : O) (D : Ends) : Prop :=
  match o with
  | .next env S => ∀ σ' H' μ', Ext H μ H' μ' → SRel T H' μ' S → EnvR H' μ' σ' env → D.nx σ' H'
  | .brk env S => ∀ σ' H' μ', Ext H μ H' μ' → SRel T H' μ' S → EnvR H' μ' σ' env → D.bk σ' H'
  | .cont env S => ∀ σ' H' μ', Ext H μ H' μ' → SRel T H' μ' S → EnvR H' μ' σ' env → D.ct σ' H'
  | .ret d S => ∀ v H' μ', Ext H μ H' μ' → SRel T H' μ' S → RV H' μ' v d → D.rt v H'
  | .exc c env S => ∀ σ' H' μ', Ext H μ H' μ' → SRel T H' μ' S → EnvR H' μ' σ' env → W c σ' H'
  | .bad => False
def rdS (T : Tie) (W : WN) (r : Env → Sto → O) : TS := fun D σ H => ∃ env S μ, EnvR H μ σ env ∧ SRel T H μ S ∧ AftS T W H μ (r env S) D
def SS (T : Tie) (P : Prog) (call : Call) (X : Cx) (W : WX) (e : Stmt) (x : HW.St) : Prop := PS X e (rdS T (wn T W) (execS P call x))
def SSs (T : Tie) (P : Prog) (call : Call) (X : Cx) (W : WX) (e : List Stmt) (x : List HW.St) : Prop := PSs X e (rdS T (wn T W) (execs P call x))
section
variable {T : Tie} {P : Prog} {call : Call} {X : Cx} {W : WX} {w : WN} {a b d e tg o i : Expr} {xa xb xd xo xi : HW.X} {pos p : Pos} {H H1 : Hp} {μ μ1 : Mu} {D D' : Ends} {σ : L2.St} {env : Env} {S : Sto}
theorem AftS.ext {r : O} (h : AftS T w H μ r D) (e : Ext H μ H1 μ1) : AftS T w H1 μ1 r D := by
  cases r with
  | next env S => exact fun v H' μ' f s x => h v H' μ' (e.trans f) s x
  | brk env S => exact fun v H' μ' f s x => h v H' μ' (e.trans f) s x
  | cont env S => exact fun v H' μ' f s x => h v H' μ' (e.trans f) s x
  | ret d S => exact fun v H' μ' f s x => h v H' μ' (e.trans f) s x
  | exc c env S => exact fun v H' μ' f s x => h v H' μ' (e.trans f) s x
  | bad => exact h
/-- from an expression's part to the rest of the statement -/
theorem AftS.stm {α β : Type} {rel : VR α β} {r : R α} {f : α → Sto → O} (er : EnvR H μ σ env) (h : AftS T w H μ (r.stm env f) D) :
    Aft T rel (fun c H' => w c σ H') H μ r (fun v H1 => ∃ μ1 S1 d, Ext H μ H1 μ1 ∧ SRel T H1 μ1 S1 ∧ rel H1 μ1 v d ∧ EnvR H1 μ1 σ env ∧ AftS T w H1 μ1 (f d S1) D) := by
  cases r with
  | ok d S => exact fun v H' μ' e s x => ⟨μ', S, d, e, s, x, er.ext e, AftS.ext (r := f d S) h e⟩
  | exc c S => exact fun H' μ' e s => h σ H' μ' e s (er.ext e)
  | bad => exact h
theorem AftS.nx {H' : Hp} {μ' : Mu} (h : AftS T w H μ (.next env S) D) (σ' : L2.St) (e : Ext H μ H' μ') (s : SRel T H' μ' S) (x : EnvR H' μ' σ' env) : D.nx σ' H' := h σ' H' μ' e s x
theorem ss_nope {e : Stmt} : SS T P call X W e .nope := ⟨fun _ _ _ _ _ _ ⟨_, _, _, _, _, af⟩ => by simp only [execS] at af; exact af.elim⟩
theorem ss_pass : SS T P call X W (.Pass pos) .pass := by
  refine ps_imp ps_pass fun D σ H ⟨env, S, μ, er, sr, af⟩ => ?_
  simp only [execS] at af
  exact af.nx σ (Ext.refl _ _) sr er
theorem ss_doc {x j pos pos'} : SS T P call X W (.Expr (.Constant (.str x) j pos) pos') .pass := by
  refine ps_imp ps_doc fun D σ H ⟨env, S, μ, er, sr, af⟩ => ?_
  simp only [execS] at af
  exact af.nx σ (Ext.refl _ _) sr er
theorem ss_brk : SS T P call X W (.Break pos) .brk := by
  refine ps_imp ps_break fun D σ H ⟨env, S, μ, er, sr, af⟩ => ?_
  simp only [execS] at af
  exact af σ H μ (Ext.refl _ _) sr er
theorem ss_cont : SS T P call X W (.Continue pos) .cont := by
  refine ps_imp ps_continue fun D σ H ⟨env, S, μ, er, sr, af⟩ => ?_
  simp only [execS] at af
  exact af σ H μ (Ext.refl _ _) sr er
theorem ss_expr (ha : SE T P call X W a xa) (hs : noComp a = true) : SS T P call X W (.Expr a pos) (.expr xa) := by
  refine ps_imp (ps_expr ha (no_swap hs _ _ _)) fun D σ H ⟨env, S, μ, er, sr, af⟩ => ?_
  simp only [execS] at af
  exact ⟨env, S, μ, er, sr, (AftS.stm (rel := RV) er af).mono fun v H1 ⟨μ1, S1, d, e1, sr1, rv, er1, a1⟩ => a1.nx σ (Ext.refl _ _) sr1 er1⟩
theorem ss_ret (ha : SE T P call X W a xa) : SS T P call X W (.Return (some a) pos) (.ret xa) := by
  refine ps_imp (ps_ret ha) fun D σ H ⟨env, S, μ, er, sr, af⟩ => ?_
  simp only [execS] at af
  exact ⟨env, S, μ, er, sr, (AftS.stm (rel := RV) er af).mono fun v H1 ⟨μ1, S1, d, e1, sr1, rv, er1, a1⟩ => a1 v H1 μ1 (Ext.refl _ _) sr1 rv⟩
theorem ss_retN : SS T P call X W (.Return none pos) .retN := by
  refine ps_imp ps_retN fun D σ H ⟨env, S, μ, er, sr, af⟩ => ?_
  simp only [execS] at af
  exact af .non H μ (Ext.refl _ _) sr .non
theorem ss_if {c : Expr} {tc : HW.T} {p q : List Stmt} {xp xq : List HW.St} (hc : ST T P call X W c tc) (ha : SSs T P call X W p xp) (hb : SSs T P call X W q xq) : SS T P call X W (.If c p q pos) (.ite tc xp xq) := by
  refine ps_imp (ps_if hc ha hb) fun D σ H ⟨env, S, μ, er, sr, af⟩ => ?_
  simp only [execS] at af
  refine ⟨env, S, μ, er, sr, (AftS.stm (rel := BR) er af).mono fun v H1 ⟨μ1, S1, d, e1, sr1, rv, er1, a1⟩ => ?_⟩
  subst rv
  cases v with
  | true => rw [if_pos rfl] at a1 ⊢; exact ⟨env, S1, μ1, er1, sr1, a1⟩
  | false => rw [if_neg (by decide)] at a1 ⊢; exact ⟨env, S1, μ1, er1, sr1, a1⟩
theorem sss_nil : SSs T P call X W [] [] := by
  refine pss_imp pss_nil fun D σ H ⟨env, S, μ, er, sr, af⟩ => ?_
  simp only [execs] at af
  exact af.nx σ (Ext.refl _ _) sr er
theorem sss_cons {st : Stmt} {sts : List Stmt} {x : HW.St} {xs : List HW.St} (h1 : SS T P call X W st x) (h2 : SSs T P call X W sts xs) : SSs T P call X W (st :: sts) (x :: xs) := by
  refine pss_imp (pss_cons h1 h2) fun D σ H ⟨env, S, μ, er, sr, af⟩ => ?_
  simp only [execs] at af
  refine ⟨env, S, μ, er, sr, ?_⟩
  cases hr : execS P call x env S with
  | next env1 S1 =>
    rw [hr] at af
    exact fun σ1 H1 μ1 e1 sr1 er1 => ⟨env1, S1, μ1, er1, sr1, AftS.ext (r := execs P call xs env1 S1) af e1⟩
  | brk env1 S1 => rw [hr] at af; exact af
  | cont env1 S1 => rw [hr] at af; exact af
  | ret d S1 => rw [hr] at af; exact af
  | exc c env1 S1 => rw [hr] at af; exact af
  | bad => rw [hr] at af; exact af
/-! ### assignments -/
theorem ss_asg {t : Tg} (ha : SE T P call X W a xa) (hg : PG X tg (tgR T t)) (hs : swapsWithSole [tg] a pos.line X.env = pure false) (hw : swappedStores [tg] a X.env = pure none) (hn : noStar tg = true) : SS T P call X W (.Assign [tg] a pos) (.asg t xa) := by
  refine ps_imp (ps_asg ha hg hs hw (by rw [assignEach_cons hn]; rfl)) fun D σ H ⟨env, S, μ, er, sr, af⟩ => ?_
  simp only [execS] at af
  refine ⟨env, S, μ, er, sr, (AftS.stm (rel := RV) er af).mono fun v H1 ⟨μ1, S1, d, e1, sr1, rv, er1, a1⟩ => ?_⟩
  try dsimp only at a1
  split at a1
  · rename_i env' hset
    exact ⟨env, S1, μ1, d, env', er1, sr1, rv, hset, fun σ' er' _ => a1.nx σ' (Ext.refl _ _) sr1 er'⟩
  · exact a1.elim
theorem ss_set {n : Nat} {x : Str} {p : Pos} (hN : X.N.Nodup) (hi : X.N[n]? = some x) (hx : Loc X.env.scope x) (hf : X.fn x = true ∨ X.env.scope.names.lookup x = some .local) (ha : SE T P call X W a xa) (hs : swapsWith a (some (.Name x p)) pos.line X.env = pure false) :
    SS T P call X W (.Assign [.Name x p] a pos) (.asg (.name n) xa) := by
  refine ps_imp (ps_set hN hi hx ha hs hf) fun D σ H ⟨env, S, μ, er, sr, af⟩ => ?_
  simp only [execS, setTg] at af
  refine ⟨env, S, μ, er, sr, (AftS.stm (rel := RV) er af).mono fun v H1 ⟨μ1, S1, d, e1, sr1, rv, er1, a1⟩ => ?_⟩
  exact a1.nx _ (Ext.refl _ _) sr1 (er1.set n rv)
theorem ss_par {i j : Nat} {x y : Str} {px py pt : Pos} {kt k2 pt2} (hc : X.calm = true) (hN : X.N.Nodup) (hi : X.N[i]? = some x) (hj : X.N[j]? = some y) (hij : i ≠ j)
    (hx : X.env.scope.names.lookup x = some .local) (hy : X.env.scope.names.lookup y = some .local) (ha : SE T P call X W a xa) (hb : SE T P call X W b xb) (sa : noStar a = true) (sb : noStar b = true)
    (hw : swappedStores [.Tuple [.Name x px, .Name y py] kt pt] (.Tuple [a, b] k2 pt2) X.env = pure (some [x, y])) :
    SS T P call X W (.Assign [.Tuple [.Name x px, .Name y py] kt pt] (.Tuple [a, b] k2 pt2) pos) (.asg (.tup [.name i, .name j]) (.tup [xa, xb])) := by
  have hA : PA X [a, b] (rd T RVs (wn T W) (evalL P call [xa, xb])) := a_cons ha (a_cons hb a_nil (star_cons sb [] _)) (star_cons sa _ _)
  refine ps_imp (ps_par hc hN hi hj hij hx hy hA hw) fun D σ H ⟨env, S, μ, er, sr, af⟩ => ?_
  simp only [execS, evalE] at af
  have e0 : ∀ (r : R (List HW.D)) (f : List HW.D → Sto → R HW.D) (g : HW.D → Sto → O), (r.bind f).stm env g = r.stm env fun x S => (f x S).stm env g := fun r f g => by cases r <;> rfl
  rw [e0] at af
  refine ⟨env, S, μ, er, sr, (AftS.stm (rel := RVs) er af).mono fun v H1 ⟨μ1, S1, ds, e1, sr1, rv, er1, a1⟩ => ?_⟩
  try dsimp only at a1
  split at a1
  · simp only [R.stm_ok, setTg] at a1
    split at a1
    · rename_i env' hset
      match ds, rv with
      | [], _ => simp [setTgs] at hset
      | [_], _ => simp [setTgs, setTg] at hset
      | [d1, d2], .cons r1 (.cons r2 .nil) =>
        simp only [setTgs, setTg] at hset
        cases hset
        exact ⟨_, _, rfl, a1.nx _ (Ext.refl _ _) sr1 ((er1.set i r1).set j r2)⟩
      | _ :: _ :: _ :: _, _ => simp [setTgs, setTg] at hset
    · exact a1.elim
  · exact a1.elim
theorem ss_par3 {i j l : Nat} {x y z : Str} {px py pz pt : Pos} {kt k2 pt2} (hc : X.calm = true) (hN : X.N.Nodup) (hi : X.N[i]? = some x) (hj : X.N[j]? = some y) (hl : X.N[l]? = some z) (hij : i ≠ j) (hil : i ≠ l) (hjl : j ≠ l)
    (hx : X.env.scope.names.lookup x = some .local) (hy : X.env.scope.names.lookup y = some .local) (hz : X.env.scope.names.lookup z = some .local) (ha : SE T P call X W a xa) (hb : SE T P call X W b xb) (hd : SE T P call X W d xd) (sa : noStar a = true) (sb : noStar b = true) (sd : noStar d = true)
    (hw : swappedStores [.Tuple [.Name x px, .Name y py, .Name z pz] kt pt] (.Tuple [a, b, d] k2 pt2) X.env = pure (some [x, y, z])) :
    SS T P call X W (.Assign [.Tuple [.Name x px, .Name y py, .Name z pz] kt pt] (.Tuple [a, b, d] k2 pt2) pos) (.asg (.tup [.name i, .name j, .name l]) (.tup [xa, xb, xd])) := by
  have hA : PA X [a, b, d] (rd T RVs (wn T W) (evalL P call [xa, xb, xd])) := a_cons ha (a_cons hb (a_cons hd a_nil (star_cons sd [] _)) (star_cons sb _ _)) (star_cons sa _ _)
  refine ps_imp (ps_par3 hc hN hi hj hl hij hil hjl hx hy hz hA hw) fun D σ H ⟨env, S, μ, er, sr, af⟩ => ?_
  simp only [execS, evalE] at af
  have e0 : ∀ (r : R (List HW.D)) (f : List HW.D → Sto → R HW.D) (g : HW.D → Sto → O), (r.bind f).stm env g = r.stm env fun x S => (f x S).stm env g := fun r f g => by cases r <;> rfl
  rw [e0] at af
  refine ⟨env, S, μ, er, sr, (AftS.stm (rel := RVs) er af).mono fun v H1 ⟨μ1, S1, ds, e1, sr1, rv, er1, a1⟩ => ?_⟩
  try dsimp only at a1
  split at a1
  · simp only [R.stm_ok, setTg] at a1
    split at a1
    · rename_i env' hset
      match ds, rv with
      | [], _ => simp [setTgs] at hset
      | [_], _ => simp [setTgs, setTg] at hset
      | [_, _], _ => simp [setTgs, setTg] at hset
      | [d1, d2, d3], .cons r1 (.cons r2 (.cons r3 .nil)) =>
        simp only [setTgs, setTg] at hset
        cases hset
        exact ⟨_, _, _, rfl, a1.nx _ (Ext.refl _ _) sr1 (((er1.set i r1).set j r2).set l r3)⟩
      | _ :: _ :: _ :: _ :: _, _ => simp [setTgs, setTg] at hset
    · exact a1.elim
  · exact a1.elim
/-- name = [..] on one line -/
theorem ss_setLc {n : Nat} {y : Str} {py : Pos} {elt iter : Expr} {ifs : List Expr} {scope : Scope} {own : List (Str × Nat)} {x : HW.X} {te : TE} {spos : Pos} {wi : TI} {g : TG} {tt : TT} (hc : X.calm = true) (hN : X.N.Nodup) (hy : X.N[n]? = some y) (hyl : X.env.scope.names.lookup y = some .local)
    (hsw : swapsWith (.ListComp elt [⟨tg, iter, ifs, 0⟩] scope pos) (some (.Name y py)) spos.line X.env = pure true) (hi : PI X tg iter wi) (ok : BlkOk X.N X.env.scope scope own)
    (hg : ∀ (s : Shared) (H : Hp) (C : Addr) (cl : List (Str × Addr)) (fp : List Addr), PG (X.blk s H scope (compEnvC scope cl C X.env) fp) tg g) (ht : ∀ (s : Shared) (H : Hp) (C : Addr) (cl : List (Str × Addr)) (fp : List Addr), PTs (X.blk s H scope (compEnvC scope cl C X.env) fp) ifs tt)
    (he : ∀ (s : Shared) (H : Hp) (C : Addr) (cl : List (Str × Addr)) (fp : List Addr), PE (X.blk s H scope (compEnvC scope cl C X.env) fp) elt te) (hs : ∀ x, foldedSetIterable iter X.env x = pure x)
    (himp : ∀ σ H Q, rd T RV (wn T W) (evalE P call x) σ H Q → tLc wi g tt te (own.map (·.2)) σ H Q) :
    SS T P call X W (.Assign [.Name y py] (.ListComp elt [⟨tg, iter, ifs, 0⟩] scope pos) spos) (.asg (.name n) x) := by
  refine ps_imp (ps_setLc hc hN hy hyl hsw hi ok hg ht he hs) fun D σ H ⟨env, S, μ, er, sr, af⟩ => ?_
  simp only [execS, setTg] at af
  refine himp σ H _ ⟨env, S, μ, er, sr, (AftS.stm (rel := RV) er af).mono fun v H1 ⟨μ1, S1, d, e1, sr1, rv, er1, a1⟩ => ?_⟩
  exact a1.nx _ (Ext.refl _ _) sr1 (er1.set n rv)
/-! ### stores in lists and dicts -/
def rSet (T : Tie) : TSet := fun o i v H Q => ∃ μ S d0 di dv S', RV H μ o d0 ∧ RV H μ i di ∧ RV H μ v dv ∧ SRel T H μ S ∧ storeD d0 di dv S = some S' ∧ ∀ H' μ', Ext H μ H' μ' → SRel T H' μ' S' → Q H'
theorem set_all (hu : X.A.units + 65 < cLine) : PSet X (rSet T) := by
  intro pins s σ H o i v ov iv u Q I ro ri rv ⟨μ, S, d0, di, dv, S', bo, bi, bv, sr, hst, q⟩
  cases d0 with
  | ref n =>
    simp only [storeD] at hst
    split at hst
    · rename_i xs hs
      split at hst
      · rename_i j
        split at hst
        · rename_i hj
          cases hst
          obtain ⟨a, rfl, hn⟩ := bo.ref_inv
          obtain rfl := bi.int_inv
          obtain ⟨ys, e, q1⟩ := sr.ob _ _ _ hn hs
          have ha := sr.wr hn
          refine set_list pins s σ H (.ref a) (.int j) v ov iv u Q I ro ri rv ⟨a, ys, j, j.toNat, rfl, rfl, e, ?_, ?_⟩
          · rw [q1.length]
            unfold ixN
            rw [if_pos hj.1, if_pos hj.2]
          · exact q _ _ (Ext.write ha) (sr.write hn ⟨_, upd_same, (RVs.set bv _ q1).ext (Ext.write ha)⟩)
        · cases hst
      · cases hst
    · rename_i kvs hs
      split at hst
      · rename_i hk
        cases hst
        simp only [Bool.and_eq_true, decide_eq_true_eq] at hk
        obtain ⟨a, rfl, hn⟩ := bo.ref_inv
        obtain ⟨H1, I1, e1, sr1, as⟩ := dct_as I sr hn hs bi hk.1
        obtain ⟨H2, g2, e2, sr2⟩ := as.put sr1 hn hs (bv.ext e1) hk.2
        exact set_dict (by omega) pins s σ H1 (.ref a) i v ov iv u Q I1 ro ri rv ⟨a, H2, rfl, g2, q _ _ (e1.trans e2) sr2⟩
      · cases hst
    · cases hst
  | _ => simp [storeD] at hst
end
end HW
/-! Statements: stores, loops, try. -/
namespace HW
open PySem L2
section
variable {T : Tie} {P : Prog} {call : Call} {X : Cx} {W : WX} {w : WN} {a b d e tg o i : Expr} {xa xb xd xo xi : HW.X} {pos p : Pos} {H H1 : Hp} {μ μ1 : Mu} {D D' : Ends} {σ : L2.St} {env : Env} {S : Sto}
theorem noSub_asg {o i : Expr} {pos : Pos} (h : noSlice i = true) (env : PySem.Env) (v : Value) : assign (.Subscript o i pos) env v = (do
      let ov ← holding [v] (eval o env)
      let iv ← holding [v, ov] (eval i env)
      standAt pos
      holding [v, ov, iv] (setItem ov iv v)
      release [v, ov, iv] []) := by
  cases i <;> first | rfl | (simp [noSlice] at h)
theorem ss_sub (hu : X.A.units + 65 < cLine) (ho : SE T P call X W o xo) (hi : SE T P call X W i xi) (ha : SE T P call X W a xa) (hn : noSlice i = true) (hs : swapsWithSole [.Subscript o i p] a pos.line X.env = pure false) (hw : swappedStores [.Subscript o i p] a X.env = pure none) :
    SS T P call X W (.Assign [.Subscript o i p] a pos) (.sub xo xi xa) := by
  refine ps_imp (ps_asg ha (pg_sub ho hi (set_all (T := T) hu) (noSub_asg hn _)) hs hw (by rfl)) fun D σ H ⟨env, S, μ, er, sr, af⟩ => ?_
  simp only [execS] at af
  refine ⟨env, S, μ, er, sr, (AftS.stm (rel := RV) er af).mono fun v H1 ⟨μ1, S1, dv, e1, sr1, rv, er1, a1⟩ => ?_⟩
  refine ⟨env, S1, μ1, er1, sr1, (AftS.stm (rel := RV) er1 a1).mono fun x H2 ⟨μ2, S2, dx, e2, sr2, rx, er2, a2⟩ => ?_⟩
  refine ⟨env, S2, μ2, er2, sr2, (AftS.stm (rel := RV) er2 a2).mono fun y H3 ⟨μ3, S3, dy, e3, sr3, ry, er3, a3⟩ => ?_⟩
  try dsimp only at a3
  split at a3
  · rename_i S' hst
    exact ⟨μ3, S3, dx, dy, dv, S', rx.ext e3, ry, (rv.ext e2).ext e3, sr3, hst, fun H' μ' e4 sr4 => a3.nx σ e4 sr4 (er3.ext e4)⟩
  · exact a3.elim
theorem ss_fld {n : Nat} {f : Str} (F : FldOk T X.K) (hf : T.fld n = some f) (ho : SE T P call X W o xo) (ha : SE T P call X W a xa) (hs : swapsWith a (some (.Attribute o f p)) pos.line X.env = pure false) :
    SS T P call X W (.Assign [.Attribute o f p] a pos) (.fld xo n xa) := by
  refine ps_imp (ps_fld ho ha hs) fun D σ H ⟨env, S, μ, er, sr, af⟩ => ?_
  simp only [execS] at af
  refine ⟨env, S, μ, er, sr, (AftS.stm (rel := RV) er af).mono fun v H1 ⟨μ1, S1, dv, e1, sr1, rv, er1, a1⟩ => ?_⟩
  refine ⟨env, S1, μ1, er1, sr1, (AftS.stm (rel := RV) er1 a1).mono fun x H2 ⟨μ2, S2, dx, e2, sr2, rx, er2, a2⟩ => ?_⟩
  try dsimp only at a2
  split at a2
  · split at a2
    · rename_i c fs hs1
      split at a2
      · rename_i hl
        obtain ⟨a, rfl, hn⟩ := rx.ref_inv
        obtain ⟨hc, dx, ys, eH, q1⟩ := sr2.ob _ _ _ hn hs1
        obtain ⟨c1, c2⟩ := F.cls _ hc
        have ha := sr2.wr hn
        have hlen : ys.length = fs.length := Paired.length q1
        refine ⟨a, _, dx, ys, rfl, eH, c1, c2 n f hf, by rw [hlen]; exact hl, ?_⟩
        refine a2.nx σ (Ext.write ha) (sr2.write hn ⟨hc, dx, _, upd_same, ?_⟩) (er2.ext (Ext.write ha))
        exact Paired.mapR (fld_put F.inj hf (rv.ext e2) q1) fun _ _ z => ⟨z.1, z.2.ext (Ext.write ha)⟩
      · exact a2.elim
    · exact a2.elim
  · exact a2.elim
theorem ss_for {iter : Expr} {body : List Stmt} {t : Tg} {x : HW.It} {xs : List HW.St} (hp : PassesOwn (model X.prog X.w) X.A X.env X.xe) (hc : X.calm = true) (hi : SI T P call X W tg iter x) (hg : PG X tg (tgR T t)) (hb : SSs T P call X W body xs) (hf : noSet iter = true) :
    SS T P call X W (.For tg iter body [] pos) (.for t x xs) := by
  refine ps_imp (ps_for hp hc hi hg hb (fun x => no_fold hf _ _)) fun D σ H ⟨env, S, μ, er, sr, af⟩ => ?_
  simp only [execS] at af
  refine ⟨env, S, μ, er, sr, (AftS.stm (rel := BearsR T) er af).mono fun J H1 ⟨μ1, S1, src, e1, sr1, bear, er1, a1⟩ => ?_⟩
  generalize hturn : (fun d env S => match setTg t d env with
      | some env' => execs P call xs env' S
      | none => O.bad) = turn at a1
  refine ⟨fun i m σ H => m = src.items.length - i ∧ i ≤ src.items.length ∧ ∃ env S μ, Ext H1 μ1 H μ ∧ SRel T H μ S ∧ EnvR H μ σ env ∧ AftS T (wn T W) H μ (forL src.own turn (src.items.drop i) env S) D,
    ⟨_, rfl, Nat.zero_le _, env, S1, μ1, Ext.refl _ _, sr1, er1, by simpa using a1⟩, ?_⟩
  rintro i m σ H ⟨rfl, hi, env, S, μ, ex, sr, er, af⟩
  by_cases hlt : i < src.items.length
  · rw [List.drop_eq_getElem_cons hlt] at af
    simp only [forL] at af
    split at af
    case isFalse => exact af.elim
    rename_i hst
    obtain ⟨bg, _⟩ := bear i H μ S ex.mv sr hst
    obtain ⟨go, yl⟩ := bg _ (List.getElem?_eq_getElem hlt)
    refine .inr ⟨go, fun σ H => ∃ env S μ, Ext H1 μ1 H μ ∧ SRel T H μ S ∧ EnvR H μ σ env ∧ AftS T (wn T W) H μ (forL src.own turn (src.items.drop (i + 1)) env S) D, fun σ' H' z => ⟨_, by omega, rfl, hlt, z⟩, fun v H2 y => ?_⟩
    obtain ⟨ex2, sr2, rv2⟩ := yl v H2 y
    have er2 := er.ext ex2
    generalize src.items[i] = d at rv2 af
    cases hset : setTg t d env with
    | none =>
      have ht : turn d env S = O.bad := by rw [← hturn]; simp only [hset]
      simp only [ht] at af
      exact af.elim
    | some env' =>
      have ht : turn d env S = execs P call xs env' S := by rw [← hturn]; simp only [hset]
      rw [ht] at af
      refine ⟨env, S, μ, d, env', er2, sr2, rv2, hset, fun σ3 er3 _ => ⟨env', S, μ, er3, sr2, ?_⟩⟩
      cases hr : execs P call xs env' S with
      | next env4 S4 =>
        rw [hr] at af
        exact fun σ4 H4 μ4 e4 sr4 er4 => ⟨env4, S4, μ4, (ex.trans ex2).trans e4, sr4, er4, AftS.ext (r := forL src.own turn (src.items.drop (i + 1)) env4 S4) af (ex2.trans e4)⟩
      | cont env4 S4 =>
        rw [hr] at af
        exact fun σ4 H4 μ4 e4 sr4 er4 => ⟨env4, S4, μ4, (ex.trans ex2).trans e4, sr4, er4, AftS.ext (r := forL src.own turn (src.items.drop (i + 1)) env4 S4) af (ex2.trans e4)⟩
      | brk env4 S4 =>
        rw [hr] at af
        exact fun σ4 H4 μ4 e4 sr4 er4 => af σ4 H4 μ4 (ex2.trans e4) sr4 er4
      | ret d4 S4 =>
        rw [hr] at af
        exact fun v4 H4 μ4 e4 sr4 er4 => af v4 H4 μ4 (ex2.trans e4) sr4 er4
      | exc c env4 S4 =>
        rw [hr] at af
        exact fun σ4 H4 μ4 e4 sr4 er4 => af σ4 H4 μ4 (ex2.trans e4) sr4 er4
      | bad => rw [hr] at af; exact af
  · have e : i = src.items.length := by omega
    subst e
    rw [List.drop_eq_nil_of_le (Nat.le_refl _)] at af
    simp only [forL] at af
    split at af
    case isFalse => exact af.elim
    rename_i hst
    obtain ⟨_, bs⟩ := bear _ H μ S ex.mv sr hst
    exact .inl ⟨bs rfl, af.nx σ (Ext.refl _ _) sr er⟩
theorem ss_while {c : Expr} {tc : HW.T} {body : List Stmt} {xs : List HW.St} (hp : PassesOwn (model X.prog X.w) X.A X.env X.xe) (hc : ST T P call X W c tc) (hb : SSs T P call X W body xs) : SS T P call X W (.While c body [] pos) (.while tc xs) := by
  refine ps_imp (ps_while hp hc hb) fun D σ H ⟨env, S, μ, er, sr, af⟩ => ?_
  simp only [execS] at af
  generalize 100000 = n at af
  refine ⟨fun m σ H => ∃ env S μ, SRel T H μ S ∧ EnvR H μ σ env ∧ AftS T (wn T W) H μ (whileL (evalT P call tc) (execs P call xs) m env S) D, ⟨n, env, S, μ, sr, er, af⟩, ?_⟩
  rintro m σ H ⟨env, S, μ, sr, er, af⟩
  cases m with
  | zero => simp only [whileL] at af; exact af.elim
  | succ m =>
    simp only [whileL] at af
    refine ⟨env, S, μ, er, sr, ?_⟩
    cases hr : evalT P call tc env S with
    | bad => rw [hr] at af; exact af.elim
    | exc c S1 => rw [hr] at af; exact fun H' μ' e s => af σ H' μ' e s (er.ext e)
    | ok k S1 =>
      rw [hr] at af
      intro b H1 μ1 e1 sr1 rb
      have rb : b = k := rb
      subst rb
      cases b with
      | false =>
        rw [if_neg (by decide)]
        exact af.nx σ e1 sr1 (er.ext e1)
      | true =>
        rw [if_pos rfl]
        refine ⟨fun σ H => ∃ env S μ, SRel T H μ S ∧ EnvR H μ σ env ∧ AftS T (wn T W) H μ (whileL (evalT P call tc) (execs P call xs) m env S) D, fun σ' H' z => ⟨m, Nat.lt_succ_self _, z⟩, env, S1, μ1, er.ext e1, sr1, ?_⟩
        dsimp only at af
        cases hr : execs P call xs env S1 with
        | next env4 S4 =>
          rw [hr] at af
          exact fun σ4 H4 μ4 e4 sr4 er4 => ⟨env4, S4, μ4, sr4, er4, AftS.ext (r := whileL (evalT P call tc) (execs P call xs) m env4 S4) af (e1.trans e4)⟩
        | cont env4 S4 =>
          rw [hr] at af
          exact fun σ4 H4 μ4 e4 sr4 er4 => ⟨env4, S4, μ4, sr4, er4, AftS.ext (r := whileL (evalT P call tc) (execs P call xs) m env4 S4) af (e1.trans e4)⟩
        | brk env4 S4 =>
          rw [hr] at af
          exact fun σ4 H4 μ4 e4 sr4 er4 => af σ4 H4 μ4 (e1.trans e4) sr4 er4
        | ret d4 S4 =>
          rw [hr] at af
          exact fun v4 H4 μ4 e4 sr4 er4 => af v4 H4 μ4 (e1.trans e4) sr4 er4
        | exc c env4 S4 =>
          rw [hr] at af
          exact fun σ4 H4 μ4 e4 sr4 er4 => af σ4 H4 μ4 (e1.trans e4) sr4 er4
        | bad => rw [hr] at af; exact af
/-! ### raise, try -/
theorem ss_raise {c : Nat} (hc : X.calm = true) (tk : Takes X W) (he : PMk X e (fun _ H Q => Q (.ref (T.xc c)) none H)) : SS T P call X W (.Raise (some e) none pos) (.raise c) := by
  refine ps_imp (ps_raise hc tk he) fun D σ H ⟨env, S, μ, er, sr, af⟩ => ?_
  simp only [execS] at af
  exact af σ H μ (Ext.refl _ _) sr er
/-- the numbers of exception classes, and which is below which -/
structure ExcOk (T : Tie) (P : Prog) (K : PySem.W.Frag) (x : Str) (h : Nat) : Prop where
  one : ∀ c, P.nx.contains c = true → PySem.W.exmOne K (.ref (T.xc c)) (.ref (T.xc h)) = some (subOf P c h)
theorem ss_try {x : Str} {h : Nat} {body suite : List Stmt} {b₀ : Stmt} {np pos' : Pos} {xb xs : List HW.St} (hs : X.stack = X.env :: X.outer) (hf : X.env.frame = some X.env.locals) (hc : Names X x (.ref (T.xc h))) (tk : Takes X W) (eo : ExcOk T P X.K x h)
    (hb : ∀ (W : WX) (pn : List (Addr × Obj)) (xe : Value → Shared → Prop), Takes (X.tr pn xe) W → PassesOwn (model X.prog X.w) X.A X.env xe → SSs T P call (X.tr pn xe) W body xb)
    (hsu : ∀ (a : Addr) (pn : List (Addr × Obj)), SSs T P call (X.suite a pn) W0 (b₀ :: suite) xs) :
    SS T P call X W (.Try body [.ExceptHandler (some (.Name x np)) none (b₀ :: suite) pos'] [] [] pos) (.try xb [(h, xs)]) := by
  refine ps_imp (ps_try_only (tb := fun W => rdS T (wn T W) (execs P call xb)) (ts := fun _ _ _ => rdS T (wn T W0) (execs P call xs)) hs hf hc tk hb (fun a oe cls d pn _ _ => hsu a ((a, oe) :: pn))) fun D σ H ⟨env, S, μ, er, sr, af⟩ => ?_
  simp only [execS] at af
  refine ⟨env, S, μ, er, sr, ?_⟩
  cases hr : execs P call xb env S with
  | exc c env1 S1 =>
    rw [hr] at af
    simp only [handle] at af
    split at af
    case isFalse => exact af.elim
    rename_i hnx
    intro σ1 H1 μ1 e1 sr1 er1
    refine ⟨subOf P c h, eo.one c hnx, fun hyes a na => ?_, fun hno => ?_⟩
    · rw [if_pos hyes] at af
      refine ⟨env1, S1, μ1, er1, sr1, ?_⟩
      have af := AftS.ext af e1
      cases hr2 : execs P call xs env1 S1 with
      | exc c env2 S2 => rw [hr2] at af; simp only [noExc] at af; exact af.elim
      | next env2 S2 => rw [hr2] at af; simp only [noExc] at af; exact af
      | brk env2 S2 => rw [hr2] at af; simp only [noExc] at af; exact af
      | cont env2 S2 => rw [hr2] at af; simp only [noExc] at af; exact af
      | ret d2 S2 => rw [hr2] at af; simp only [noExc] at af; exact af
      | bad => rw [hr2] at af; simp only [noExc] at af; exact af
    · rw [if_neg (by rw [hno]; decide)] at af
      exact af σ1 H1 μ1 e1 sr1 er1
  | next env1 S1 => rw [hr] at af; exact af
  | brk env1 S1 => rw [hr] at af; exact af
  | cont env1 S1 => rw [hr] at af; exact af
  | ret d S1 => rw [hr] at af; exact af
  | bad => rw [hr] at af; exact af
end
end HW
/-! From the row's syntax to the clean one. -/
namespace HW
open PySem

structure Cfg where
  N : List Str
  muts : List Str
  fns : List (Str × Nat)
  clss : List (Str × Nat)
  excs : List (Str × Nat)
  consts : List (Str × D)
  flds : List (Str × Nat)
  mths : List (Str × Nat)
  blts : List Str

def ixOf (N : List Str) (x : Str) : Option Nat := N.findIdx? (· == x)
def visC (sc : Scope) (x : Str) : Bool :=
  match sc.names.lookup x with
  | some .local => true
  | some .cell => true
  | some .free => true
  | _ => false
def locC (sc : Scope) (x : Str) : Bool :=
  match sc.names.lookup x with
  | some .local => true
  | some .cell => true
  | _ => false
def lclC (sc : Scope) (x : Str) : Bool :=
  match sc.names.lookup x with
  | some .local => true
  | _ => false
def glC (sc : Scope) (x : Str) : Bool :=
  match sc.names.lookup x with
  | some .globalImplicit => true
  | _ => false
def okN (x : Str) : Bool := !(x == ("__debug__" : Str)) && !(x == ("__classdict__" : Str)) && !(x == ("__name__" : Str))
def bfOf (x : Str) (n : Nat) : Option Bf :=
  if x = "len" then (if n = 1 then some .len else none)
  else if x = "abs" then (if n = 1 then some .abs else none)
  else if x = "max" then (if n = 2 then some .max2 else if n = 1 then some .maxL else none)
  else if x = "min" then (if n = 2 then some .min2 else if n = 1 then some .minL else if n = 3 then some .min3 else none)
  else if x = "sum" then (if n = 1 then some .sum else none)
  else if x = "all" then (if n = 1 then some .all else none)
  else if x = "any" then (if n = 1 then some .any else none)
  else if x = "int" then (if n = 1 then some .int else none)
  else if x = "sorted" then (if n = 1 then some .sorted else none)
  else if x = "tuple" then (if n = 1 then some .tuple else none)
  else if x = "list" then (if n = 1 then some .list else none)
  else none
def isiOf (x : Str) : Option Bf :=
  if x = "int" then some .isInt else if x = "bool" then some .isBool else if x = "str" then some .isStr
  else if x = "tuple" then some .isTuple else if x = "list" then some .isList else none
def bmOf (x : Str) (n : Nat) : Option Bm :=
  if x = "append" then (if n = 1 then some .append else none)
  else if x = "extend" then (if n = 1 then some .extend else none)
  else if x = "pop" then (if n = 0 then some .pop else if n = 1 then some .popAt else none)
  else if x = "get" then (if n = 2 then some .get else none)
  else if x = "setdefault" then (if n = 2 then some .setdef else none)
  else if x = "join" then (if n = 1 then some .join else none)
  else none
def boolAnd : List X → X
  | [] => .nope
  | [a] => a
  | a :: r => .and a (boolAnd r)
def boolOr : List X → X
  | [] => .nope
  | [a] => a
  | a :: r => .or a (boolOr r)
def testAnd : List T → T
  | [] => .val .nope
  | [a] => a
  | a :: r => .and a (testAnd r)
def testOr : List T → T
  | [] => .val .nope
  | [a] => a
  | a :: r => .or a (testOr r)
/-- does a name's kind allow that it is stored -/
def trTg (c : Cfg) (sc : Scope) : Nat → Expr → Option Tg
  | _ + 1, .Name x _ => if locC sc x && okN x then (ixOf c.N x).map .name else none
  | n + 1, .Tuple es _ _ => if es.all noStar then (es.mapM (trTg c sc n)).map .tup else none
  | _, _ => none
def tgNames : Nat → Expr → List Str
  | _ + 1, .Name x _ => [x]
  | n + 1, .Tuple es _ _ => es.flatMap (tgNames n)
  | _, _ => []
def ownOf (c : Cfg) (e : Expr) : List (Str × Nat) := (tgNames 4 e).filterMap fun x => (ixOf c.N x).map fun i => (x, i)
def slotsIn (t : Tg) (vs : List Nat) : Bool := t.slots.all fun i => vs.contains i
section
variable (c : Cfg) (hot : Bool) (rE : Scope → Expr → X) (rT : Scope → Expr → T) (rI : Scope → Expr → Expr → It) (sc : Scope)
def sName (x : Str) : X :=
  if okN x then
    if visC sc x then (match ixOf c.N x with | some i => .var i | none => .nope)
    else if glC sc x then (match c.consts.lookup x with | some d => .lit d | none => .nope) else .nope
  else .nope
def sConst : Const → X
  | .int i => .lit (.int i)
  | .bool b => .lit (.bl b)
  | .none => .lit .non
  | .str s => if cpsOk s.cps.toList then .lit (.str s.cps.toList) else .nope
  | _ => .nope
def sDict : List (Option Expr) → List Expr → Option (List X)
  | [], [] => some []
  | some k :: ks, v :: vs => (sDict ks vs).map fun r => rE sc k :: rE sc v :: r
  | _, _ => none
def sSub (a i : Expr) : X :=
  match i with
  | .Slice lo hi none _ => .slc (rE sc a) (lo.map (rE sc)) (hi.map (rE sc))
  | .Slice none none (some (.UnaryOp .USub (.Constant (.int 1) _ _) _)) _ => .rev (rE sc a)
  | i => if noSlice i then .idx (rE sc a) (rE sc i) else .nope
/-- a call of a name -/
def sCall (f : Str) (args : List Expr) : X :=
  if glC sc f && okN f && args.all noStar && !hot then
    match c.fns.lookup f with
    | some k => .call k (args.map (rE sc))
    | none => match c.clss.lookup f with
      | some k => .mk k (args.map (rE sc))
      | none =>
        if c.blts.contains f then
          (if f = "isinstance" then (match args with
            | [a, .Name t _] => (match isiOf t with | some b => if glC sc t && okN t && c.blts.contains t then .blt b [rE sc a] else .nope | none => .nope)
            | _ => .nope)
          else match bfOf f args.length with
            | some b => .blt b (args.map (rE sc))
            | none => .nope)
        else .nope
  else .nope
/-- a call of an attribute -/
def sMeth (o : Expr) (m : Str) (args : List Expr) (apos pos : Pos) : X :=
  if mtOk o args apos pos && !hot then
    match bmOf m args.length with
    | some b => (match b, args with
      | .setdef, [k, .List [] _] => .mth .setdef (rE sc o) [rE sc k, .newL []]
      | b, args => .mth b (rE sc o) (args.map (rE sc)))
    | none => (match c.mths.lookup m with
      | some k => .inv (rE sc o) k (args.map (rE sc))
      | none => .nope)
  else .nope
def sComp (nw : Bool) (elt : Expr) (gs : List Comprehension) (scope : Scope) : X :=
  match gs with
  | [⟨tg, iter, ifs, 0⟩] =>
    match trTg c scope 4 tg, (match ifs with | [] => some [] | [t] => some [rT (L2.relS scope sc) t] | _ => none) with
    | some t, some ts => if L2.blkC c.N sc scope (ownOf c tg) && slotsIn t ((ownOf c tg).map (·.2)) && noSet iter && !hot then
        (if nw then .newC (rE (L2.relS scope sc) elt) t (rI sc tg iter) ts ((ownOf c tg).map (·.2)) else .comp (rE (L2.relS scope sc) elt) t (rI sc tg iter) ts ((ownOf c tg).map (·.2))) else .nope
    | _, _ => .nope
  | _ => .nope
def stepE (e : Expr) : X :=
  match e with
  | .Name x _ => sName c sc x
  | .Constant v _ _ => sConst v
  | .Tuple es _ _ => if es.all noStar then .tup (es.map (rE sc)) else .nope
  | .List es _ => if es.all noStar then .lst (es.map (rE sc)) else .nope
  | .Dict ks vs _ => if ks.length ≤ 15 then (match sDict rE sc ks vs with | some r => .newD r | none => .nope) else .nope
  | .BinOp a op b _ => .bin op (rE sc a) (rE sc b)
  | .UnaryOp .USub a _ => .neg (rE sc a)
  | .UnaryOp .Not a _ => .not (rE sc a)
  | .BoolOp .And es _ => boolAnd (es.map (rE sc))
  | .BoolOp .Or es _ => boolOr (es.map (rE sc))
  | .IfExp t a b _ => .ife (rT sc t) (rE sc a) (rE sc b)
  | .Compare a [op] [b] _ => if noSet b then .cmp op (rE sc a) (rE sc b) else .nope
  | .Compare a [op, op'] [b, d] _ => if noSet d then .chn op op' (rE sc a) (rE sc b) (rE sc d) else .nope
  | .Subscript a i _ => sSub rE sc a i
  | .Attribute o f _ => if abOk o then (match c.flds.lookup f with | some k => .fld (rE sc o) k | none => .nope) else .nope
  | .Call (.Name f _) args [] _ => sCall c hot rE sc f args
  | .Call (.Attribute o m apos) args [] pos => sMeth c hot rE sc o m args apos pos
  | .ListComp elt gs scope _ => sComp c hot rE rT rI sc false elt gs scope
  | _ => .nope
def stepT (e : Expr) : T :=
  match e with
  | .UnaryOp .Not a _ => .not (rT sc a)
  | .BoolOp .And es _ => testAnd (es.map (rT sc))
  | .BoolOp .Or es _ => testOr (es.map (rT sc))
  | .Compare a [op] [b] _ => if noSet b then .val (.cmp op (rE sc a) (rE sc b)) else .val .nope
  | .Compare a [op, op'] [b, d] _ => if noSet d then .val (.chn op op' (rE sc a) (rE sc b) (rE sc d)) else .val .nope
  | e => if plainT e then .val (rE sc e) else .val .nope
def isTupE : Expr → Bool
  | .Tuple _ _ _ => true
  | _ => false
def sIter (tg : Expr) (f : Str) (args : List Expr) (e : Expr) : It :=
  if c.blts.contains f && glC sc f && okN f && args.all noStar then
    (if f = "range" then (match args with
      | [a] => .rng1 (rE sc a)
      | [a, b] => .rng2 (rE sc a) (rE sc b)
      | _ => .seq .nope)
    else if f = "enumerate" then (match args with
      | [a] => if isTupE tg then .enum (rE sc a) else .seq .nope
      | _ => .seq .nope)
    else if f = "zip" then (match args with
      | [a, b] => if isTupE tg then .zip (rE sc a) (rE sc b) else .seq .nope
      | _ => .seq .nope)
    else .seq (rE sc e))
  else .seq (rE sc e)
def stepI (tg e : Expr) : It :=
  match e with
  | .Call (.Name f _) args [] _ => sIter c rE sc tg f args e
  | e => .seq (rE sc e)
end
structure Trs where
  e : Scope → Expr → X
  t : Scope → Expr → T
  i : Scope → Expr → Expr → It
def trP (c : Cfg) (hot : Bool) : Nat → Trs
  | 0 => ⟨fun _ _ => .nope, fun _ _ => .val .nope, fun _ _ _ => .seq .nope⟩
  | n + 1 => ⟨fun sc => stepE c hot (trP c hot n).e (trP c hot n).t (trP c hot n).i sc, fun sc => stepT (trP c hot n).e (trP c hot n).t sc, fun sc => stepI c (trP c hot n).e sc⟩
end HW
/-! The translation of expressions is sound. -/
namespace HW
open PySem L2
/-- what the module holds, for the calls' level k -/
structure Gb (c : Cfg) (T : Tie) (P : Prog) (call : Call) (k : Nat) (X : Cx) : Prop where
  fns : ∀ x f, c.fns.lookup x = some f → ∃ fa fd ps, X.mg x = some (.ref fa) ∧ PySem.W.keepIn X.K (.ref fa) = true ∧ Binds X.K fd ps [] ∧ FnOk X.prog X.w X.K X.mg X.base (L2.CX X.prog X.w) k fa fd ps (spOf T call f)
  clss : ∀ x cl, c.clss.lookup x = some cl → ∃ f fa fd ps, X.mg x = some (.ref (T.cls cl)) ∧ T.okc cl = true ∧ P.init.lookup cl = some f ∧ Mk X.K (T.cls cl) fa ∧ Binds X.K fd ps [] ∧ FnOk X.prog X.w X.K X.mg X.base (L2.CX X.prog X.w) k fa fd ps (spOf T call f)
  mths : ∀ m n, c.mths.lookup m = some n → MthOk T P call X k m n
  fld : FldOk T X.K
  fldn : ∀ f n, c.flds.lookup f = some n → T.fld n = some f
  blts : ∀ x, c.blts.contains x = true → X.mg x = none
  cons : ∀ x d, c.consts.lookup x = some d → ∃ u v, X.mg x = some u ∧ RelV v u ∧ ∀ H μ, RV H μ v d
  excs : ∀ x h, c.excs.lookup x = some h → X.mg x = some (.ref (T.xc h)) ∧ (∃ (bmB : List Value) (B newId initId : String), ExcBaseFacts B newId initId bmB ∧ PySem.W.excIn X.K (T.xc h) bmB newId = true) ∧ PySem.W.keepIn X.K (.ref (T.xc h)) = true ∧ Raises X (.ref (T.xc h)) ∧ ExcOk T P X.K x h
structure Cz (c : Cfg) (T : Tie) (P : Prog) (call : Call) (k : Nat) (hot : Bool) (X : Cx) (W : WX) (sc : Scope) : Prop where
  sc : X.env.scope = sc
  N : X.N = c.N
  nd : c.N.Nodup
  calm : hot = false → X.calm = true
  rm : hot = false → Room (k + 1) X.A
  hu : X.A.units + 65 < cLine
  tk : Takes X W
  gb : Gb c T P call k X
theorem ix_get {N : List Str} {x : Str} {i : Nat} (h : ixOf N x = some i) : N[i]? = some x := by
  unfold ixOf at h
  obtain ⟨h1, h2, _⟩ := List.findIdx?_eq_some_iff_getElem.mp h
  rw [List.getElem?_eq_getElem h1]
  simp only [beq_iff_eq] at h2
  rw [h2]
section
variable {c : Cfg} {T : Tie} {P : Prog} {call : Call} {k : Nat} {hot : Bool} {X : Cx} {W : WX} {sc : Scope}
theorem Cz.gl (z : Cz c T P call k hot X W sc) {x : Str} (h : glC sc x = true) : Gl X x := by
  unfold Gl PySem.Env.kindOf
  rw [z.sc]
  unfold glC at h
  split at h
  · assumption
  · cases h
theorem vis_of (z : X.env.scope = sc) {x : Str} (h : visC sc x = true) : Vis X.env.scope x := by
  rw [z]
  unfold visC at h
  unfold Vis
  split at h
  · exact .inl (by assumption)
  · exact .inr (.inl (by assumption))
  · exact .inr (.inr (by assumption))
  · cases h
theorem loc_of {x : Str} (h : locC sc x = true) : sc.names.lookup x = some .local ∨ sc.names.lookup x = some .cell := by
  unfold locC at h
  split at h
  · exact .inl (by assumption)
  · exact .inr (by assumption)
  · cases h
theorem okN_1 {x : Str} (h : okN x = true) : (x == ("__debug__" : Str)) = false := by
  unfold okN at h
  simp only [Bool.and_eq_true, Bool.not_eq_true'] at h
  exact h.1.1
theorem okN_2 {x : Str} (h : okN x = true) : (x == ("__classdict__" : Str)) = false := by
  unfold okN at h
  simp only [Bool.and_eq_true, Bool.not_eq_true'] at h
  exact h.1.2
theorem okN_3 {x : Str} (h : okN x = true) : x ≠ ("__name__" : Str) := by
  unfold okN at h
  simp only [Bool.and_eq_true, Bool.not_eq_true'] at h
  exact beq_eq_false_iff_ne.mp h.2
/-- what is known of the parts -/
structure Ih (c : Cfg) (T : Tie) (P : Prog) (call : Call) (k : Nat) (hot : Bool) (r : Trs) : Prop where
  e : ∀ X W sc, Cz c T P call k hot X W sc → ∀ e, SE T P call X W e (r.e sc e)
  t : ∀ X W sc, Cz c T P call k hot X W sc → ∀ e, ST T P call X W e (r.t sc e)
  i : ∀ X W sc, Cz c T P call k hot X W sc → ∀ tg e, SI T P call X W tg e (r.i sc tg e)
variable {r : Trs} {e : Expr} {pos p : Pos}
theorem so_name (z : Cz c T P call k hot X W sc) {x : Str} : SE T P call X W (.Name x pos) (sName c sc x) := by
  unfold sName
  split
  · rename_i ok
    split
    · rename_i hv
      split
      · rename_i i hi
        exact s_var (by rw [z.N]; exact ix_get hi) (vis_of z.sc hv) (okN_1 ok) (okN_2 ok)
      · exact s_nope
    · split
      · rename_i hg
        split
        · rename_i d hd
          obtain ⟨u, v, h1, h2, h3⟩ := z.gb.cons _ _ hd
          exact s_const (pe_glob (z.gl hg) h1 h2 (okN_1 ok)) h3
        · exact s_nope
      · exact s_nope
  · exact s_nope
theorem so_const {v : Const} {j : Nat} : SE T P call X W (.Constant v j pos) (sConst v) := by
  cases v with
  | int i => exact s_const pe_int fun _ _ => .int _
  | bool b => exact s_const pe_bl fun _ _ => .bl _
  | none => exact s_const pe_non fun _ _ => .non
  | str s =>
    simp only [sConst]
    split
    · rename_i h
      have e : s = sOf s.cps.toList := by simp [sOf]
      refine s_const (v := .str s) pe_str fun H μ => ?_
      have := RV.str (H := H) (μ := μ) _ h
      rw [← e] at this
      exact this
    · exact s_nope
  | _ => exact s_nope
theorem so_args (h : ∀ e, SE T P call X W e (r.e sc e)) : ∀ {es : List Expr}, es.all noStar = true → SA T P call X W es (es.map (r.e sc))
  | [], _ => a_nil
  | e :: es, hs => by
    simp only [List.all_cons, Bool.and_eq_true] at hs
    exact a_cons (h e) (so_args h hs.2) (star_cons hs.1 es _)
theorem so_dict (h : ∀ e, SE T P call X W e (r.e sc e)) : ∀ {ks : List (Option Expr)} {vs : List Expr} {xs : List HW.X}, sDict r.e sc ks vs = some xs → PPs X pos ks vs (trsOf T P call W xs) ∧ xs.length = 2 * ks.length ∧ ks.all (·.isSome) = true ∧ ks.length = vs.length
  | [], [], _, q => by
    simp only [sDict] at q
    cases q
    exact ⟨pps_nil, rfl, rfl, rfl⟩
  | some k :: ks, v :: vs, _, q => by
    simp only [sDict, Option.map_eq_some_iff] at q
    obtain ⟨xs, q1, rfl⟩ := q
    obtain ⟨h1, h2, h3, h4⟩ := so_dict h q1
    refine ⟨pps_cons (h k) (h v) h1, ?_, by simpa using h3, by simp [h4]⟩
    simp only [List.length_cons]
    omega
  | [], _ :: _, _, q => by simp [sDict] at q
  | none :: _, _, _, q => by simp [sDict] at q
  | some _ :: _, [], _, q => by simp [sDict] at q
theorem so_and (h : ∀ e, SE T P call X W e (r.e sc e)) : ∀ {es : List Expr}, SE T P call X W (.BoolOp .And es pos) (boolAnd (es.map (r.e sc)))
  | [] => s_nope
  | [a] => s_one (h a)
  | a :: b :: r' => s_and (h a) (so_and h)
theorem so_or (h : ∀ e, SE T P call X W e (r.e sc e)) : ∀ {es : List Expr}, SE T P call X W (.BoolOp .Or es pos) (boolOr (es.map (r.e sc)))
  | [] => s_nope
  | [a] => s_one (h a)
  | a :: b :: r' => s_or (h a) (so_or h)
theorem w_nope {e : Expr} : SW T P call X W e (.val .nope) := ⟨fun _ _ _ _ _ _ _ ⟨_, _, _, _, _, af⟩ => by simp only [evalT, evalE, R.bind] at af; exact af.elim⟩
theorem so_tand (h : ∀ e, ST T P call X W e (r.t sc e)) : ∀ {es : List Expr}, SW T P call X W (.BoolOp .And es pos) (testAnd (es.map (r.t sc)))
  | [] => w_nope
  | [a] => w_and1 (h a)
  | a :: b :: r' => w_and (h a) (so_tand h)
theorem so_tor (h : ∀ e, ST T P call X W e (r.t sc e)) : ∀ {es : List Expr}, SW T P call X W (.BoolOp .Or es pos) (testOr (es.map (r.t sc)))
  | [] => w_nope
  | [a] => w_or1 (h a)
  | a :: b :: r' => w_or (h a) (so_tor h)
theorem so_opt (h : ∀ e, SE T P call X W e (r.e sc e)) (o : Option Expr) : SO T P call X W o (o.map (r.e sc)) := by
  cases o with
  | none => exact o_none
  | some a => exact o_some (h a)
theorem so_sub (z : Cz c T P call k hot X W sc) (h : ∀ e, SE T P call X W e (r.e sc e)) {a i : Expr} : SE T P call X W (.Subscript a i pos) (sSub r.e sc a i) := by
  unfold sSub
  split
  · exact s_slc (h _) (so_opt h _) (so_opt h _)
  · exact s_rev (h _)
  · split
    · rename_i hs
      exact s_idx z.hu (h _) (h _) (plain_ix hs)
    · exact s_nope
/-- built-in functions by name -/
theorem bf_ok (z : Cz c T P call k false X W sc) {x : Str} {n : Nat} {f : Bf} (h : bfOf x n = some f) :
    f ≠ .dict ∧ n ≠ 0 ∧ ((∃ id, bootBuiltins x = some (.builtin id) ∧ CallR X (.builtin id) (rBf T f)) ∨ ∃ id, bootBuiltins x = some (.type id) ∧ CallR X (.type id) (rBf T f)) := by
  have hc := z.calm rfl
  have hu := z.hu
  unfold bfOf at h
  by_cases q : x = ("len" : Str)
  · rw [if_pos q] at h
    subst q
    by_cases q2 : n = 1
    · rw [if_pos q2] at h
      cases h
      exact ⟨by decide, by omega, .inl ⟨_, by decide +kernel, cr_len⟩⟩
    rw [if_neg q2] at h
    clear q2
    cases h
  rw [if_neg q] at h
  clear q
  by_cases q : x = ("abs" : Str)
  · rw [if_pos q] at h
    subst q
    by_cases q2 : n = 1
    · rw [if_pos q2] at h
      cases h
      exact ⟨by decide, by omega, .inl ⟨_, by decide +kernel, cr_abs⟩⟩
    rw [if_neg q2] at h
    clear q2
    cases h
  rw [if_neg q] at h
  clear q
  by_cases q : x = ("max" : Str)
  · rw [if_pos q] at h
    subst q
    by_cases q2 : n = 2
    · rw [if_pos q2] at h
      cases h
      exact ⟨by decide, by omega, .inl ⟨_, by decide +kernel, cr_max2 hc⟩⟩
    rw [if_neg q2] at h
    clear q2
    by_cases q2 : n = 1
    · rw [if_pos q2] at h
      cases h
      exact ⟨by decide, by omega, .inl ⟨_, by decide +kernel, cr_maxL hc⟩⟩
    rw [if_neg q2] at h
    clear q2
    cases h
  rw [if_neg q] at h
  clear q
  by_cases q : x = ("min" : Str)
  · rw [if_pos q] at h
    subst q
    by_cases q2 : n = 2
    · rw [if_pos q2] at h
      cases h
      exact ⟨by decide, by omega, .inl ⟨_, by decide +kernel, cr_min2 hc⟩⟩
    rw [if_neg q2] at h
    clear q2
    by_cases q2 : n = 1
    · rw [if_pos q2] at h
      cases h
      exact ⟨by decide, by omega, .inl ⟨_, by decide +kernel, cr_minL hc⟩⟩
    rw [if_neg q2] at h
    clear q2
    by_cases q2 : n = 3
    · rw [if_pos q2] at h
      cases h
      exact ⟨by decide, by omega, .inl ⟨_, by decide +kernel, cr_min3 hc⟩⟩
    rw [if_neg q2] at h
    clear q2
    cases h
  rw [if_neg q] at h
  clear q
  by_cases q : x = ("sum" : Str)
  · rw [if_pos q] at h
    subst q
    by_cases q2 : n = 1
    · rw [if_pos q2] at h
      cases h
      exact ⟨by decide, by omega, .inl ⟨_, by decide +kernel, cr_sum' hc⟩⟩
    rw [if_neg q2] at h
    clear q2
    cases h
  rw [if_neg q] at h
  clear q
  by_cases q : x = ("all" : Str)
  · rw [if_pos q] at h
    subst q
    by_cases q2 : n = 1
    · rw [if_pos q2] at h
      cases h
      exact ⟨by decide, by omega, .inl ⟨_, by decide +kernel, cr_all' hc⟩⟩
    rw [if_neg q2] at h
    clear q2
    cases h
  rw [if_neg q] at h
  clear q
  by_cases q : x = ("any" : Str)
  · rw [if_pos q] at h
    subst q
    by_cases q2 : n = 1
    · rw [if_pos q2] at h
      cases h
      exact ⟨by decide, by omega, .inl ⟨_, by decide +kernel, cr_any' hc⟩⟩
    rw [if_neg q2] at h
    clear q2
    cases h
  rw [if_neg q] at h
  clear q
  by_cases q : x = ("int" : Str)
  · rw [if_pos q] at h
    subst q
    by_cases q2 : n = 1
    · rw [if_pos q2] at h
      cases h
      exact ⟨by decide, by omega, .inr ⟨_, by decide +kernel, cr_int⟩⟩
    rw [if_neg q2] at h
    clear q2
    cases h
  rw [if_neg q] at h
  clear q
  by_cases q : x = ("sorted" : Str)
  · rw [if_pos q] at h
    subst q
    by_cases q2 : n = 1
    · rw [if_pos q2] at h
      cases h
      exact ⟨by decide, by omega, .inl ⟨_, by decide +kernel, cr_sorted' hu hc⟩⟩
    rw [if_neg q2] at h
    clear q2
    cases h
  rw [if_neg q] at h
  clear q
  by_cases q : x = ("tuple" : Str)
  · rw [if_pos q] at h
    subst q
    by_cases q2 : n = 1
    · rw [if_pos q2] at h
      cases h
      exact ⟨by decide, by omega, .inr ⟨_, by decide +kernel, cr_tuple⟩⟩
    rw [if_neg q2] at h
    clear q2
    cases h
  rw [if_neg q] at h
  clear q
  by_cases q : x = ("list" : Str)
  · rw [if_pos q] at h
    subst q
    by_cases q2 : n = 1
    · rw [if_pos q2] at h
      cases h
      exact ⟨by decide, by omega, .inr ⟨_, by decide +kernel, cr_list⟩⟩
    rw [if_neg q2] at h
    clear q2
    cases h
  rw [if_neg q] at h
  clear q
  cases h
theorem isi_ok {x : Str} {f : Bf} (h : isiOf x = some f) : isiB f = true ∧ bootBuiltins x = some (.type (isiName f)) := by
  unfold isiOf at h
  repeat' split at h
  all_goals first
    | (cases h; done)
    | (cases h
       subst_vars
       exact ⟨rfl, by decide +kernel⟩)
theorem args_nil {es : List Expr} (h : es ≠ []) : ∃ e r, es = e :: r := by
  cases es with
  | nil => exact absurd rfl h
  | cons e r => exact ⟨e, r, rfl⟩
theorem so_call (z : Cz c T P call k hot X W sc) (h : ∀ e, SE T P call X W e (r.e sc e)) {f : Str} {args : List Expr} : SE T P call X W (.Call (.Name f p) args [] pos) (sCall c hot r.e sc f args) := by
  unfold sCall
  split
  case isFalse => exact s_nope
  rename_i hok
  simp only [Bool.and_eq_true, Bool.not_eq_true'] at hok
  obtain ⟨⟨⟨hg, hn⟩, hs⟩, hh⟩ := hok
  subst hh
  have rm := z.rm rfl
  split
  · rename_i j hj
    obtain ⟨fa, fd, ps, h1, h2, h3, h4⟩ := z.gb.fns _ _ hj
    cases args with
    | nil => exact s_call0 h4 (rm.mono (Nat.le_succ _)) (z.gl hg) h1 h2 h3 z.tk (okN_1 hn)
    | cons e es => exact s_call h4 (rm.mono (Nat.le_succ _)) (z.gl hg) h1 h2 h3 z.tk (so_args h hs) (okN_1 hn) hs
  · split
    · rename_i j hj
      obtain ⟨f', fa, fd, ps, h1, h2, h3, h4, h5, h6⟩ := z.gb.clss _ _ hj
      cases args with
      | nil => exact s_mk0 h2 h3 h4 h6 rm (z.gl hg) h1 h5 (okN_1 hn)
      | cons e es => exact s_mk h2 h3 h4 h6 rm (z.gl hg) h1 h5 (so_args h hs) (okN_1 hn) hs
    · split
      case isFalse => exact s_nope
      rename_i hb
      have hm := z.gb.blts _ hb
      split
      · rename_i hisi
        subst hisi
        split
        · rename_i a t pt
          split
          · rename_i b hb2
            split
            · rename_i ht
              simp only [Bool.and_eq_true] at ht
              obtain ⟨h1, h2⟩ := isi_ok hb2
              simp only [List.all_cons, Bool.and_eq_true] at hs
              exact s_isi h1 (z.gl hg) hm (z.gl ht.1.1) (z.gb.blts _ ht.2) h2 (h _) hs.1 (okN_3 ht.1.2) (okN_1 ht.1.2)
            · exact s_nope
          · exact s_nope
        · exact s_nope
      · split
        · rename_i b hb2
          obtain ⟨h1, h2, h3⟩ := bf_ok z hb2
          obtain ⟨e, es, rfl⟩ := args_nil (es := args) (by intro q; subst q; exact h2 rfl)
          rcases h3 with ⟨id, q1, q2⟩ | ⟨id, q1, q2⟩
          · exact s_blt q2 (z.gl hg) hm q1 (so_args h hs) hs (okN_3 hn) (okN_1 hn) h1
          · exact s_bltT q2 (z.gl hg) hm q1 (so_args h hs) hs (okN_3 hn) (okN_1 hn) h1
        · exact s_nope
end
end HW
/-! The translation of expressions is sound: methods, comprehensions, all together. -/
namespace HW
open PySem L2
section
variable {c : Cfg} {T : Tie} {P : Prog} {call : Call} {k : Nat} {hot : Bool} {X : Cx} {W : WX} {sc : Scope} {r : Trs} {e : Expr} {pos p apos : Pos}
theorem bm_ok (hu : X.A.units + 65 < cLine) {x : Str} {n : Nat} {b : Bm} (h : bmOf x n = some b) :
    ∃ Ty id, PlainAttrs Ty ∧ Slot Ty x id ∧ typeOf (.builtin id) = pure (.type "method_descriptor") ∧ MtR X id (rBm T b) ∧ bmTy b = Ty := by
  unfold bmOf at h
  by_cases q : x = ("append" : Str)
  · rw [if_pos q] at h
    subst q
    by_cases q2 : n = 1
    · rw [if_pos q2] at h
      cases h
      exact ⟨_, _, PySem.F.plainAttrs_list, PySem.F.slot_list_append, PySem.F.type_list_append, mt_append', rfl⟩
    rw [if_neg q2] at h
    clear q2
    cases h
  rw [if_neg q] at h
  clear q
  by_cases q : x = ("extend" : Str)
  · rw [if_pos q] at h
    subst q
    by_cases q2 : n = 1
    · rw [if_pos q2] at h
      cases h
      exact ⟨_, _, PySem.F.plainAttrs_list, PySem.F.slot_list_extend, PySem.F.type_list_extend, mt_extend', rfl⟩
    rw [if_neg q2] at h
    clear q2
    cases h
  rw [if_neg q] at h
  clear q
  by_cases q : x = ("pop" : Str)
  · rw [if_pos q] at h
    subst q
    by_cases q2 : n = 0
    · rw [if_pos q2] at h
      cases h
      exact ⟨_, _, PySem.F.plainAttrs_list, PySem.F.slot_list_pop, PySem.F.type_list_pop, mt_pop', rfl⟩
    rw [if_neg q2] at h
    clear q2
    by_cases q2 : n = 1
    · rw [if_pos q2] at h
      cases h
      exact ⟨_, _, PySem.F.plainAttrs_list, PySem.F.slot_list_pop, PySem.F.type_list_pop, mt_popAt', rfl⟩
    rw [if_neg q2] at h
    clear q2
    cases h
  rw [if_neg q] at h
  clear q
  by_cases q : x = ("get" : Str)
  · rw [if_pos q] at h
    subst q
    by_cases q2 : n = 2
    · rw [if_pos q2] at h
      cases h
      exact ⟨_, _, PySem.F.plainAttrs_dict, PySem.F.slot_dict_get, PySem.F.type_dict_get, (mt_get' hu), rfl⟩
    rw [if_neg q2] at h
    clear q2
    cases h
  rw [if_neg q] at h
  clear q
  by_cases q : x = ("setdefault" : Str)
  · rw [if_pos q] at h
    subst q
    by_cases q2 : n = 2
    · rw [if_pos q2] at h
      cases h
      exact ⟨_, _, PySem.F.plainAttrs_dict, PySem.F.slot_dict_setdefault, PySem.F.type_dict_setdefault, (mt_setdef' hu), rfl⟩
    rw [if_neg q2] at h
    clear q2
    cases h
  rw [if_neg q] at h
  clear q
  by_cases q : x = ("join" : Str)
  · rw [if_pos q] at h
    subst q
    by_cases q2 : n = 1
    · rw [if_pos q2] at h
      cases h
      exact ⟨_, _, PySem.F.plainAttrs_str, PySem.F.slot_str_join, PySem.F.type_str_join, mt_join', rfl⟩
    rw [if_neg q2] at h
    clear q2
    cases h
  rw [if_neg q] at h
  clear q
  cases h
theorem so_meth (z : Cz c T P call k hot X W sc) (h : ∀ e, SE T P call X W e (r.e sc e)) {o : Expr} {m : Str} {args : List Expr} : SE T P call X W (.Call (.Attribute o m apos) args [] pos) (sMeth c hot r.e sc o m args apos pos) := by
  unfold sMeth
  split
  case isFalse => exact s_nope
  rename_i hok
  simp only [Bool.and_eq_true, Bool.not_eq_true'] at hok
  obtain ⟨hok, hh⟩ := hok
  subst hh
  have hs : args.all noStar = true := by
    unfold mtOk at hok
    simp only [Bool.and_eq_true] at hok
    exact hok.1.1.2
  split
  · rename_i b hb
    obtain ⟨Ty, id, pa, sl, ty, mt, hT⟩ := bm_ok (T := T) z.hu hb
    have gen : ∀ args : List Expr, args.all noStar = true → mtOk o args apos pos = true → SE T P call X W (.Call (.Attribute o m apos) args [] pos) (.mth b (r.e sc o) (args.map (r.e sc))) := fun args hs hok => by
      cases args with
      | nil => exact s_mth0 pa sl ty mt hT (h o) hok
      | cons e es => exact s_mth pa sl ty mt hT (h o) (so_args h hs) hok
    split
    · simp only [List.all_cons, Bool.and_eq_true] at hs
      exact s_mth pa sl ty mt hT (h o) (a_cons (h _) (a_cons (s_newL a_nil) a_nil (star_cons rfl [] _)) (star_cons hs.1 _ _)) hok
    · exact gen _ hs hok
  · split
    · rename_i j hj
      have rm := (z.rm rfl).mono (Nat.le_succ k)
      cases args with
      | nil => exact s_inv0 z.gb.fld (z.gb.mths _ _ hj) rm z.tk (h o) hok
      | cons e es => exact s_inv z.gb.fld (z.gb.mths _ _ hj) rm z.tk (h o) (so_args h hs) hok
    · exact s_nope
/-! ### targets -/
theorem mapM_cons_some {α β : Type} {f : α → Option β} {a : α} {l : List α} {r : List β} (h : (a :: l).mapM f = some r) : ∃ b bs, r = b :: bs ∧ f a = some b ∧ l.mapM f = some bs := by
  simp only [List.mapM_cons, Option.bind_eq_bind, Option.bind_eq_some_iff, Option.pure_def, Option.some.injEq] at h
  obtain ⟨b, h1, bs, h2, rfl⟩ := h
  exact ⟨b, bs, rfl, h1, h2⟩
/-- a target, its names stored in the block of X -/
theorem so_tg (hN : X.N = c.N) (nd : c.N.Nodup) (hc : X.calm = true) (hl : ∀ x, locC sc x = true → Loc X.env.scope x ∧ (X.fn x = true ∨ X.env.scope.names.lookup x = some .local)) : ∀ (n : Nat) {tg : Expr} {t : Tg}, trTg c sc n tg = some t → PG X tg (tgR T t) ∧ noStar tg = true
  | 0, tg, t, h => by cases tg <;> simp [trTg] at h
  | n + 1, tg, t, h => by
    cases tg with
    | Name x p =>
      simp only [trTg] at h
      split at h
      · rename_i hx
        simp only [Option.map_eq_some_iff] at h
        obtain ⟨i, hi, rfl⟩ := h
        simp only [Bool.and_eq_true] at hx
        obtain ⟨h1, h2⟩ := hl x hx.1
        exact ⟨g_name (by rw [hN]; exact nd) (by rw [hN]; exact ix_get hi) h1 h2, rfl⟩
      · cases h
    | Tuple es j p =>
      simp only [trTg] at h
      split at h
      · rename_i hs
        simp only [Option.map_eq_some_iff] at h
        obtain ⟨ts, hts, rfl⟩ := h
        have all : ∀ {es : List Expr} {ts : List Tg}, es.mapM (trTg c sc n) = some ts → PGs X es (tgsR T ts) ∧ es.length = ts.length := fun {es} => by
          induction es with
          | nil =>
            intro ts h
            simp at h
            subst h
            exact ⟨gs_nil, rfl⟩
          | cons e es ih =>
            intro ts h
            obtain ⟨b, bs, rfl, h1, h2⟩ := mapM_cons_some h
            obtain ⟨q1, q2⟩ := so_tg hN nd hc hl n h1
            obtain ⟨q3, q4⟩ := ih h2
            exact ⟨gs_cons q1 q3 q2, by simp [q4]⟩
        obtain ⟨q1, q2⟩ := all hts
        exact ⟨g_tup hc q1 hs q2, rfl⟩
      · cases h
    | _ => simp [trTg] at h
theorem Gb.at (g : Gb c T P call k X) {s : Shared} {H : Hp} {scope : Scope} {cenv : PySem.Env} {fp : List Addr} : Gb c T P call k (X.blk s H scope cenv fp) :=
  ⟨g.fns, g.clss, fun m n h => ⟨(g.mths m n h).nofld, (g.mths m n h).all⟩, g.fld, g.fldn, g.blts, g.cons, g.excs⟩
theorem Cz.blk (z : Cz c T P call k false X W sc) {s : Shared} {H : Hp} {scope : Scope} {cl : List (Str × Addr)} {C : Addr} {fp : List Addr} :
    Cz c T P call k false (X.blk s H scope (compEnvC scope cl C X.env) fp) W0 (relS scope sc) :=
  ⟨by rw [← z.sc]; rfl, z.N, z.nd, z.calm, z.rm, z.hu, takes0, z.gb.at⟩
theorem so_comp (z : Cz c T P call k hot X W sc) (ih : Ih c T P call k hot r) {nw : Bool} {elt : Expr} {gs : List Comprehension} {scope : Scope} : SE T P call X W (.ListComp elt gs scope pos) (sComp c hot r.e r.t r.i sc nw elt gs scope) := by
  unfold sComp
  split
  · rename_i tg iter ifs
    split
    · rename_i t ts ht hts
      split
      · rename_i hok
        simp only [Bool.and_eq_true, Bool.not_eq_true'] at hok
        obtain ⟨⟨⟨h1, h2⟩, h3⟩, hh⟩ := hok
        subst hh
        have tgok : ∀ (s : Shared) (H : Hp) (C : Addr) (cl : List (Str × Addr)) (fp : List Addr), PG (X.blk s H scope (compEnvC scope cl C X.env) fp) tg (tgR T t) := fun s H C cl fp =>
          (so_tg (X := X.blk s H scope (compEnvC scope cl C X.env) fp) (c := c) (sc := scope) z.N z.nd (z.calm rfl) (fun x hx => by
            rcases loc_of hx with q | q
            · have : (relS scope X.env.scope).names.lookup x = some .local := lookup_relS_keep (by decide) q
              exact ⟨.inl this, .inr this⟩
            · have : (relS scope X.env.scope).names.lookup x = some .cell := lookup_relS_keep (by decide) q
              refine ⟨.inr this, .inl ?_⟩
              show (scope.names.lookup x == some NameKind.cell) = true
              rw [q]; rfl) 4 ht).1
        have hts' : ∀ (s : Shared) (H : Hp) (C : Addr) (cl : List (Str × Addr)) (fp : List Addr), STs T P call (X.blk s H scope (compEnvC scope cl C X.env) fp) W0 ifs ts := fun s H C cl fp => by
          split at hts
          · cases hts; exact ts_nil
          · cases hts; exact ts_one (ih.t _ _ _ z.blk _)
          · cases hts
        have hsl : ∀ i ∈ t.slots, i ∈ (ownOf c tg).map (·.2) := fun i hi => by
          unfold slotsIn at h2
          simp only [List.all_eq_true, List.contains_iff_mem] at h2
          exact h2 i hi
        cases nw with
        | false =>
          rw [if_neg (by decide)]
          exact s_comp (z.calm rfl) (by rw [z.N]; exact z.nd) (ih.i X W sc z tg iter) (by rw [z.N, z.sc]; exact blkOk_by h1) tgok hts' (fun s H C cl fp => ih.e _ _ _ z.blk _) hsl h3
        | true =>
          rw [if_pos rfl]
          exact s_compN (z.calm rfl) (by rw [z.N]; exact z.nd) (ih.i X W sc z tg iter) (by rw [z.N, z.sc]; exact blkOk_by h1) tgok hts' (fun s H C cl fp => ih.e _ _ _ z.blk _) hsl h3
      · exact s_nope
    · exact s_nope
  · exact s_nope
theorem i_nope {tg e : Expr} : SI T P call X W tg e (.seq .nope) := ⟨fun _ _ _ _ _ _ ⟨_, _, _, _, _, af⟩ => by simp only [evalI, evalE, R.bind] at af; exact af.elim⟩
theorem tupE {e : Expr} (h : isTupE e = true) : ∃ es k p, e = .Tuple es k p := by
  cases e <;> first | exact ⟨_, _, _, rfl⟩ | (simp [isTupE] at h)
theorem so_iter (z : Cz c T P call k hot X W sc) (h : ∀ e, SE T P call X W e (r.e sc e)) {tg : Expr} {f : Str} {args : List Expr} : SI T P call X W tg (.Call (.Name f p) args [] pos) (sIter c r.e sc tg f args (.Call (.Name f p) args [] pos)) := by
  unfold sIter
  split
  · rename_i hok
    simp only [Bool.and_eq_true] at hok
    obtain ⟨⟨⟨hb, hg⟩, hn⟩, hs⟩ := hok
    split
    · rename_i hr
      subst hr
      split
      · simp only [List.all_cons, Bool.and_eq_true] at hs
        exact i_rng1 (z.gl hg) (z.gb.blts _ hb) (h _) hs.1
      · simp only [List.all_cons, Bool.and_eq_true] at hs
        exact i_rng2 (z.gl hg) (z.gb.blts _ hb) (h _) (h _) hs.1 hs.2.1
      · exact i_nope
    · split
      · rename_i hr
        subst hr
        split
        · split
          · rename_i ht
            obtain ⟨es, k, p', rfl⟩ := tupE ht
            simp only [List.all_cons, Bool.and_eq_true] at hs
            exact i_enum (z.gl hg) (z.gb.blts _ hb) (h _) hs.1
          · exact i_nope
        · exact i_nope
      · split
        · rename_i hr
          subst hr
          split
          · split
            · rename_i ht
              obtain ⟨es, k, p', rfl⟩ := tupE ht
              simp only [List.all_cons, Bool.and_eq_true] at hs
              exact i_zip (z.gl hg) (z.gb.blts _ hb) (h _) (h _) hs.1 hs.2.1
            · exact i_nope
          · exact i_nope
        · exact i_seq (h _)
  · exact i_seq (h _)
theorem so_step (ih : Ih c T P call k hot r) : Ih c T P call k hot ⟨fun sc => stepE c hot r.e r.t r.i sc, fun sc => stepT r.e r.t sc, fun sc => stepI c r.e sc⟩ where
  e := fun X W sc z e => by
    have hE := ih.e X W sc z
    have hT := ih.t X W sc z
    show SE T P call X W e (stepE c hot r.e r.t r.i sc e)
    unfold stepE
    split
    · exact so_name z
    · exact so_const
    · split
      · rename_i hs; exact s_tup (so_args hE hs)
      · exact s_nope
    · split
      · rename_i hs; exact s_lst (so_args hE hs)
      · exact s_nope
    · split
      · rename_i h15
        split
        · rename_i xs hxs
          obtain ⟨h1, h2, h3, h4⟩ := so_dict (pos := by assumption) hE hxs
          rename_i ks vs _ _
          by_cases h0 : ks = []
          · subst h0
            have : vs = [] := by simpa using h4.symm
            subst this
            simp only [sDict] at hxs
            cases hxs
            exact s_dnew
          · exact s_disp h1 h2 h3 h4 h0 h15
        · exact s_nope
      · exact s_nope
    · exact s_bin (hE _) (hE _)
    · exact s_neg (hE _)
    · exact s_not (hE _)
    · exact so_and hE
    · exact so_or hE
    · exact s_ife (hT _) (hE _) (hE _)
    · split
      · rename_i hs; exact s_cmp z.hu (hE _) (hE _) (no_marks hs _)
      · exact s_nope
    · split
      · rename_i hs; exact s_chn z.hu (hE _) (hE _) (hE _) (no_marks hs _)
      · exact s_nope
    · exact so_sub z hE
    · split
      · rename_i hab
        split
        · rename_i j hj; exact s_fld z.gb.fld (z.gb.fldn _ _ hj) (hE _) hab
        · exact s_nope
      · exact s_nope
    · exact so_call z hE
    · exact so_meth z hE
    · exact so_comp z ih
    · exact s_nope
  t := fun X W sc z e => by
    have hE := ih.e X W sc z
    have hT := ih.t X W sc z
    show ST T P call X W e (stepT r.e r.t sc e)
    unfold stepT
    split
    · exact t_not (hT _)
    · exact (so_tand hT).st
    · exact (so_tor hT).st
    · split
      · rename_i hs; exact t_cmp z.hu (hE _) (hE _) (no_marks hs _)
      · exact t_nope
    · split
      · rename_i hs; exact t_chn z.hu (hE _) (hE _) (hE _) (no_marks hs _)
      · exact t_nope
    · split
      · rename_i hp; exact t_val (hE _) (plain_t hp _)
      · exact t_nope
  i := fun X W sc z tg e => by
    have hE := ih.e X W sc z
    show SI T P call X W tg e (stepI c r.e sc tg e)
    unfold stepI
    split
    · exact so_iter z hE
    · exact i_seq (hE _)
theorem so_all : ∀ n : Nat, Ih c T P call k hot (trP c hot n)
  | 0 => ⟨fun _ _ _ _ _ => s_nope, fun _ _ _ _ _ => t_nope, fun _ _ _ _ _ _ => i_nope⟩
  | n + 1 => so_step (so_all n)
end
end HW
/-! Statements: their translation is sound. -/
namespace HW
open PySem L2
def swNames (sc : Scope) (ts : List Expr) : List Str :=
  ts.filterMap fun
    | .Name id pos => if sc.names.lookup id == some .local && pos.line == (ts.head?.map (·.pos.line)).getD 0 then some id else none
    | _ => none
/-- which way a, b = x, y is stored -/
def swB (sc : Scope) (ts vs : List Expr) : Option (Option (List Str)) :=
  if !(ts.length == 2 || ts.length == 3) || vs.length != ts.length then some none
  else if vs.all noStar then
    if (swNames sc ts).length != ts.length || (swNames sc ts).eraseDups.length != (swNames sc ts).length then some none
    else if vs.all (foldedForSure 8) then some none
    else if vs.all (constantsAlone 8) then none
    else some (some (swNames sc ts))
  else none
theorem any_star : ∀ {vs : List Expr}, vs.all noStar = true → (vs.any fun | .Starred .. => true | _ => false) = false
  | [], _ => rfl
  | v :: vs, h => by
    simp only [List.all_cons, Bool.and_eq_true] at h
    simp only [List.any_cons, any_star h.2, Bool.or_false]
    cases v <;> first | rfl | (simp [noStar] at h)
theorem swB_ok {sc : Scope} {ts vs : List Expr} {k k2 : Nat} {p p2 : Pos} {env : PySem.Env} {r : Option (List Str)} (hs : env.scope = sc) (hk : sc.kind = .function) (h : swB sc ts vs = some r) :
    swappedStores [.Tuple ts k p] (.Tuple vs k2 p2) env = pure r := by
  subst hs
  have hb : env.blockKind = .function := by unfold PySem.Env.blockKind; rw [hk]; rfl
  unfold swB at h
  unfold swappedStores
  simp only [hb]
  split at h
  · rename_i h1
    cases h
    refine if_pos ?_
    simp only [Bool.or_eq_true] at h1 ⊢
    exact .inl h1
  · rename_i h1
    refine (if_neg ?_).trans ?_
    · simp only [Bool.or_eq_true, not_or] at h1 ⊢
      exact ⟨h1, by decide⟩
    split at h
    · rename_i h2
      refine (if_neg ?_).trans ?_
      · rw [Bool.not_eq_true]; exact any_star h2
      split at h
      · rename_i h3
        cases h
        exact if_pos h3
      · rename_i h3
        refine (if_neg h3).trans ?_
        split at h
        · rename_i h4
          cases h
          exact if_pos h4
        · rename_i h4
          refine (if_neg h4).trans ?_
          split at h
          · cases h
          · rename_i h5
            cases h
            exact (if_neg h5).trans rfl
    · cases h
section
variable (c : Cfg) (hot : Bool) (r : Trs) (rS rH : List Stmt → List HW.St) (sc : Scope)
/-- a value for a target: a list that is to be changed is made as such -/
def sVal (tg v : Expr) : HW.X :=
  match tg, v with
  | .Name x _, .List es _ => if c.muts.contains x then (if es.all noStar then .newL (es.map (r.e sc)) else .nope) else r.e sc v
  | _, v => r.e sc v
def swLc (x : Str) (px : Pos) (scope : Scope) (lpos : Pos) : Bool := lclC sc x && (px.line == lpos.line) && !(scope.names.any fun (n, k) => n == x && (k == .local || k == .cell))
def sAsgN (x : Str) (px : Pos) (e : Expr) : HW.St :=
  if locC sc x && okN x then
    match ixOf c.N x with
    | some i => (match e with
      | .ListComp elt gs scope lpos => if swLc sc x px scope lpos || c.muts.contains x then .asg (.name i) (sComp c hot r.e r.t r.i sc (c.muts.contains x) elt gs scope) else .asg (.name i) (r.e sc e)
      | e => if noComp e then .asg (.name i) (sVal c r sc (.Name x px) e) else .nope)
    | none => .nope
  else .nope
def sPar (ts vs : List Expr) : HW.St :=
  match ts, vs with
  | [.Name x px, .Name y py], [a, b] => (match ixOf c.N x, ixOf c.N y with
    | some i, some j => if lclC sc x && lclC sc y && noStar a && noStar b && (i != j) && !hot then .asg (.tup [.name i, .name j]) (.tup [sVal c r sc (.Name x px) a, sVal c r sc (.Name y py) b]) else .nope
    | _, _ => .nope)
  | [.Name x px, .Name y py, .Name z pz], [a, b, d] => (match ixOf c.N x, ixOf c.N y, ixOf c.N z with
    | some i, some j, some l => if lclC sc x && lclC sc y && lclC sc z && noStar a && noStar b && noStar d && (i != j) && (i != l) && (j != l) && !hot then .asg (.tup [.name i, .name j, .name l]) (.tup [sVal c r sc (.Name x px) a, sVal c r sc (.Name y py) b, sVal c r sc (.Name z pz) d]) else .nope
    | _, _, _ => .nope)
  | _, _ => .nope
def namesOfT : List Expr → List Str
  | [] => []
  | .Name x _ :: r => x :: namesOfT r
  | _ :: r => namesOfT r
def sAsg (tg e : Expr) : HW.St :=
  match tg with
  | .Name x px => sAsgN c hot r sc x px e
  | .Tuple ts k p => (match e with
    | .Tuple vs k2 p2 => (match swB sc ts vs with
      | some none => if !hot && vs.all noStar && (ts.length == vs.length) then (match trTg c sc 4 tg with
          | some t => .asg t (.tup ((ts.zip vs).map fun (a, b) => sVal c r sc a b ))
          | none => .nope) else .nope
      | some (some names) => if names = namesOfT ts then sPar c hot r sc ts vs else .nope
      | none => .nope)
    | e => if noComp e && !hot then (match trTg c sc 4 tg with
      | some t => .asg t (r.e sc e)
      | none => .nope) else .nope)
  | .Subscript o i _ => if noSlice i && noComp e then .sub (r.e sc o) (r.e sc i) (r.e sc e) else .nope
  | .Attribute o f _ => if noComp e then (match c.flds.lookup f with | some k => .fld (r.e sc o) k (r.e sc e) | none => .nope) else .nope
  | _ => .nope
def stepS (st : Stmt) : HW.St :=
  match st with
  | .Expr (.Constant (.str _) _ _) _ => .pass
  | .Expr e _ => if noComp e then .expr (r.e sc e) else .nope
  | .Return (some e) _ => .ret (r.e sc e)
  | .Return none _ => .retN
  | .Pass _ => .pass
  | .Break _ => .brk
  | .Continue _ => .cont
  | .If t a b _ => .ite (r.t sc t) (rS a) (rS b)
  | .For tg it body [] _ => if noSet it && !hot then (match trTg c sc 4 tg with | some t => .for t (r.i sc tg it) (rS body) | none => .nope) else .nope
  | .While t body [] _ => .while (r.t sc t) (rS body)
  | .Raise (some (.Call (.Name x _) [] [] _)) none _ => if glC sc x && okN x && !hot then (match c.excs.lookup x with | some h => .raise h | none => .nope) else .nope
  | .Try body [.ExceptHandler (some (.Name x _)) none (b :: suite) _] [] [] _ => if glC sc x && okN x && !hot then (match c.excs.lookup x with | some h => .try (rS body) [(h, rH (b :: suite))] | none => .nope) else .nope
  | .Assign [tg] e _ => sAsg c hot r sc tg e
  | _ => .nope
end
def trSs (c : Cfg) (m : Nat) : Nat → Bool → Scope → List Stmt → List HW.St
  | 0, _, _, _ => [.nope]
  | n + 1, hot, sc, sts => sts.map (stepS c hot (trP c hot m) (trSs c m n hot sc) (trSs c m n true sc) sc)
/-- the context of statements -/
structure CzS (c : Cfg) (T : Tie) (P : Prog) (call : Call) (k : Nat) (hot : Bool) (X : Cx) (W : WX) (s0 : Scope) : Prop extends Cz c T P call k hot X W s0 where
  kd : s0.kind = .function
  fn : ∀ x, locC s0 x = true → X.fn x = true ∨ s0.names.lookup x = some .local
  hp : PassesOwn (model X.prog X.w) X.A X.env X.xe
  stk : X.stack = X.env :: X.outer
  fr : X.env.frame = some X.env.locals
section
variable {c : Cfg} {T : Tie} {P : Prog} {call : Call} {k : Nat} {hot : Bool} {X : Cx} {W : WX} {sc : Scope} {r : Trs} {e tg : Expr} {pos p : Pos}
theorem CzS.tgt (z : CzS c T P call k hot X W sc) (hc : X.calm = true) {n : Nat} {t : Tg} (h : trTg c sc n tg = some t) : PG X tg (tgR T t) ∧ noStar tg = true :=
  so_tg z.N z.nd hc (fun x hx => by
    rw [z.sc]
    exact ⟨loc_of hx, z.fn x hx⟩) n h
theorem so_val (hE : ∀ e, SE T P call X W e (r.e sc e)) {v : Expr} : SE T P call X W v (sVal c r sc tg v) := by
  unfold sVal
  split
  · split
    · split
      · rename_i hs; exact s_newL (so_args hE hs)
      · exact s_nope
    · exact hE _
  · exact hE _
theorem so_zip (hE : ∀ e, SE T P call X W e (r.e sc e)) : ∀ {ts vs : List Expr}, ts.length = vs.length → vs.all noStar = true → SA T P call X W vs ((ts.zip vs).map fun (a, b) => sVal c r sc a b)
  | [], [], _, _ => a_nil
  | [], _ :: _, h, _ => by simp at h
  | _ :: _, [], h, _ => by simp at h
  | t :: ts, v :: vs, h, hs => by
    simp only [List.all_cons, Bool.and_eq_true] at hs
    exact a_cons (so_val hE) (so_zip hE (by simpa using h) hs.2) (star_cons hs.1 vs _)
theorem lcl_of {x : Str} (h : lclC sc x = true) : sc.names.lookup x = some .local := by
  unfold lclC at h
  split at h
  · assumption
  · cases h
theorem swapsN {elt : Expr} {gs : List Comprehension} {scope : Scope} {x : Str} {px lpos : Pos} {l : Nat} {env : PySem.Env} (hs : env.scope = sc) (hk : sc.kind = .function) :
    swapsWith (.ListComp elt gs scope lpos) (some (.Name x px)) l env = pure (swLc sc x px scope lpos) := by
  have hb : env.blockKind = .function := by unfold PySem.Env.blockKind; rw [hs, hk]; rfl
  unfold swapsWith swLc lclC
  simp only [hb, PySem.Env.kindOf, hs, Expr.pos]
  congr 1
  cases sc.names.lookup x with
  | none => rfl
  | some k => cases k <;> rfl
theorem ss_asgN (z : CzS c T P call k hot X W sc) (ih : Ih c T P call k hot r) {x : Str} {px : Pos} : SS T P call X W (.Assign [.Name x px] e pos) (sAsgN c hot r sc x px e) := by
  have hE := ih.e X W sc z.toCz
  unfold sAsgN
  split
  case isFalse => exact ss_nope
  rename_i hx
  simp only [Bool.and_eq_true] at hx
  split
  case h_2 => exact ss_nope
  rename_i i hi
  have hN : X.N.Nodup := by rw [z.N]; exact z.nd
  have hi' : X.N[i]? = some x := by rw [z.N]; exact ix_get hi
  have hl : Loc X.env.scope x := by rw [z.sc]; exact loc_of hx.1
  have hf : X.fn x = true ∨ X.env.scope.names.lookup x = some .local := by rw [z.sc]; exact z.fn x hx.1
  split
  · rename_i elt gs scope lpos
    generalize c.muts.contains x = nw
    split
    · cases hsw : swLc sc x px scope lpos with
      | false => exact ss_set hN hi' hl hf (so_comp z.toCz ih) (by rw [swapsN z.sc z.kd, hsw])
      | true =>
        unfold sComp
        split
        · rename_i tg iter ifs
          split
          · rename_i t ts ht hts
            split
            · rename_i hok
              simp only [Bool.and_eq_true, Bool.not_eq_true'] at hok
              obtain ⟨⟨⟨h1, h2⟩, h3⟩, hh⟩ := hok
              subst hh
              have z' := z.toCz
              have tgok : ∀ (s : Shared) (H : Hp) (C : Addr) (cl : List (Str × Addr)) (fp : List Addr), PG (X.blk s H scope (compEnvC scope cl C X.env) fp) tg (tgR T t) := fun s H C cl fp =>
                (so_tg (X := X.blk s H scope (compEnvC scope cl C X.env) fp) (c := c) (sc := scope) z.N z.nd (z.calm rfl) (fun x hx => by
                  rcases loc_of hx with q | q
                  · have : (relS scope X.env.scope).names.lookup x = some .local := lookup_relS_keep (by decide) q
                    exact ⟨.inl this, .inr this⟩
                  · have : (relS scope X.env.scope).names.lookup x = some .cell := lookup_relS_keep (by decide) q
                    refine ⟨.inr this, .inl ?_⟩
                    show (scope.names.lookup x == some NameKind.cell) = true
                    rw [q]; rfl) 4 ht).1
              have hlc : sc.names.lookup x = some .local := by
                unfold swLc at hsw
                simp only [Bool.and_eq_true] at hsw
                exact lcl_of hsw.1.1
              have hts' : ∀ (s : Shared) (H : Hp) (C : Addr) (cl : List (Str × Addr)) (fp : List Addr), STs T P call (X.blk s H scope (compEnvC scope cl C X.env) fp) W0 ifs ts := fun s H C cl fp => by
                split at hts
                · cases hts; exact ts_nil
                · cases hts; exact ts_one (ih.t _ _ _ z'.blk _)
                · cases hts
              have hsl : ∀ i ∈ t.slots, i ∈ (ownOf c tg).map (·.2) := fun i hi => by
                unfold slotsIn at h2
                simp only [List.all_eq_true, List.contains_iff_mem] at h2
                exact h2 i hi
              cases nw with
              | false =>
                rw [if_neg (by decide)]
                exact ss_setLc (wi := rd T (BearsR T) (wn T W) (evalI P call (r.i sc tg iter))) (g := tgR T t) (tt := rd T BR (wn T W0) (evalTs P call ts)) (te := rd T RV (wn T W0) (evalE P call (r.e (relS scope sc) elt))) (own := ownOf c tg)
                  (z.calm rfl) hN hi' (by rw [z.sc]; exact hlc) (by rw [swapsN z.sc z.kd, hsw]) (ih.i X W sc z' tg iter) (by rw [z.N, z.sc]; exact blkOk_by h1) tgok hts' (fun s H C cl fp => ih.e _ _ _ z'.blk _) (fun x => no_fold h3 _ _) (fun σ H Q h => comp_imp hsl h)
              | true =>
                rw [if_pos rfl]
                exact ss_setLc (wi := rd T (BearsR T) (wn T W) (evalI P call (r.i sc tg iter))) (g := tgR T t) (tt := rd T BR (wn T W0) (evalTs P call ts)) (te := rd T RV (wn T W0) (evalE P call (r.e (relS scope sc) elt))) (own := ownOf c tg)
                  (z.calm rfl) hN hi' (by rw [z.sc]; exact hlc) (by rw [swapsN z.sc z.kd, hsw]) (ih.i X W sc z' tg iter) (by rw [z.N, z.sc]; exact blkOk_by h1) tgok hts' (fun s H C cl fp => ih.e _ _ _ z'.blk _) (fun x => no_fold h3 _ _) (fun σ H Q h => compN_imp hsl h)
            · exact ps_imp (ps_never) fun D σ H ⟨_, _, _, _, _, af⟩ => by simp only [execS, evalE] at af; exact af.elim
          · exact ps_imp (ps_never) fun D σ H ⟨_, _, _, _, _, af⟩ => by simp only [execS, evalE] at af; exact af.elim
        · exact ps_imp (ps_never) fun D σ H ⟨_, _, _, _, _, af⟩ => by simp only [execS, evalE] at af; exact af.elim
    · rename_i hsw
      simp only [Bool.or_eq_true, not_or, Bool.not_eq_true] at hsw
      exact ss_set hN hi' hl hf (hE _) (by rw [swapsN z.sc z.kd, hsw.1])
  · split
    · rename_i hn
      exact ss_set hN hi' hl hf (so_val hE) (no_swap hn _ _ _)
    · exact ss_nope
theorem ss_asgP (z : CzS c T P call k hot X W sc) (ih : Ih c T P call k hot r) {ts vs : List Expr} {k1 k2 : Nat} {p1 p2 : Pos} (hw : swB sc ts vs = some (some (namesOfT ts))) : SS T P call X W (.Assign [.Tuple ts k1 p1] (.Tuple vs k2 p2) pos) (sPar c hot r sc ts vs) := by
  have hE := ih.e X W sc z.toCz
  have hN : X.N.Nodup := by rw [z.N]; exact z.nd
  have hsw := swB_ok (k := k1) (k2 := k2) (p := p1) (p2 := p2) z.sc z.kd hw
  unfold sPar
  split
  · split
    · rename_i i j hi hj
      split
      · rename_i hok
        simp only [Bool.and_eq_true, Bool.not_eq_true', bne_iff_ne, ne_eq] at hok
        obtain ⟨⟨⟨⟨⟨h1, h2⟩, h3⟩, h4⟩, h5⟩, hh⟩ := hok
        subst hh
        exact ss_par (z.calm rfl) hN (by rw [z.N]; exact ix_get hi) (by rw [z.N]; exact ix_get hj) h5 (by rw [z.sc]; exact lcl_of h1) (by rw [z.sc]; exact lcl_of h2) (so_val hE) (so_val hE) h3 h4 hsw
      · exact ss_nope
    · exact ss_nope
  · split
    · rename_i i j l hi hj hl
      split
      · rename_i hok
        simp only [Bool.and_eq_true, Bool.not_eq_true', bne_iff_ne, ne_eq] at hok
        obtain ⟨⟨⟨⟨⟨⟨⟨⟨⟨h1, h2⟩, h3⟩, h4⟩, h5⟩, h6⟩, h7⟩, h8⟩, h9⟩, hh⟩ := hok
        subst hh
        exact ss_par3 (z.calm rfl) hN (by rw [z.N]; exact ix_get hi) (by rw [z.N]; exact ix_get hj) (by rw [z.N]; exact ix_get hl) h7 h8 h9 (by rw [z.sc]; exact lcl_of h1) (by rw [z.sc]; exact lcl_of h2) (by rw [z.sc]; exact lcl_of h3) (so_val hE) (so_val hE) (so_val hE) h4 h5 h6 hsw
      · exact ss_nope
    · exact ss_nope
  · exact ss_nope
theorem trTg_len {n : Nat} {ts : List Expr} {k : Nat} {p : Pos} {t : Tg} (h : trTg c sc n (.Tuple ts k p) = some t) : ∃ xs, t = .tup xs ∧ xs.length = ts.length := by
  cases n with
  | zero => simp [trTg] at h
  | succ n =>
    simp only [trTg] at h
    split at h
    · simp only [Option.map_eq_some_iff] at h
      obtain ⟨xs, hx, rfl⟩ := h
      refine ⟨xs, rfl, ?_⟩
      have : ∀ {es : List Expr} {ts : List Tg}, es.mapM (trTg c sc n) = some ts → ts.length = es.length := fun {es} => by
        induction es with
        | nil => intro ts h; simp at h; subst h; rfl
        | cons e es ih =>
          intro ts h
          obtain ⟨b, bs, rfl, _, h2⟩ := mapM_cons_some h
          simp [ih h2]
      exact this hx
    · cases h
theorem no_sole {t e : Expr} {l : Nat} {env : PySem.Env} (h : noComp e = true) : swapsWithSole [t] e l env = pure false := no_swap h _ _ _
theorem no_sw1 {o i : Expr} {p : Pos} {e : Expr} {env : PySem.Env} : swappedStores [.Subscript o i p] e env = pure none := by cases e <;> rfl
theorem no_sw2 {ts : List Expr} {k : Nat} {p : Pos} {e : Expr} {env : PySem.Env} (h : ∀ vs k p, e ≠ .Tuple vs k p) : swappedStores [.Tuple ts k p] e env = pure none := by
  cases e <;> first | rfl | exact absurd rfl (h _ _ _)
theorem ss_asgA (z : CzS c T P call k hot X W sc) (ih : Ih c T P call k hot r) : SS T P call X W (.Assign [tg] e pos) (sAsg c hot r sc tg e) := by
  have hE := ih.e X W sc z.toCz
  unfold sAsg
  split
  · exact ss_asgN z ih
  · rename_i ts k1 p1
    split
    · rename_i vs k2 p2
      split
      · rename_i hw
        split
        · rename_i hok
          simp only [Bool.and_eq_true, Bool.not_eq_true'] at hok
          obtain ⟨⟨hh, hs⟩, hl⟩ := hok
          have hl : ts.length = vs.length := by simpa using hl
          subst hh
          split
          · rename_i t ht
            obtain ⟨h1, h2⟩ := z.tgt (z.calm rfl) ht
            obtain ⟨xs, rfl, hx⟩ := trTg_len ht
            exact ss_asg (s_tup (so_zip hE hl hs)) h1 rfl (swB_ok z.sc z.kd hw) h2
          · exact ss_nope
        · exact ss_nope
      · rename_i names hw
        split
        · rename_i hn
          subst hn
          exact ss_asgP z ih hw
        · exact ss_nope
      · exact ss_nope
    · split
      · rename_i hok
        simp only [Bool.and_eq_true, Bool.not_eq_true'] at hok
        obtain ⟨hn, hh⟩ := hok
        subst hh
        split
        · rename_i hne _ t ht
          obtain ⟨h1, h2⟩ := z.tgt (z.calm rfl) ht
          exact ss_asg (hE _) h1 (no_sole hn) (no_sw2 (by intro vs k p q; exact hne _ _ _ q)) h2
        · exact ss_nope
      · exact ss_nope
  · split
    · rename_i hok
      simp only [Bool.and_eq_true] at hok
      exact ss_sub z.hu (hE _) (hE _) (hE _) hok.1 (no_sole hok.2) no_sw1
    · exact ss_nope
  · split
    · rename_i hn
      split
      · rename_i j hj
        exact ss_fld z.gb.fld (z.gb.fldn _ _ hj) (hE _) (hE _) (no_swap hn _ _ _)
      · exact ss_nope
    · exact ss_nope
  · exact ss_nope
/-- X(), an own error -/
theorem pmk0 {x : Str} {C : Addr} {bmB : List Value} {B newId initId : String} (F : ExcBaseFacts B newId initId bmB) (q : PySem.W.excIn X.K C bmB newId = true) (gC : X.mg x = some (.ref C)) (kC : PySem.W.keepIn X.K (.ref C) = true) (rs : Raises X (.ref C)) (hg : Gl X x)
    (hdb : (x == ("__debug__" : Str)) = false) : PMk X (.Call (.Name x p) [] [] pos) (fun _ H Q => Q (.ref C) none H) := by
  intro pins s σ H Q I h
  refine wpAny_Call_Name_kw (ld_glob I hg gC ?_ hdb)
  refine PySem.W.callWith_K0 I.kIn kC ?_
  show wpAny _ _ (PySem.call (.ref C) []) _ _ _
  obtain ⟨bm, N, nm, qn, bs, hdct, sn, sub, ab, col, dd, k0, k1, k2, k3, k5, mN, hC, hN, hni, T⟩ := exc_obj I.kIn q
  refine wpAny_call_exc_subT F T hC hN hni (fun h' e hm => ?_) (by show 0 ≤ sizeLine; rw [sizeLine_eq]; omega)
  exact mk_of I hm rs h (I.hok.gone hm.new)
theorem Gb.tr (g : Gb c T P call k X) {pn : List (Addr × Obj)} {xe : Value → Shared → Prop} : Gb c T P call k (X.tr pn xe) :=
  ⟨g.fns, g.clss, fun m n h => ⟨(g.mths m n h).nofld, (g.mths m n h).all⟩, g.fld, g.fldn, g.blts, g.cons, g.excs⟩
theorem Gb.suite (g : Gb c T P call k X) {a : Addr} {pn : List (Addr × Obj)} : Gb c T P call k (X.suite a pn) :=
  ⟨g.fns, g.clss, fun m n h => ⟨(g.mths m n h).nofld, (g.mths m n h).all⟩, g.fld, g.fldn, g.blts, g.cons, g.excs⟩
theorem CzS.tr (z : CzS c T P call k hot X W sc) {W' : WX} {pn : List (Addr × Obj)} {xe : Value → Shared → Prop} (tk : Takes (X.tr pn xe) W') (hp : PassesOwn (model X.prog X.w) X.A X.env xe) : CzS c T P call k hot (X.tr pn xe) W' sc :=
  ⟨⟨z.sc, z.N, z.nd, z.calm, z.rm, z.hu, tk, z.gb.tr⟩, z.kd, z.fn, hp, z.stk, z.fr⟩
theorem CzS.suite (z : CzS c T P call k hot X W sc) {a : Addr} {pn : List (Addr × Obj)} : CzS c T P call k true (X.suite a pn) W0 sc :=
  ⟨⟨z.sc, z.N, z.nd, fun h => (nomatch h), fun h => (nomatch h), z.hu, takes0, z.gb.suite⟩, z.kd, z.fn, PassesOwn.never, z.stk, z.fr⟩
theorem so_stm {rS rH : List Stmt → List HW.St} (z : CzS c T P call k hot X W sc) (ih : Ih c T P call k hot r) (hS : ∀ X W, CzS c T P call k hot X W sc → ∀ sts, SSs T P call X W sts (rS sts)) (hH : ∀ X W, CzS c T P call k true X W sc → ∀ sts, SSs T P call X W sts (rH sts)) (st : Stmt) :
    SS T P call X W st (stepS c hot r rS rH sc st) := by
  have hE := ih.e X W sc z.toCz
  have hT := ih.t X W sc z.toCz
  unfold stepS
  split
  · exact ss_doc
  · split
    · rename_i hn; exact ss_expr (hE _) hn
    · exact ss_nope
  · exact ss_ret (hE _)
  · exact ss_retN
  · exact ss_pass
  · exact ss_brk
  · exact ss_cont
  · exact ss_if (hT _) (hS _ _ z _) (hS _ _ z _)
  · split
    · rename_i hok
      simp only [Bool.and_eq_true, Bool.not_eq_true'] at hok
      obtain ⟨hf, hh⟩ := hok
      subst hh
      split
      · rename_i t ht
        exact ss_for z.hp (z.calm rfl) (ih.i X W sc z.toCz _ _) (z.tgt (z.calm rfl) ht).1 (hS _ _ z _) hf
      · exact ss_nope
    · exact ss_nope
  · exact ss_while z.hp (hT _) (hS _ _ z _)
  · split
    · rename_i hok
      simp only [Bool.and_eq_true, Bool.not_eq_true'] at hok
      obtain ⟨⟨hg, hn⟩, hh⟩ := hok
      subst hh
      split
      · rename_i h hh
        obtain ⟨h1, ⟨bmB, B, newId, initId, h2, h3⟩, h4, h5, h6⟩ := z.gb.excs _ _ hh
        exact ss_raise (z.calm rfl) z.tk (pmk0 h2 h3 h1 h4 h5 (z.gl hg) (okN_1 hn))
      · exact ss_nope
    · exact ss_nope
  · split
    · rename_i hok
      simp only [Bool.and_eq_true, Bool.not_eq_true'] at hok
      obtain ⟨⟨hg, hn⟩, hh⟩ := hok
      subst hh
      split
      · rename_i h hh
        obtain ⟨h1, _, _, _, h6⟩ := z.gb.excs _ _ hh
        exact ss_try z.stk z.fr ⟨z.gl hg, okN_1 hn, .inl h1⟩ z.tk h6 (fun W pn xe tk hp => hS _ _ (z.tr tk hp) _) (fun a pn => hH _ _ z.suite _)
      · exact ss_nope
    · exact ss_nope
  · exact ss_asgA z ih
  · exact ss_nope
theorem so_stms {m : Nat} : ∀ (n : Nat) (hot : Bool) (X : Cx) (W : WX), CzS c T P call k hot X W sc → ∀ sts, SSs T P call X W sts (trSs c m n hot sc sts)
  | 0, _, X, W, _, sts => ⟨fun _ _ _ _ _ _ ⟨_, _, _, _, _, af⟩ => by simp only [trSs, execs, execS, O.andThen] at af; exact af.elim⟩
  | n + 1, hot, X, W, z, sts => by
    show SSs T P call X W sts (sts.map (stepS c hot (trP c hot m) (trSs c m n hot sc) (trSs c m n true sc) sc))
    induction sts with
    | nil => exact sss_nil
    | cons st sts ih => exact sss_cons (so_stm z (so_all m) (so_stms n hot) (so_stms n true) st) ih
end
end HW
/-! Defs, the program, the law. -/
namespace HW
open PySem L2
def AllL {α : Type} (Φ : α → Prop) : List α → Prop
  | [] => True
  | a :: r => Φ a ∧ AllL Φ r
theorem AllL.look {α : Type} {Φ : Str × α → Prop} : ∀ {l : List (Str × α)} {x : Str} {a : α}, AllL Φ l → l.lookup x = some a → Φ (x, a)
  | [], _, _, _, h => by simp at h
  | (y, b) :: l, x, a, h, e => by
    rw [List.lookup_cons] at e
    split at e
    · rename_i q
      cases e
      have : x = y := by simpa using q
      subst this
      exact h.1
    · exact AllL.look h.2 e
theorem AllL.mem {α : Type} {Φ : α → Prop} : ∀ {l : List α} {a : α}, AllL Φ l → a ∈ l → Φ a
  | _ :: _, _, h, e => by
    rcases List.mem_cons.mp e with rfl | e
    · exact h.1
    · exact AllL.mem h.2 e
theorem AllL.get {α : Type} {Φ : α → Prop} {l : List α} {i : Nat} {a : α} (h : AllL Φ l) (e : l[i]? = some a) : Φ a := h.mem (List.mem_of_getElem? e)
/-- a def as it is to be read -/
structure FRow where
  x : Str
  q : Str
  st : Stmt
  N : List Str
  np : Nat
  muts : List Str
  gc : Bool
structure GCfg where
  fns : List (Str × Nat)
  clss : List (Str × Nat)
  excs : List (Str × Nat)
  consts : List (Str × D)
  flds : List Str
  mths : List Str
  blts : List Str
def numb (l : List Str) : Nat → List (Str × Nat) := fun n => match l with
  | [] => []
  | x :: r => (x, n) :: numb r (n + 1)
theorem numb_look : ∀ {l : List Str} {n : Nat} {x : Str} {i : Nat}, (numb l n).lookup x = some i → n ≤ i ∧ l[i - n]? = some x
  | [], _, _, _, h => by simp [numb] at h
  | y :: l, n, x, i, h => by
    simp only [numb, List.lookup_cons] at h
    split at h
    · rename_i q
      cases h
      have : x = y := by simpa using q
      subst this
      exact ⟨Nat.le_refl _, by simp⟩
    · obtain ⟨h1, h2⟩ := numb_look h
      refine ⟨by omega, ?_⟩
      have : i - n = (i - (n + 1)) + 1 := by omega
      rw [this]
      simpa using h2
def cfgOf (g : GCfg) (r : FRow) : Cfg := ⟨r.N, r.muts, g.fns, g.clss, g.excs, g.consts, numb g.flds 0, numb g.mths 0, g.blts⟩
def trDef (g : GCfg) (r : FRow) : Def := ⟨r.np, r.N.length, trSs (cfgOf g r) 40 20 false (defScope r.st) (defBody r.st), r.gc⟩
/-! ### the sweep -/
section
variable {T : Tie} {H H' : Hp} {μ : Mu} {m : List Addr} {S : Sto}
mutual
theorem RV.prune : ∀ {d : D} {v : V}, RV H (μ ++ m) v d → d.und μ.length = true → RV H μ v d
  | .non, _, h, _ => by cases h; exact .non
  | .bl _, _, h, _ => by cases h; exact .bl _
  | .int _, _, h, _ => by cases h; exact .int _
  | .str _, _, h, _ => by cases h with | str _ h => exact .str _ h
  | .ref n, _, h, u => by
    cases h with
    | ref h =>
      simp only [D.und, decide_eq_true_eq] at u
      rw [Mu.app_lt u] at h
      exact .ref h
  | .tup ds, _, h, u => by
    cases h with
    | tup h n r =>
      exact .tup h (fun z => n (z.elim (fun z => .inl (List.mem_append_left _ z)) .inr)) (RVs.prune r (by simpa [D.und] using u))
  | .lst ds, _, h, u => by
    cases h with
    | lst h n r =>
      exact .lst h (fun z => n (z.elim (fun z => .inl (List.mem_append_left _ z)) .inr)) (RVs.prune r (by simpa [D.und] using u))
theorem RVs.prune : ∀ {ds : List D} {vs : List V}, RVs H (μ ++ m) vs ds → D.undL μ.length ds = true → RVs H μ vs ds
  | [], _, h, _ => by cases h; exact .nil
  | d :: ds, _, h, u => by
    simp only [D.undL, Bool.and_eq_true] at u
    cases h with | cons a b => exact .cons (RV.prune a u.1) (RVs.prune b u.2)
end
theorem Paired.mapMem {α β : Type} {F G : α → β → Prop} : ∀ {l₁ : List α} {l₂ : List β}, Paired F l₁ l₂ → (∀ a b, b ∈ l₂ → F a b → G a b) → Paired G l₁ l₂
  | _, _, .nil, _ => .nil
  | _, _, .cons r t, f => .cons (f _ _ List.mem_cons_self r) (Paired.mapMem t fun a b h => f a b (List.mem_cons_of_mem _ h))
theorem ObR.prune {a : Addr} {o : Ob} (h : ObR T H (μ ++ m) a o) (u : o.und μ.length = true) : ObR T H μ a o := by
  cases o with
  | lst ds =>
    obtain ⟨xs, h1, h2⟩ := h
    exact ⟨xs, h1, h2.prune (by simpa [Ob.und] using u)⟩
  | dct kvs =>
    simp only [Ob.und, List.all_eq_true, Bool.and_eq_true] at u
    rcases h with ⟨kv, h1, h2⟩ | ⟨kv, h1, h2⟩
    · exact .inl ⟨kv, h1, Paired.mapMem h2 fun _ b hb z => ⟨z.1, z.2.prune (u b hb).2⟩⟩
    · exact .inr ⟨kv, h1, Paired.mapMem h2 fun _ b hb z => ⟨z.1, z.2.prune (u b hb).2⟩⟩
  | ins c fs =>
    simp only [Ob.und, List.all_eq_true] at u
    obtain ⟨hc, dx, xs, h1, h2⟩ := h
    exact ⟨hc, dx, xs, h1, Paired.mapMem h2 fun _ b hb z => ⟨z.1, z.2.prune (u b hb)⟩⟩
theorem SRel.prune (s : SRel T H (μ ++ m) S) (u : ∀ o, o ∈ S.take μ.length → o.und μ.length = true) : SRel T H μ (S.take μ.length) := by
  have hl : μ.length + m.length = S.length := by
    have := s.len
    show _ = _
    rw [← this]
    show μ.l.length + m.length = (μ.l ++ m).length
    simp
  refine ⟨by rw [List.length_take]; omega, (List.nodup_append.mp s.nd).1, fun b z => ⟨fun q => (s.hd b z).1 (List.mem_append_left _ q), (s.hd b z).2⟩, fun n b o h1 h2 => ?_⟩
  have hn := Mu.get_lt h1
  rw [List.getElem?_take_of_lt hn] at h2
  exact ObR.prune (s.ob n b o (by rw [Mu.app_lt hn]; exact h1) h2) (u o (List.mem_of_getElem? (by rw [List.getElem?_take_of_lt hn]; exact h2)))
mutual
theorem RV.und : ∀ {d : D} {v : V}, RV H μ v d → d.und μ.length = true
  | .non, _, _ => by simp [D.und]
  | .bl _, _, _ => by simp [D.und]
  | .int _, _, _ => by simp [D.und]
  | .str _, _, _ => by simp [D.und]
  | .ref n, _, h => by cases h with | ref h => simp only [D.und, decide_eq_true_eq]; exact Mu.get_lt h
  | .tup ds, _, h => by cases h with | tup h n r => simp only [D.und]; exact RVs.und r
  | .lst ds, _, h => by cases h with | lst h n r => simp only [D.und]; exact RVs.und r
theorem RVs.und : ∀ {ds : List D} {vs : List V}, RVs H μ vs ds → D.undL μ.length ds = true
  | [], _, _ => by simp [D.undL]
  | d :: ds, _, h => by cases h with | cons a b => simp only [D.undL, Bool.and_eq_true]; exact ⟨RV.und a, RVs.und b⟩
end
theorem Paired.all {α β : Type} {F : α → β → Prop} : ∀ {l₁ : List α} {l₂ : List β}, Paired F l₁ l₂ → ∀ b ∈ l₂, ∃ a, F a b
  | _, _, .nil, b, h => by simp at h
  | _, _, .cons r t, b, h => by
    rcases List.mem_cons.mp h with rfl | h
    · exact ⟨_, r⟩
    · exact Paired.all t b h
theorem KeyR.und {k : Key} {d : D} (h : KeyR k d) (n : Nat) : d.und n = true := by
  have := h.1
  unfold keyOf at this
  split at this <;> simp_all [D.und]
theorem KeysR.und : ∀ {ks : List Key} {ds : List D}, KeysR ks ds → ∀ n, D.undL n ds = true
  | [], [], _, _ => by simp [D.undL]
  | _ :: _, _ :: _, h, n => by simp only [D.undL, Bool.and_eq_true]; exact ⟨KeyR.und h.1 n, KeysR.und h.2 n⟩
  | [], _ :: _, h, _ => h.elim
  | _ :: _, [], h, _ => h.elim
theorem ObR.und {a : Addr} {o : Ob} (h : ObR T H μ a o) : o.und μ.length = true := by
  cases o with
  | lst ds =>
    obtain ⟨xs, h1, h2⟩ := h
    simp only [Ob.und]; exact h2.und
  | dct kvs =>
    simp only [Ob.und, List.all_eq_true, Bool.and_eq_true]
    intro p hp
    rcases h with ⟨kv, h1, h2⟩ | ⟨kv, h1, h2⟩
    · obtain ⟨a, z1, z2⟩ := Paired.all h2 p hp
      exact ⟨KeyR.und z1 _, z2.und⟩
    · obtain ⟨a, ⟨ds, z0, z1⟩, z2⟩ := Paired.all h2 p hp
      refine ⟨?_, z2.und⟩
      rw [z0]
      simp only [D.und]
      exact KeysR.und z1 _
  | ins c fs =>
    simp only [Ob.und, List.all_eq_true]
    obtain ⟨hc, dx, xs, h1, h2⟩ := h
    intro p hp
    obtain ⟨a, z1, z2⟩ := Paired.all h2 p hp
    exact z2.und
theorem SRel.und (s : SRel T H μ S) {o : Ob} (h : o ∈ S) : o.und μ.length = true := by
  obtain ⟨n, hn⟩ := List.getElem?_of_mem h
  obtain ⟨a, _, q⟩ := s.at hn
  exact q.und
theorem zip_mem {α β : Type} : ∀ {l : List α} {r : List β} {a : α}, l.length ≤ r.length → a ∈ l → ∃ b, (a, b) ∈ l.zip r ∧ b ∈ r
  | _ :: _, [], _, h, _ => by simp at h
  | x :: l, y :: r, a, h, e => by
    rcases List.mem_cons.mp e with rfl | e
    · exact ⟨y, by simp, by simp⟩
    · obtain ⟨b, h1, h2⟩ := zip_mem (l := l) (r := r) (by simpa using h) e
      exact ⟨b, by simp [h1], by simp [h2]⟩
/-- what is handed back, made plain -/
theorem thaw_rv {d : D} {v : V} (s : SRel T H (μ ++ m) S) (h : RV H (μ ++ m) v d) (u : (thaw μ.length S d).und μ.length = true) : RV H μ v (thaw μ.length S d) := by
  unfold thaw at u ⊢
  split at u
  · rename_i k
    split at u
    · rename_i hk
      rw [if_pos hk]
      split at u
      · rename_i ds hs
        try simp only [hs]
        obtain ⟨a, rfl, hn⟩ := h.ref_inv
        obtain ⟨xs, e, q⟩ := s.ob _ _ _ hn hs
        refine .lst (.inl e) (fun z => ?_) (q.prune (by simpa [D.und] using u))
        rcases z with z | z
        · obtain ⟨j, hj⟩ := List.getElem?_of_mem z
          have hj' : μ[j]? = some a := hj
          have hlt := Mu.get_lt hj'
          have e2 : (μ ++ m)[j]? = some a := by rw [Mu.app_lt hlt]; exact hj'
          have := nodup_at s.nd e2 hn
          omega
        · exact (s.hd a z).1 (Mu.of_get hn)
      · simp only [D.und, decide_eq_true_eq] at u
        omega
    · rename_i hk
      rw [if_neg hk]
      exact h.prune u
  · exact h.prune u
end
/-! ### facts of the module -/
structure Gl0 (T : Tie) (P : Prog) (g : GCfg) (rows : List FRow) (K : PySem.W.Frag) (mg : Str → Option Value) (adr : Nat → Addr) (fdr : Nat → FuncData) : Prop where
  fn : ∀ f r, rows[f]? = some r → L2.Fun K r.x r.q r.st (adr f) (fdr f) ∧ Binds K (fdr f) (r.N.take r.np) [] ∧ FnScope r.N (r.N.take r.np) (defScope r.st) ∧ r.np ≤ r.N.length
  defs : P.defs = rows.map (trDef g)
  fns : AllL (fun p : Str × Nat => mg p.1 = some (.ref (adr p.2)) ∧ p.2 < rows.length) g.fns
  clss : AllL (fun p : Str × Nat => mg p.1 = some (.ref (T.cls p.2)) ∧ T.okc p.2 = true ∧ ∃ f, P.init.lookup p.2 = some f ∧ f < rows.length ∧ Mk K (T.cls p.2) (adr f)) g.clss
  fld : FldOk T K
  fldn : T.fld = fun n => g.flds[n]?
  mth : ∀ m, m ∈ g.mths → m ∉ g.flds
  mths : ∀ c n f, T.okc c = true → P.meth.lookup (c, n) = some f → f < rows.length ∧ ∃ m, g.mths[n]? = some m ∧ Meth K (T.cls c) m (adr f)
  blts : AllL (fun x => mg x = none) g.blts
  cons : AllL (fun p : Str × D => ∃ u v, mg p.1 = some u ∧ RelV v u ∧ ∀ H μ, RV H μ v p.2) g.consts
  excs : AllL (fun p : Str × Nat => mg p.1 = some (.ref (T.xc p.2)) ∧ (∃ (bmB : List Value) (B newId initId : String), ExcBaseFacts B newId initId bmB ∧ PySem.W.excIn K (T.xc p.2) bmB newId = true) ∧ PySem.W.keepIn K (.ref (T.xc p.2)) = true ∧ PySem.W.subIn K (.ref (T.xc p.2)) (.type "BaseException") = some true ∧ PySem.W.typeIn K (.ref (T.xc p.2)) = some (.type "type") ∧ ExcOk T P K p.1 p.2) g.excs
section
variable {T : Tie} {P : Prog} {g : GCfg} {rows : List FRow} {K : PySem.W.Frag} {mg : Str → Option Value} {adr : Nat → Addr} {fdr : Nat → FuncData} {prog : Program} {w : World} {base : Heap}
theorem Gl0.gb (G : Gl0 T P g rows K mg adr fdr) {n : Nat} (ih : ∀ f r, rows[f]? = some r → FnOk prog w K mg base (L2.CX prog w) (2 * n) (adr f) (fdr f) (r.N.take r.np) (spOf T (run P n) f)) (X : Cx) (hp : X.prog = prog) (hw : X.w = w) (hK : X.K = K) (hm : X.mg = mg) (hb : X.base = base) (r : FRow) :
    Gb (cfgOf g r) T P (run P n) (2 * n) X := by
  subst hp hw hK hm hb
  have row : ∀ f, f < rows.length → ∃ r, rows[f]? = some r := fun f h => ⟨_, List.getElem?_eq_getElem h⟩
  refine ⟨fun x f h => ?_, fun x cl h => ?_, fun m k h => ?_, G.fld, fun f k h => ?_, fun x h => ?_, fun x d h => G.cons.look h, fun x e h => ?_⟩
  · obtain ⟨h1, h2⟩ := G.fns.look h
    obtain ⟨r, hr⟩ := row f h2
    obtain ⟨q1, q2, q3⟩ := G.fn f r hr
    exact ⟨_, _, _, h1, q1.kp, q2, ih f r hr⟩
  · obtain ⟨h1, h2, f, h3, h4, h5⟩ := G.clss.look h
    obtain ⟨r, hr⟩ := row f h4
    obtain ⟨q1, q2, q3⟩ := G.fn f r hr
    exact ⟨f, _, _, _, h1, h2, h3, h5, q2, ih f r hr⟩
  · obtain ⟨_, h2⟩ := numb_look h
    have hm : m ∈ g.mths := List.mem_of_getElem? h2
    refine ⟨fun i q => ?_, fun c f hc hl => ?_⟩
    · rw [G.fldn] at q
      exact G.mth m hm (List.mem_of_getElem? q)
    · obtain ⟨h3, m', h4, h5⟩ := G.mths c k f hc hl
      obtain ⟨r, hr⟩ := row f h3
      obtain ⟨q1, q2, q3⟩ := G.fn f r hr
      have : m' = m := by
        rw [Nat.sub_zero, h4] at h2
        cases h2
        rfl
      subst this
      exact ⟨_, _, _, h5, q2, ih f r hr⟩
  · obtain ⟨_, h2⟩ := numb_look h
    rw [G.fldn]
    simpa using h2
  · have h : g.blts.contains x = true := h
    exact G.blts.mem (by simpa using h)
  · obtain ⟨h1, h2, h3, h4, h5, h6⟩ := G.excs.look h
    exact ⟨h1, h2, h3, raises_own h4 h5, h6⟩
theorem env_start {H : Hp} {μ : Mu} {N : List Str} {vs : List V} {ds : List D} (rv : RVs H μ vs ds) (hl : ds.length ≤ N.length) : EnvR H μ (L2.start N vs) (ds.map some ++ List.replicate (N.length - ds.length) none) := by
  have e := rv.length
  unfold L2.start
  refine ⟨by simp [e], fun i d h => ?_⟩
  by_cases hi : i < ds.length
  · rw [List.getElem?_append_left (by simpa using hi), List.getElem?_map] at h
    cases q : ds[i]? with
    | none => rw [q] at h; cases h
    | some d' =>
      rw [q] at h
      cases h
      obtain ⟨v, h1, h2⟩ := rv.get q
      exact ⟨v, by rw [List.getElem?_append_left (by simpa [e] using hi), List.getElem?_map, h1]; rfl, h2⟩
  · rw [List.getElem?_append_right (by simpa using hi), List.getElem?_replicate] at h
    split at h <;> cases h
theorem all_ok (G : Gl0 T P g rows K mg adr fdr) : ∀ (n f : Nat) (r : FRow), rows[f]? = some r → FnOk prog w K mg base (L2.CX prog w) (2 * n) (adr f) (fdr f) (r.N.take r.np) (spOf T (run P n) f)
  | 0, f, r, hr => ⟨fun vs H Q E ⟨_, _, _, _, _, af⟩ => by simp only [run] at af; exact af.elim, fun A outer s H args us vs Q E _ _ _ _ ⟨_, _, _, _, _, af⟩ => by simp only [run] at af; exact af.elim⟩
  | n + 1, f, r, hr => by
    obtain ⟨F, B, S, hnp⟩ := G.fn f r hr
    have hd : P.defs[f]? = some (trDef g r) := by rw [G.defs, List.getElem?_map, hr]; rfl
    have hpl : (r.N.take r.np).length ≤ r.N.length := by rw [List.length_take]; omega
    have hlen : ∀ vs H Q E, spOf T (run P (n + 1)) f vs H Q E → vs.length = (r.N.take r.np).length := fun vs H Q E ⟨ds, S', μ, rv, sr, af⟩ => by
      simp only [run, hd, runDef] at af
      split at af
      · rename_i hl
        rw [rv.length, hl]
        rw [List.length_take]
        show r.np = _
        omega
      · exact af.elim
    refine F.okX (k := 2 * n + 1) S hlen fun cdv A outer s H vs Q E hrm hsp => ?_
    have hlv := hlen _ _ _ _ hsp
    obtain ⟨ds, S', μ, rv, sr, af⟩ := hsp
    simp only [run, hd, runDef] at af
    split at af
    case isFalse => exact af.elim
    rename_i hl
    have gb := G.gb (n := n) (fun f r hr => all_ok G n f r hr) (cxOf (L2.CX prog w) prog w K mg base r.N r.q (defScope r.st) (adr f) cdv A outer s H E) rfl rfl rfl rfl rfl r
    have hu : (A.deeper (PyProof.Rows.envOfC r.q (defScope r.st) s.heap.objs.size (adr f) cdv)).units + 65 < cLine := by have := hrm.un; omega
    have z : CzS (cfgOf g r) T P (run P n) (2 * n) false (cxOf (L2.CX prog w) prog w K mg base r.N r.q (defScope r.st) (adr f) cdv A outer s H E) (fun cls d _ H' => E cls d H') (defScope r.st) :=
      ⟨⟨rfl, rfl, S.nd, fun _ => rfl, fun _ => hrm, hu, takes_of rfl rfl rfl rfl, gb⟩, S.kind, fun _ _ => .inl rfl, passes_of rfl, rfl, rfl⟩
    refine ⟨_, so_stms (m := 40) 20 false _ _ z (defBody r.st), ?_⟩
    have hds : ds.length ≤ r.N.length := by rw [← rv.length, hlv]; exact hpl
    refine ⟨_, S', μ, env_start rv hds, sr, ?_⟩
    have hbody : (trDef g r).body = trSs (cfgOf g r) 40 20 false (defScope r.st) (defBody r.st) := rfl
    have hns : (trDef g r).ns = r.N.length := rfl
    rw [hbody, hns] at af
    have henv : (List.map some ds ++ List.replicate (r.N.length - (trDef g r).np) none : Env) = ds.map some ++ List.replicate (r.N.length - ds.length) none := by rw [hl]
    rw [henv] at af
    generalize execs P (run P n) (trSs (cfgOf g r) 40 20 false (defScope r.st) (defBody r.st)) (ds.map some ++ List.replicate (r.N.length - ds.length) none) S' = o at af
    -- the sweep's end
    have sw : ∀ (d : D) (S2 : Sto) {H2 : Hp} {μ2 : Mu} (kk : D → Sto → R D), Ext H μ H2 μ2 → SRel T H2 μ2 S2 → Aft T RV (fun c H' => E (.ref (T.xc c)) none H') H μ (sweep (trDef g r).gc S' d S2 kk) Q →
        ∃ μ3 S3 d3, Ext H μ H2 μ3 ∧ SRel T H2 μ3 S3 ∧ (∀ v, RV H2 μ2 v d → RV H2 μ3 v d3) ∧ Aft T RV (fun c H' => E (.ref (T.xc c)) none H') H μ (kk d3 S3) Q := fun d S2 {H2 μ2} kk e2 sr2 a => by
      unfold sweep at a
      split at a
      · split at a
        · rename_i hu
          simp only [Bool.and_eq_true] at hu
          obtain ⟨m, rfl⟩ := e2.grow
          have hund : ∀ o, o ∈ S'  → o.und S'.length = true := fun o ho => by rw [← sr.len]; exact sr.und ho
          have hall : ∀ o, o ∈ S2.take S'.length → o.und S'.length = true := fun o ho => by
            obtain ⟨b, h1, h2⟩ := zip_mem (r := S') (by rw [List.length_take]; omega) ho
            have := List.all_eq_true.mp hu.2 _ h1
            simp only [Bool.or_eq_true, decide_eq_true_eq] at this
            rcases this with e | e
            · rw [e]; exact hund b h2
            · exact e
          rw [← sr.len] at hu a hall
          refine ⟨μ, _, _, ⟨e2.kp, ⟨[], by show μ = ⟨μ.l ++ [], μ.h⟩; simp⟩, fun _ z => .inl z⟩, sr2.prune hall, fun v h => thaw_rv sr2 h hu.1, a⟩
        · exact a.elim
      · exact ⟨μ2, S2, d, e2, sr2, fun _ h => h, a⟩
    cases o with
    | ret d S2 =>
      intro v H2 μ2 e2 sr2 rv2
      obtain ⟨μ3, S3, d3, e3, sr3, up, a3⟩ := sw d S2 _ e2 sr2 af
      exact a3.ok v e3 sr3 (up v rv2)
    | next env2 S2 =>
      intro σ2 H2 μ2 e2 sr2 er2
      obtain ⟨μ3, S3, d3, e3, sr3, up, a3⟩ := sw .non S2 _ e2 sr2 af
      exact a3.ok .non e3 sr3 (up .non .non)
    | exc c env2 S2 =>
      intro σ2 H2 μ2 e2 sr2 er2
      obtain ⟨μ3, S3, d3, e3, sr3, up, a3⟩ := sw .non S2 _ e2 sr2 af
      exact a3 H2 μ3 e3 sr3
    | brk env2 S2 => exact af.elim
    | cont env2 S2 => exact af.elim
    | bad => exact af.elim
end
end HW
/-! The law's end. -/
namespace HW
open PySem L2
structure FnAt (K : PySem.W.Frag) (r : FRow) (a : Addr) (fd : FuncData) : Prop where
  f : L2.Fun K r.x r.q r.st a fd
  b : Binds K fd (r.N.take r.np) []
  s : FnScope r.N (r.N.take r.np) (defScope r.st)
  l : r.np ≤ r.N.length
def FnsL (K : PySem.W.Frag) : List FRow → List (Addr × FuncData) → Prop
  | [], [] => True
  | r :: rs, p :: ps => FnAt K r p.1 p.2 ∧ FnsL K rs ps
  | _, _ => False
theorem FnsL.get {K : PySem.W.Frag} (d : Addr × FuncData) : ∀ {rows : List FRow} {l : List (Addr × FuncData)} {f : Nat} {r : FRow}, FnsL K rows l → rows[f]? = some r → FnAt K r (l.getD f d).1 (l.getD f d).2
  | [], _, _, _, _, e => by simp at e
  | r :: rs, [], _, _, h, _ => h.elim
  | r :: rs, p :: ps, 0, _, h, e => by
    simp at e
    subst e
    simpa using h.1
  | r :: rs, p :: ps, f + 1, _, h, e => by
    have := FnsL.get d h.2 (f := f) (by simpa using e)
    simpa using this
/-- no list among the module's objects -/
def noList (K : PySem.W.Frag) : Bool := K.all fun p => match p.2.cls with | .type t => !(t == "list") | _ => true
theorem noList_look : ∀ {K : PySem.W.Frag} {a : Addr} {o : Obj}, noList K = true → K.lookup a = some o → o.cls ≠ .type "list"
  | [], _, _, _, e => by simp at e
  | (b, o') :: K, a, o, h, e => by
    unfold noList at h
    simp only [List.all_cons, Bool.and_eq_true] at h
    rw [List.lookup_cons] at e
    split at e
    · cases e
      intro q
      rw [q] at h
      simp at h
    · exact noList_look h.2 e
theorem exm_sub {K : PySem.W.Frag} {c h : Addr} {b : Bool} (h1 : PySem.W.subIn K (.ref h) (.type "BaseException") = some true) (h2 : PySem.W.isClsIn K h = true) (h3 : PySem.W.typeIn K (.ref h) = some (.type "type")) (h4 : PySem.W.subIn K (.ref c) (.ref h) = some b) :
    PySem.W.exmOne K (.ref c) (.ref h) = some b := by
  have hc : (PySem.W.clsIn K h).isSome = true := h2
  unfold PySem.W.exmOne PySem.W.kitCls
  simp [h1, hc, h3, h4]
/-- the promise of law by the run -/
def spLaw : Sp := fun vs H Q _ => ∃ (a : Addr) (ns : List Int), vs = [.ref a] ∧ ns.length ≤ 63 ∧ Rd H a (.lst (ns.map V.int)) ∧ ∀ H', Q (.bl true) H'
theorem rvs_ints {H : Hp} {μ : Mu} : ∀ ns : List Int, RVs H μ (ns.map V.int) (ns.map D.int)
  | [] => .nil
  | n :: ns => .cons (.int n) (rvs_ints ns)
theorem law_sp {T : Tie} {P : Prog} {n f : Nat} (h : ∀ ns : List Int, ns.length ≤ 63 → ∃ S, run P n f [.lst (ns.map D.int)] [] = .ok (.bl true) S) (vs : List V) (H : Hp) (Q : VK) (E : XK) (q : spLaw vs H Q E) : spOf T (run P n) f vs H Q E := by
  obtain ⟨a, ns, rfl, hl, hr, k⟩ := q
  obtain ⟨S, hS⟩ := h ns hl
  refine ⟨[.lst (ns.map D.int)], [], ⟨[], []⟩, .cons (.lst hr (fun z => by rcases z with z | z <;> simp at z) (rvs_ints ns)) .nil, ⟨rfl, List.nodup_nil, fun a z => by simp at z, fun n a o z => by simp [Mu.get_eq] at z⟩, ?_⟩
  rw [hS]
  intro v H' μ' e s rv
  obtain rfl := rv.bl_inv
  exact k H'
theorem walk {l : PySem.W.OpenLaw} {q : Program} {loose : List Str} {XP : (Str → Option Value) → Heap → Prop} {YP : World → Heap → Prop} {d : DefRec} {K : Params → PySem.W.Frag} {n : Nat} (hn : l.most = some 63) (hdf : d.params.defaults = []) (hroom : Room (2 * n) callerA)
    (hY : ∀ (w : World) (h : Heap), YP w h → (K w.params).In h) (hno : ∀ w : World, noList (K w.params) = true)
    (F : ∀ (w : World) (mg : Str → Option Value) (fa : Addr) (h : Heap), (K w.params).In h → h.Ns mainGlobals mg → mg d.name = some (.ref fa) →
      ∃ fd : FuncData, (∀ (s : Shared) (u : Value), BindsTo s fd ⟨[u], []⟩ [("script", u)]) ∧ ∀ base : Heap, (K w.params).In base → base.Ns mainGlobals mg → FnOk l.prog w (K w.params) mg base (L2.CX l.prog w) (2 * n) fa fd ["script"] spLaw) :
    PySem.W.WalkO q loose XP YP l.row.toRowW d [] (fun f vs => PySem.call f vs) :=
  L2.walk_of (n := 63) (k := 2 * n) (x := "script") (CX := fun w => L2.CX l.prog w) (sp := fun w => spLaw) hn (by decide) hdf hroom hY F (fun w H a ns hl hO hS => by
    rcases hS with hS | ⟨o, its, m, hk, hc, _⟩
    · exact ⟨a, ns, rfl, hl, hS, fun _ => rfl⟩
    · exact absurd hc (noList_look (hno w) hk)) fun w H s e s' z => by
      obtain ⟨_, _, _, _, _, _, _, _, _, _, _, _, z⟩ := z
      exact z.elim
theorem nodup_str {N : List Str} (hN : N.Nodup) {i j : Nat} {x : Str} (a : N[i]? = some x) (b : N[j]? = some x) : i = j := by
  obtain ⟨h1, e1⟩ := List.getElem?_eq_some_iff.mp a
  obtain ⟨h2, e2⟩ := List.getElem?_eq_some_iff.mp b
  exact (List.getElem_inj hN).mp (e1.trans e2.symm)
theorem AllL.look2 {α : Type} {Φ : (Nat × Nat) × α → Prop} : ∀ {l : List ((Nat × Nat) × α)} {x : Nat × Nat} {a : α}, AllL Φ l → l.lookup x = some a → Φ (x, a)
  | [], _, _, _, h => by simp at h
  | (y, b) :: l, x, a, h, e => by
    rw [List.lookup_cons] at e
    split at e
    · rename_i q
      cases e
      have : x = y := by simpa using q
      subst this
      exact h.1
    · exact AllL.look2 h.2 e
end HW
/-! The interpreter's equations, one for each form. -/
namespace HW
@[simp] theorem bind_ok {α β : Type} (a : α) (S : Sto) (f : α → Sto → R β) : (R.ok a S).bind f = f a S := rfl
@[simp] theorem bind_exc {α β : Type} (c : Nat) (S : Sto) (f : α → Sto → R β) : (R.exc c S : R α).bind f = .exc c S := rfl
@[simp] theorem bind_bad {α β : Type} (f : α → Sto → R β) : (R.bad : R α).bind f = .bad := rfl
@[simp] theorem then_next (env : Env) (S : Sto) (f : Env → Sto → O) : (O.next env S).andThen f = f env S := rfl
@[simp] theorem then_ret (d : D) (S : Sto) (f : Env → Sto → O) : (O.ret d S).andThen f = .ret d S := rfl
@[simp] theorem then_brk (env : Env) (S : Sto) (f : Env → Sto → O) : (O.brk env S).andThen f = .brk env S := rfl
@[simp] theorem then_cont (env : Env) (S : Sto) (f : Env → Sto → O) : (O.cont env S).andThen f = .cont env S := rfl
@[simp] theorem then_exc (c : Nat) (env : Env) (S : Sto) (f : Env → Sto → O) : (O.exc c env S).andThen f = .exc c env S := rfl
@[simp] theorem then_bad (f : Env → Sto → O) : O.bad.andThen f = .bad := rfl
section
variable {P : Prog} {call : Call} {env : Env} {S : Sto}
/-- a slot read -/
def slot (env : Env) (i : Nat) (S : Sto) : R D := match env[i]? with
  | some (some d) => .ok d S
  | _ => .bad
@[simp] theorem slot_0 (d : D) (e : Env) : slot (some d :: e) 0 S = .ok d S := rfl
@[simp] theorem slot_s (o : Option D) (e : Env) (i : Nat) : slot (o :: e) (i + 1) S = slot e i S := rfl
@[simp] theorem ev_var (i : Nat) : evalE P call (.var i) env S = slot env i S := by simp only [evalE]; rfl
@[simp] theorem ev_lit (d : D) : evalE P call (.lit d) env S = .ok d S := by simp only [evalE]
@[simp] theorem ev_tup (es : List X) : evalE P call (.tup es) env S = (evalL P call es env S).bind fun ds S => if ds.length ≤ SZ then .ok (.tup ds) S else .bad := by simp only [evalE]
@[simp] theorem ev_lst (es : List X) : evalE P call (.lst es) env S = (evalL P call es env S).bind fun ds S => if ds.length ≤ SZ then .ok (.lst ds) S else .bad := by simp only [evalE]
@[simp] theorem ev_newL (es : List X) : evalE P call (.newL es) env S = (evalL P call es env S).bind fun ds S => if ds.length ≤ SZ then .ok (.ref S.length) (S ++ [.lst ds]) else .bad := by simp only [evalE]
/-- a new dict of these keys and values -/
def mkD (ds : List D) (S : Sto) : R D := match kvOf ds with
    | some kvs => if (kvs.all fun p => p.1.kcls == 1) && decide (kvs.length ≤ 15) then .ok (.ref S.length) (S ++ [.dct (mergeD [] kvs)]) else .bad
    | none => .bad
@[simp] theorem ev_newD (es : List X) : evalE P call (.newD es) env S = (evalL P call es env S).bind mkD := by simp only [evalE]; rfl
@[simp] theorem mkD_nil : mkD [] S = .ok (.ref S.length) (S ++ [.dct []]) := rfl
@[simp] theorem ev_bin (op : PySem.Operator) (a b : X) : evalE P call (.bin op a b) env S = (evalE P call a env S).bind fun x S => (evalE P call b env S).bind fun y S => R.of (binD op x y) S := by simp only [evalE]
def negR (x : D) (S : Sto) : R D := match x with
    | .int i => .ok (.int (-i)) S
    | _ => .bad
@[simp] theorem negR_int (i : Int) : negR (.int i) S = .ok (.int (-i)) S := rfl
@[simp] theorem ev_neg (a : X) : evalE P call (.neg a) env S = (evalE P call a env S).bind negR := by simp only [evalE]; rfl
@[simp] theorem ev_not (a : X) : evalE P call (.not a) env S = (evalE P call a env S).bind fun x S => R.of ((truD S x).map fun b => .bl !b) S := by
  simp only [evalE]
  congr 1
  funext x S
  cases truD S x <;> rfl
@[simp] theorem ev_and (a b : X) : evalE P call (.and a b) env S = (evalE P call a env S).bind fun x S => (R.of (truD S x) S).bind fun k S => if k then evalE P call b env S else .ok x S := by
  simp only [evalE]
  congr 1
  funext x S
  cases truD S x with
  | none => rfl
  | some k => cases k <;> rfl
@[simp] theorem ev_or (a b : X) : evalE P call (.or a b) env S = (evalE P call a env S).bind fun x S => (R.of (truD S x) S).bind fun k S => if k then .ok x S else evalE P call b env S := by
  simp only [evalE]
  congr 1
  funext x S
  cases truD S x with
  | none => rfl
  | some k => cases k <;> rfl
@[simp] theorem ev_ife (c : T) (a b : X) : evalE P call (.ife c a b) env S = (evalT P call c env S).bind fun k S => if k then evalE P call a env S else evalE P call b env S := by simp only [evalE]
@[simp] theorem ev_cmp (op : PySem.CmpOp) (a b : X) : evalE P call (.cmp op a b) env S = (evalE P call a env S).bind fun x S => (evalE P call b env S).bind fun y S => R.of ((cmpD S op x y).map .bl) S := by simp only [evalE]
@[simp] theorem ev_chn (op op' : PySem.CmpOp) (a b c : X) : evalE P call (.chn op op' a b c) env S = (evalE P call a env S).bind fun x S => (evalE P call b env S).bind fun y S => (R.of (cmpD S op x y) S).bind fun k S => if k then (evalE P call c env S).bind fun z S => R.of ((cmpD S op' y z).map .bl) S else .ok (.bl false) S := by
  simp only [evalE]
  congr 1
  funext x S
  congr 1
  funext y S
  cases cmpD S op x y with
  | none => rfl
  | some k => cases k <;> rfl
@[simp] theorem ev_idx (a i : X) : evalE P call (.idx a i) env S = (evalE P call a env S).bind fun x S => (evalE P call i env S).bind fun y S => R.of (idxD S x y) S := by simp only [evalE]
@[simp] theorem ev_slc (a : X) (lo hi : Option X) : evalE P call (.slc a lo hi) env S = (evalE P call a env S).bind fun x S => (evalO P call lo env S).bind fun l S => (evalO P call hi env S).bind fun h S => R.of (slcD S x l h) S := by simp only [evalE]
@[simp] theorem ev_rev (a : X) : evalE P call (.rev a) env S = (evalE P call a env S).bind fun x S => R.of (revD S x) S := by simp only [evalE]
@[simp] theorem ev_call (f : Nat) (es : List X) : evalE P call (.call f es) env S = (evalL P call es env S).bind fun ds S => call f ds S := by simp only [evalE]
@[simp] theorem ev_blt (f : Bf) (es : List X) (h : f ≠ .dict) : evalE P call (.blt f es) env S = (evalL P call es env S).bind fun ds S => R.of (bfD S f ds) S := by
  simp only [evalE]
  congr 1
  funext ds S
  cases f <;> first | rfl | exact absurd rfl h
@[simp] theorem ev_mth (m : Bm) (a : X) (es : List X) : evalE P call (.mth m a es) env S = (evalE P call a env S).bind fun x S => if kindOk m x S then (evalL P call es env S).bind fun ds S => bmR m x ds S else .bad := by simp only [evalE]
/-- a field read -/
def fldR (n : Nat) (x : D) (S : Sto) : R D := match x with
    | .ref p => match S[p]? with
      | some (.ins _ fs) => R.of (fgetD fs n) S
      | _ => .bad
    | _ => .bad
theorem fldR_ok {n p c : Nat} {fs : List (Nat × D)} (h : S[p]? = some (.ins c fs)) : fldR n (.ref p) S = R.of (fgetD fs n) S := by simp only [fldR, h]
@[simp] theorem ev_fld (a : X) (n : Nat) : evalE P call (.fld a n) env S = (evalE P call a env S).bind (fldR n) := by simp only [evalE]; rfl
/-- a method called -/
def invR (P : Prog) (call : Call) (m : Nat) (args : Sto → R (List D)) (x : D) (S : Sto) : R D := match x with
    | .ref p => match S[p]? with
      | some (.ins c _) => match P.meth.lookup (c, m) with
        | some f => (args S).bind fun ds S => match S[p]? with
          | some (.ins c' _) => if c' = c then call f (.ref p :: ds) S else .bad
          | _ => .bad
        | none => .bad
      | _ => .bad
    | _ => .bad
@[simp] theorem ev_inv (a : X) (m : Nat) (es : List X) : evalE P call (.inv a m es) env S = (evalE P call a env S).bind (invR P call m (evalL P call es env)) := by simp only [evalE]; rfl
theorem invR_ok {m p c f : Nat} {fs : List (Nat × D)} {args : Sto → R (List D)} {ds : List D} (h : S[p]? = some (.ins c fs)) (hm : P.meth.lookup (c, m) = some f) (ha : args S = .ok ds S) : invR P call m args (.ref p) S = call f (.ref p :: ds) S := by
  simp only [invR, h, hm, ha, bind_ok, if_true]
def mkR (P : Prog) (call : Call) (c : Nat) (ds : List D) (S : Sto) : R D := match P.init.lookup c with
    | some f => match call f (.ref S.length :: ds) (S ++ [.ins c []]) with
      | .ok .non S' => .ok (.ref S.length) S'
      | _ => .bad
    | none => .bad
@[simp] theorem ev_mk (c : Nat) (es : List X) : evalE P call (.mk c es) env S = (evalL P call es env S).bind (mkR P call c) := by simp only [evalE]; rfl
theorem mkR_ok {c f : Nat} {ds : List D} {S' : Sto} (h : P.init.lookup c = some f) (hc : call f (.ref S.length :: ds) (S ++ [.ins c []]) = .ok .non S') : mkR P call c ds S = .ok (.ref S.length) S' := by
  simp only [mkR, h, hc]
/-- one turn of a comprehension -/
def compT (P : Prog) (call : Call) (elt : X) (tg : Tg) (ifs : List T) (vs : List Nat) (env : Env) (d : D) (S : Sto) : R (Option D) := match setTg tg d (wipeE env vs) with
        | some env' => (evalTs P call ifs env' S).bind fun k S => if k then (evalE P call elt env' S).bind fun x S => .ok (some x) S else .ok none S
        | none => .bad
def compR (P : Prog) (call : Call) (elt : X) (tg : Tg) (ifs : List T) (vs : List Nat) (env : Env) (src : Src) (S : Sto) : R D :=
      match compL src.own (compT P call elt tg ifs vs env) src.items [] S with
      | .ok ds S' => if ds.length ≤ SZ then .ok (.lst ds) S' else .bad
      | _ => .bad
@[simp] theorem ev_comp (elt : X) (tg : Tg) (it : It) (ifs : List T) (vs : List Nat) : evalE P call (.comp elt tg it ifs vs) env S = (evalI P call it env S).bind (compR P call elt tg ifs vs env) := by simp only [evalE]; rfl
@[simp] theorem compR_nil (elt : X) (tg : Tg) (ifs : List T) (vs : List Nat) : compR P call elt tg ifs vs env ⟨[], []⟩ S = .ok (.lst []) S := rfl
/-! ### tests, lists -/
@[simp] theorem ev_tval (e : X) : evalT P call (.val e) env S = (evalE P call e env S).bind fun x S => R.of (truD S x) S := by simp only [evalT]
@[simp] theorem ev_tnot (a : T) : evalT P call (.not a) env S = (evalT P call a env S).bind fun k S => .ok (!k) S := by simp only [evalT]
@[simp] theorem ev_tand (a b : T) : evalT P call (.and a b) env S = (evalT P call a env S).bind fun k S => if k then evalT P call b env S else .ok false S := by simp only [evalT]
@[simp] theorem ev_tor (a b : T) : evalT P call (.or a b) env S = (evalT P call a env S).bind fun k S => if k then .ok true S else evalT P call b env S := by simp only [evalT]
@[simp] theorem ev_ts0 : evalTs P call [] env S = .ok true S := by simp only [evalTs]
@[simp] theorem ev_ts1 (t : T) (ts : List T) : evalTs P call (t :: ts) env S = (evalT P call t env S).bind fun k S => if k then evalTs P call ts env S else .ok false S := by simp only [evalTs]
@[simp] theorem ev_l0 : evalL P call [] env S = .ok [] S := by simp only [evalL]
@[simp] theorem ev_l1 (e : X) (es : List X) : evalL P call (e :: es) env S = (evalE P call e env S).bind fun d S => (evalL P call es env S).bind fun ds S => .ok (d :: ds) S := by simp only [evalL]
@[simp] theorem ev_o0 : evalO P call none env S = .ok none S := by simp only [evalO]
def optR (x : D) (S : Sto) : R (Option Int) := match x with
    | .int i => .ok (some i) S
    | _ => .bad
@[simp] theorem optR_int (i : Int) : optR (.int i) S = .ok (some i) S := rfl
@[simp] theorem ev_o1 (e : X) : evalO P call (some e) env S = (evalE P call e env S).bind optR := by simp only [evalO]; rfl
/-! ### what is walked -/
def seqR (d : D) (S : Sto) : R Src := match seqOf S d with
    | some ds => .ok ⟨ds, ownD S d⟩ S
    | none => .bad
@[simp] theorem seqR_tup (ds : List D) : seqR (.tup ds) S = .ok ⟨ds, []⟩ S := rfl
@[simp] theorem seqR_lst (ds : List D) : seqR (.lst ds) S = .ok ⟨ds, []⟩ S := rfl
@[simp] theorem seqR_str (x : List Nat) : seqR (.str x) S = .ok ⟨x.map fun c => .str [c], []⟩ S := rfl
theorem seqR_ref {n : Nat} {ds : List D} (h : S[n]? = some (.lst ds)) : seqR (.ref n) S = .ok ⟨ds, [(n, ds)]⟩ S := by simp [seqR, seqOf, vw, ownD, h]
@[simp] theorem ev_seq (e : X) : evalI P call (.seq e) env S = (evalE P call e env S).bind seqR := by simp only [evalI]; rfl
def rngR (d : D) (S : Sto) : R Src := match d with
    | .int j => if -(2 ^ 61) < j ∧ j < 2 ^ 61 then .ok ⟨rangeD 0 j.toNat, []⟩ S else .bad
    | _ => .bad
theorem rngR_ok {j : Int} (h : -1000000 ≤ j) (h2 : j ≤ 1000000) : rngR (.int j) S = .ok ⟨rangeD 0 j.toNat, []⟩ S := by
  simp only [rngR]
  rw [if_pos ⟨by omega, by omega⟩]
@[simp] theorem ev_rng1 (e : X) : evalI P call (.rng1 e) env S = (evalE P call e env S).bind rngR := by simp only [evalI]; rfl
/-! ### statements -/
@[simp] theorem ex_nil : execs P call [] env S = .next env S := by simp only [execs]
@[simp] theorem ex_cons (s : St) (ss : List St) : execs P call (s :: ss) env S = (execS P call s env S).andThen fun env S => execs P call ss env S := by simp only [execs]
@[simp] theorem ex_expr (e : X) : execS P call (.expr e) env S = (evalE P call e env S).stm env fun _ S => .next env S := by simp only [execS]
@[simp] theorem ex_asgN (i : Nat) (e : X) : execS P call (.asg (.name i) e) env S = (evalE P call e env S).stm env fun d S => .next (env.set i (some d)) S := by simp only [execS, setTg]
def asgR (ts : List Tg) (env : Env) (d : D) (S : Sto) : O := match setTg (.tup ts) d env with
    | some env' => .next env' S
    | none => .bad
@[simp] theorem ex_asgT (ts : List Tg) (e : X) : execS P call (.asg (.tup ts) e) env S = (evalE P call e env S).stm env (asgR ts env) := by simp only [execS]; rfl
@[simp] theorem asgR_2 (i j : Nat) (a b : D) : asgR [.name i, .name j] env (.tup [a, b]) S = .next ((env.set i (some a)).set j (some b)) S := by simp only [asgR, setTg, setTgs]
@[simp] theorem asgR_3 (i j k : Nat) (a b c : D) : asgR [.name i, .name j, .name k] env (.tup [a, b, c]) S = .next (((env.set i (some a)).set j (some b)).set k (some c)) S := by simp only [asgR, setTg, setTgs]
@[simp] theorem asgR_4 (i j k l : Nat) (a b c d : D) : asgR [.name i, .name j, .name k, .name l] env (.tup [a, b, c, d]) S = .next ((((env.set i (some a)).set j (some b)).set k (some c)).set l (some d)) S := by simp only [asgR, setTg, setTgs]
def subR (env : Env) (x y v : D) (S : Sto) : O := match storeD x y v S with
    | some S' => .next env S'
    | none => .bad
@[simp] theorem ex_sub (o i e : X) : execS P call (.sub o i e) env S = (evalE P call e env S).stm env fun v S => (evalE P call o env S).stm env fun x S => (evalE P call i env S).stm env fun y S => subR env x y v S := by simp only [execS]; rfl
theorem subR_dct {n : Nat} {kvs : List (D × D)} {k v : D} (h : S[n]? = some (.dct kvs)) (hf : fitK kvs k = true) (hl : kvs.length < SZ) : subR env (.ref n) k v S = .next env (S.set n (.dct (dput kvs k v))) := by simp [subR, storeD, h, hf, hl]
theorem subR_lst {n : Nat} {xs : List D} {j : Int} {v : D} (h : S[n]? = some (.lst xs)) (h0 : 0 ≤ j) (h1 : j < xs.length) : subR env (.ref n) (.int j) v S = .next env (S.set n (.lst (xs.set j.toNat v))) := by simp [subR, storeD, h, h0, h1]
def fldS (env : Env) (n : Nat) (x v : D) (S : Sto) : O := match x with
    | .ref p => match S[p]? with
      | some (.ins c fs) => if fs.length < 1000 then .next env (S.set p (.ins c (fputD fs n v))) else .bad
      | _ => .bad
    | _ => .bad
theorem fldS_ok {n p c : Nat} {fs : List (Nat × D)} {v : D} (h : S[p]? = some (.ins c fs)) (hl : fs.length < 1000) : fldS env n (.ref p) v S = .next env (S.set p (.ins c (fputD fs n v))) := by simp [fldS, h, hl]
@[simp] theorem ex_fld (o : X) (n : Nat) (e : X) : execS P call (.fld o n e) env S = (evalE P call e env S).stm env fun v S => (evalE P call o env S).stm env fun x S => fldS env n x v S := by simp only [execS]; rfl
@[simp] theorem ex_ret (e : X) : execS P call (.ret e) env S = (evalE P call e env S).stm env fun d S => .ret d S := by simp only [execS]
@[simp] theorem ex_retN : execS P call .retN env S = .ret .non S := by simp only [execS]
@[simp] theorem ex_ite (c : T) (a b : List St) : execS P call (.ite c a b) env S = (evalT P call c env S).stm env fun k S => if k then execs P call a env S else execs P call b env S := by simp only [execS]
/-- one turn of a for -/
def forT (P : Prog) (call : Call) (tg : Tg) (body : List St) (d : D) (env : Env) (S : Sto) : O := match setTg tg d env with
      | some env' => execs P call body env' S
      | none => .bad
@[simp] theorem ex_for (tg : Tg) (it : It) (body : List St) : execS P call (.for tg it body) env S = (evalI P call it env S).stm env fun src S => forL src.own (forT P call tg body) src.items env S := by simp only [execS]; rfl
@[simp] theorem forT_n (i : Nat) (body : List St) (d : D) : forT P call (.name i) body d env S = execs P call body (env.set i (some d)) S := by simp only [forT, setTg]
@[simp] theorem forL_nil (turn : D → Env → Sto → O) : forL [] turn [] env S = .next env S := rfl
@[simp] theorem ex_pass : execS P call .pass env S = .next env S := by simp only [execS]
@[simp] theorem ex_cont : execS P call .cont env S = .cont env S := by simp only [execS]
@[simp] theorem ex_brk : execS P call .brk env S = .brk env S := by simp only [execS]
@[simp] theorem ex_raise (c : Nat) : execS P call (.raise c) env S = .exc c env S := by simp only [execS]
end
/-! ### operations -/
section
variable (S : Sto)
@[simp] theorem tru_non : truD S .non = some false := rfl
@[simp] theorem tru_bl (b : Bool) : truD S (.bl b) = some b := rfl
@[simp] theorem tru_int (i : Int) : truD S (.int i) = some (i != 0) := rfl
@[simp] theorem tru_str (x : List Nat) : truD S (.str x) = some !x.isEmpty := rfl
@[simp] theorem tru_tup (x : List D) : truD S (.tup x) = some !x.isEmpty := rfl
@[simp] theorem tru_lst (x : List D) : truD S (.lst x) = some !x.isEmpty := rfl
@[simp] theorem add_int (i j : Int) : binD .Add (.int i) (.int j) = some (.int (i + j)) := rfl
@[simp] theorem sub_int (i j : Int) : binD .Sub (.int i) (.int j) = some (.int (i - j)) := rfl
theorem mul_int {i j : Int} (h : mulOk i j = true) : binD .Mult (.int i) (.int j) = some (.int (i * j)) := by simp [binD, mulD, h]
theorem mod_int {i j : Int} (h : 0 < j) : binD .Mod (.int i) (.int j) = some (.int (i % j)) := by simp [binD, modD, h]
theorem fdiv_int {i j : Int} (h : 0 < j) (h2 : j < 1073741824) : binD .FloorDiv (.int i) (.int j) = some (.int (i / j)) := by simp [binD, fdivD, h, h2]
theorem add_tup {x y : List D} (h : x.length + y.length ≤ SZ) : binD .Add (.tup x) (.tup y) = some (.tup (x ++ y)) := by simp [binD, addD, h]
theorem add_lst {x y : List D} (h : x.length + y.length ≤ SZ) : binD .Add (.lst x) (.lst y) = some (.lst (x ++ y)) := by simp [binD, addD, h]
theorem add_str {x y : List Nat} (h : x.length + y.length ≤ SZ) : binD .Add (.str x) (.str y) = some (.str (x ++ y)) := by simp [binD, addD, h]
@[simp] theorem idx_tup (ds : List D) (i : Int) : idxD S (.tup ds) (.int i) = L2.atI ds i := rfl
@[simp] theorem idx_lst (ds : List D) (i : Int) : idxD S (.lst ds) (.int i) = L2.atI ds i := rfl
@[simp] theorem idx_str (x : List Nat) (i : Int) : idxD S (.str x) (.int i) = (L2.atI x i).map fun c => .str [c] := rfl
theorem idx_rl {n : Nat} {ds : List D} (i : Int) (h : S[n]? = some (.lst ds)) : idxD S (.ref n) (.int i) = L2.atI ds i := by simp [idxD, h]
theorem idx_rd {n : Nat} {kvs : List (D × D)} (k : D) (h : S[n]? = some (.dct kvs)) : idxD S (.ref n) k = if fitK kvs k then dget kvs k else none := by simp [idxD, h]
@[simp] theorem len_str (x : List Nat) : bfD S .len [.str x] = some (.int x.length) := rfl
@[simp] theorem len_tup (x : List D) : bfD S .len [.tup x] = some (.int x.length) := rfl
@[simp] theorem len_lst (x : List D) : bfD S .len [.lst x] = some (.int x.length) := rfl
theorem len_rl {n : Nat} {x : List D} (h : S[n]? = some (.lst x)) : bfD S .len [.ref n] = some (.int x.length) := by simp [bfD, h]
theorem len_rd {n : Nat} {x : List (D × D)} (h : S[n]? = some (.dct x)) : bfD S .len [.ref n] = some (.int x.length) := by simp [bfD, h]
def mx (a b : Int) : Int := if b > a then b else a
def mn (a b : Int) : Int := if b < a then b else a
def ab (a : Int) : Int := if a < 0 then -a else a
def mn3 (i j k : Int) : Int := if j < i then (if k < j then k else j) else (if k < i then k else i)
@[simp] theorem abs_int (i : Int) : bfD S .abs [.int i] = some (.int (ab i)) := rfl
@[simp] theorem max2_int (i j : Int) : bfD S .max2 [.int i, .int j] = some (.int (mx i j)) := rfl
@[simp] theorem min2_int (i j : Int) : bfD S .min2 [.int i, .int j] = some (.int (mn i j)) := rfl
@[simp] theorem min3_int (i j k : Int) : bfD S .min3 [.int i, .int j, .int k] = some (.int (mn3 i j k)) := rfl
@[simp] theorem maxL_eq (ds : List D) : bfD S .maxL [.lst ds] = (intsOf ds).bind fun ns => (maxI ns).map .int := rfl
@[simp] theorem minL_eq (ds : List D) : bfD S .minL [.lst ds] = (intsOf ds).bind fun ns => (minI ns).map .int := rfl
@[simp] theorem sum_eq (ds : List D) : bfD S .sum [.lst ds] = (intsOf ds).map fun ns => .int ns.sum := rfl
@[simp] theorem all_eq (ds : List D) : bfD S .all [.lst ds] = (blsOf ds).map fun bs => .bl (bs.all id) := rfl
@[simp] theorem any_eq (ds : List D) : bfD S .any [.lst ds] = (blsOf ds).map fun bs => .bl (bs.any id) := rfl
@[simp] theorem int_int (i : Int) : bfD S .int [.int i] = some (.int i) := rfl
@[simp] theorem int_bl (b : Bool) : bfD S .int [.bl b] = some (.int (if b then 1 else 0)) := rfl
@[simp] theorem sorted_eq (d : D) : bfD S .sorted [d] = sortedD S d := rfl
@[simp] theorem tuple_lst (ds : List D) : bfD S .tuple [.lst ds] = some (.tup ds) := rfl
@[simp] theorem tuple_tup (ds : List D) : bfD S .tuple [.tup ds] = some (.tup ds) := rfl
theorem tuple_rl {n : Nat} {ds : List D} (h : S[n]? = some (.lst ds)) : bfD S .tuple [.ref n] = some (.tup ds) := by simp [bfD, itemsD, vw, h]
@[simp] theorem list_lst (ds : List D) : bfD S .list [.lst ds] = some (.lst ds) := rfl
@[simp] theorem list_tup (ds : List D) : bfD S .list [.tup ds] = some (.lst ds) := rfl
@[simp] theorem blsOf_nil : blsOf [] = some [] := rfl
@[simp] theorem intsOf_nil : intsOf [] = some [] := rfl
theorem kind_l {n : Nat} {xs : List D} (h : S[n]? = some (.lst xs)) : kindOk .append (.ref n) S = true ∧ kindOk .extend (.ref n) S = true ∧ kindOk .pop (.ref n) S = true ∧ kindOk .popAt (.ref n) S = true := by simp [kindOk, h]
theorem kind_d {n : Nat} {xs : List (D × D)} (h : S[n]? = some (.dct xs)) : kindOk .get (.ref n) S = true ∧ kindOk .setdef (.ref n) S = true := by simp [kindOk, h]
@[simp] theorem kind_join (x : List Nat) : kindOk .join (.str x) S = true := rfl
theorem append_ok {n : Nat} {xs : List D} (x : D) (h : S[n]? = some (.lst xs)) (hl : xs.length < SZ) : bmR .append (.ref n) [x] S = .ok .non (S.set n (.lst (xs ++ [x]))) := by simp [bmR, h, hl]
theorem get_ok {n : Nat} {kvs : List (D × D)} (k x : D) (h : S[n]? = some (.dct kvs)) (hf : fitK kvs k = true) : bmR .get (.ref n) [k, x] S = .ok ((dget kvs k).getD x) S := by simp [bmR, bmD, h, hf]
@[simp] theorem cmp_eq_int (i j : Int) : cmpD S .Eq (.int i) (.int j) = some (decide (i = j)) := by
  simp only [cmpD, vw, eqD, D.flat, D.dep]
  simp [D.eqv]
  rfl
@[simp] theorem cmp_ne_int (i j : Int) : cmpD S .NotEq (.int i) (.int j) = some (!decide (i = j)) := by
  simp only [cmpD, vw, eqD, D.flat, D.dep]
  simp [D.eqv]
  rfl
@[simp] theorem cmp_eq_str (x y : List Nat) : cmpD S .Eq (.str x) (.str y) = some (decide (x = y)) := by
  simp only [cmpD, vw, eqD, D.flat, D.dep]
  simp [D.eqv]
  by_cases h : x = y <;> simp [h]
@[simp] theorem cmp_ne_str (x y : List Nat) : cmpD S .NotEq (.str x) (.str y) = some (!decide (x = y)) := by
  simp only [cmpD, vw, eqD, D.flat, D.dep]
  simp [D.eqv]
  by_cases h : x = y <;> simp [h]
@[simp] theorem cmp_lt_int (i j : Int) : cmpD S .Lt (.int i) (.int j) = some (decide (i < j)) := rfl
@[simp] theorem cmp_le_int (i j : Int) : cmpD S .LtE (.int i) (.int j) = some (decide (i ≤ j)) := rfl
@[simp] theorem cmp_gt_int (i j : Int) : cmpD S .Gt (.int i) (.int j) = some (decide (j < i)) := rfl
@[simp] theorem cmp_ge_int (i j : Int) : cmpD S .GtE (.int i) (.int j) = some (decide (j ≤ i)) := rfl
theorem cmp_eq_flat {a b : D} (ha : vw S a = a) (hb : vw S b = b) (fa : a.flat = true) (fb : b.flat = true) (da : a.dep ≤ 60) (db : b.dep ≤ 60) : cmpD S .Eq a b = some (a.eqv b) := by
  simp [cmpD, ha, hb, eqD, fa, fb, da, db]
theorem cmp_ne_flat {a b : D} (ha : vw S a = a) (hb : vw S b = b) (fa : a.flat = true) (fb : b.flat = true) (da : a.dep ≤ 60) (db : b.dep ≤ 60) : cmpD S .NotEq a b = some (!a.eqv b) := by
  simp [cmpD, ha, hb, eqD, fa, fb, da, db]
@[simp] theorem cmp_in_tup (a : D) (ds : List D) : cmpD S .In a (.tup ds) = inD a ds := rfl
end
theorem run_df {P : Prog} {n f : Nat} {df : Def} (h : P.defs[f]? = some df) (args : List D) (S : Sto) : run P (n + 1) f args S = runDef P (run P n) df args S := by
  simp only [run, h]
/-- the end of a def that lets nothing go -/
def endR : O → R D
  | .ret d S => .ok d S
  | .next _ S => .ok .non S
  | .exc c _ S => .exc c S
  | _ => .bad
@[simp] theorem endR_ret (d : D) (S : Sto) : endR (.ret d S) = .ok d S := rfl
@[simp] theorem endR_next (env : Env) (S : Sto) : endR (.next env S) = .ok .non S := rfl
@[simp] theorem endR_exc (c : Nat) (env : Env) (S : Sto) : endR (.exc c env S) = .exc c S := rfl
theorem run_of {P : Prog} {n f np ns : Nat} {body : List St} {args : List D} (h : P.defs[f]? = some ⟨np, ns, body, false⟩) (hl : args.length = np) (S : Sto) :
    run P (n + 1) f args S = endR (execs P (run P n) body (args.map some ++ List.replicate (ns - np) none) S) := by
  rw [run_df h]
  simp only [runDef, hl, if_true, sweep]
  cases execs P (run P n) body (args.map some ++ List.replicate (ns - np) none) S <;> simp [endR]
@[simp] theorem le_SZ {k : Nat} (h : k ≤ 1000) : (k ≤ SZ) = True := by
  have : k ≤ 16777216 := by omega
  exact eq_true this
end HW
/-! The draws that all laws share. -/
namespace HW
/-- the town of m draws -/
abbrev Tn (m : Nat) : Ob := .lst (List.replicate m (.int 0))
theorem Tn_succ (m : Nat) : (List.replicate m (D.int 0) ++ [D.int 0]) = List.replicate (m + 1) (D.int 0) := by rw [List.replicate_succ']
theorem mulOk_l {i j : Int} (h1 : -(2 ^ 64) < i) (h2 : i < 2 ^ 64) : mulOk i j = true := by
  unfold mulOk
  simp only [Bool.or_eq_true, Bool.and_eq_true, decide_eq_true_eq]
  exact .inl ⟨h1, h2⟩
theorem mulOk_r {i j : Int} (h1 : -(2 ^ 64) < j) (h2 : j < 2 ^ 64) : mulOk i j = true := by
  unfold mulOk
  simp only [Bool.or_eq_true, Bool.and_eq_true, decide_eq_true_eq]
  exact .inr ⟨h1, h2⟩
theorem mulOk_mod {i j k : Int} (h : 0 < k) (h2 : k < 2 ^ 64) : mulOk (i % k) j = true :=
  mulOk_l (by have := Int.emod_nonneg i (by omega : k ≠ 0); omega) (by have := Int.emod_lt_of_pos i h; omega)
def dDrawG (A B C E F G : Int) : Def := ⟨3, 7, [.expr (.mth .append (.var 1) [.lit (.int (0))]), .asg (.name 3) (.blt .len [.var 1]), .asg (.name 4) (.lit (.int (0))), .ite (.val (.var 0)) [.asg (.name 4) (.idx (.var 0) (.bin .Mod (.var 3) (.blt .len [.var 0])))] [], .asg (.name 5) (.bin .Mod (.bin .Add (.var 4) (.bin .Mult (.lit (.int A)) (.var 3))) (.lit (.int B))), .asg (.name 5) (.bin .Mod (.bin .Mult (.bin .Mod (.bin .Mult (.var 5) (.var 5)) (.lit (.int C))) (.lit (.int E))) (.lit (.int B))), .asg (.name 6) (.bin .Mod (.bin .Mult (.bin .Mod (.bin .Mult (.var 5) (.var 5)) (.lit (.int C))) (.lit (.int F))) (.lit (.int B))), .ret (.bin .Mod (.bin .Add (.bin .Mult (.bin .FloorDiv (.var 5) (.lit (.int 64))) (.lit (.int G))) (.bin .FloorDiv (.var 6) (.lit (.int 64)))) (.var 2))], false⟩
abbrev dDraw : Def := dDrawG 104729 4294967291 4294967279 48271 69621 67108864
theorem atI_ints (ns : List Int) (h : ns ≠ []) (k : Int) (hk : 0 ≤ k) : ∃ c, L2.atI (ns.map D.int) (k % (ns.length : Int)) = some (.int c) := by
  have hl : 0 < ns.length := by cases ns with | nil => exact absurd rfl h | cons a b => simp
  have h1 := Int.emod_nonneg k (by omega : (ns.length : Int) ≠ 0)
  have h2 := Int.emod_lt_of_pos k (by omega : 0 < (ns.length : Int))
  generalize k % (ns.length : Int) = i at h1 h2
  unfold L2.atI L2.ixN
  rw [if_pos h1, if_pos (by simpa using h2)]
  have : i.toNat < ns.length := by omega
  exact ⟨ns[i.toNat], by simp [this]⟩
def num1 (A B C E : Int) (cell k : Int) : Int := (cell + A * k) % B * ((cell + A * k) % B) % C * E % B
def drawV (A B C E F G : Int) (cell k many : Int) : Int := (num1 A B C E cell k / 64 * G + num1 A B C E cell k * num1 A B C E cell k % C * F % B / 64) % many
theorem drawG_ok {A B C E F G : Int} (hA : ∀ j, mulOk A j = true) (hE : ∀ j, mulOk j E = true) (hF : ∀ j, mulOk j F = true) (hG : ∀ j, mulOk j G = true) (hB : 0 < B) (hB2 : B < 2 ^ 64) (hC : 0 < C) {P : Prog} {n f : Nat} (h : P.defs[f]? = some (dDrawG A B C E F G)) (ns : List Int) (m : Nat) (Z : Sto) (many : Int) (hm : m < SZ) (hmany : 0 < many) :
    ∃ r : Int, 0 ≤ r ∧ r < many ∧ run P (n + 1) f [.lst (ns.map D.int), .ref 0, .int many] (Tn m :: Z) = .ok (.int r) (Tn (m + 1) :: Z) := by
  rw [run_of h rfl]
  have h0 : ∀ c k, 0 ≤ drawV A B C E F G c k many ∧ drawV A B C E F G c k many < many := fun c k => ⟨Int.emod_nonneg _ (by omega), Int.emod_lt_of_pos _ hmany⟩
  have hM : ∀ i j, mulOk (i % B) j = true := fun i j => mulOk_mod hB hB2
  have kk : kindOk .append (.ref 0) (Tn m :: Z) = true := (kind_l (xs := List.replicate m (.int 0)) _ rfl).1
  have ap : bmR .append (.ref 0) [.int 0] (Tn m :: Z) = .ok .non (Tn (m + 1) :: Z) := by
    rw [append_ok (xs := List.replicate m (.int 0)) _ _ rfl (by simpa using hm), Tn_succ]
    rfl
  have ll : bfD (Tn (m + 1) :: Z) .len [.ref 0] = some (.int (m + 1)) := by
    rw [len_rl (x := List.replicate (m + 1) (.int 0)) _ rfl]
    simp
  by_cases hns : ns = []
  · subst hns
    exact ⟨drawV A B C E F G 0 (m + 1) many, (h0 _ _).1, (h0 _ _).2, by simp [kk, ap, ll, drawV, num1, mul_int, mod_int, fdiv_int, hmany, hA, hE, hF, hG, hB, hC, hM]⟩
  · obtain ⟨c, hc⟩ := atI_ints ns hns (m + 1) (by omega)
    have hl : 0 < ns.length := by cases ns with | nil => exact absurd rfl hns | cons a b => simp
    exact ⟨drawV A B C E F G c (m + 1) many, (h0 _ _).1, (h0 _ _).2, by simp [kk, ap, ll, hns, hl, hc, drawV, num1, mul_int, mod_int, fdiv_int, hmany, hA, hE, hF, hG, hB, hC, hM]⟩
theorem draw_ok {P : Prog} {n f : Nat} (h : P.defs[f]? = some dDraw) (ns : List Int) (m : Nat) (Z : Sto) (many : Int) (hm : m < SZ) (hmany : 0 < many) :
    ∃ r : Int, 0 ≤ r ∧ r < many ∧ run P (n + 1) f [.lst (ns.map D.int), .ref 0, .int many] (Tn m :: Z) = .ok (.int r) (Tn (m + 1) :: Z) :=
  drawG_ok (fun _ => mulOk_l (by decide) (by decide)) (fun _ => mulOk_r (by decide) (by decide)) (fun _ => mulOk_r (by decide) (by decide)) (fun _ => mulOk_r (by decide) (by decide)) (by decide) (by decide) (by decide) h ns m Z many hm hmany
end HW
/-! Picks, machines, heads. -/
namespace HW
theorem forL_inv {turn : D → Env → Sto → O} {items : List D} {env : Env} {S : Sto} (I : Nat → Env → Sto → Prop) (h0 : I 0 env S)
    (step : ∀ i d env S, items[i]? = some d → I i env S → ∃ env' S', turn d env S = .next env' S' ∧ I (i + 1) env' S') : ∃ env' S', forL [] turn items env S = .next env' S' ∧ I items.length env' S' := by
  induction items generalizing env S I with
  | nil => exact ⟨env, S, by simp [forL], h0⟩
  | cons d items ih =>
    obtain ⟨env1, S1, h1, i1⟩ := step 0 d env S rfl h0
    obtain ⟨env2, S2, h2, i2⟩ := ih (fun i => I (i + 1)) i1 fun i d env S hd hi => step (i + 1) d env S (by simpa using hd) hi
    exact ⟨env2, S2, by simp [forL, h1, h2], by simpa using i2⟩
theorem atI_get {α : Type} (xs : List α) (i : Int) (h0 : 0 ≤ i) (h1 : i < xs.length) : ∃ x, x ∈ xs ∧ L2.atI xs i = some x := by
  unfold L2.atI L2.ixN
  rw [if_pos h0, if_pos h1]
  have : i.toNat < xs.length := by omega
  exact ⟨xs[i.toNat], List.getElem_mem _, by simp [this]⟩
@[simp] theorem atI_0 {α : Type} (a : α) (r : List α) : L2.atI (a :: r) 0 = some a := by
  unfold L2.atI L2.ixN
  rw [if_pos (by decide), if_pos (by simp)]
  rfl
@[simp] theorem atI_1 {α : Type} (a b : α) (r : List α) : L2.atI (a :: b :: r) 1 = some b := by
  unfold L2.atI L2.ixN
  rw [if_pos (by decide), if_pos (by simp; omega)]
  rfl
@[simp] theorem atI_2 {α : Type} (a b c : α) (r : List α) : L2.atI (a :: b :: c :: r) 2 = some c := by
  unfold L2.atI L2.ixN
  rw [if_pos (by decide), if_pos (by simp; omega)]
  rfl
@[simp] theorem atI_3 {α : Type} (a b c d : α) (r : List α) : L2.atI (a :: b :: c :: d :: r) 3 = some d := by
  unfold L2.atI L2.ixN
  rw [if_pos (by decide), if_pos (by simp; omega)]
  rfl
def dPick (i : Nat) : Def := ⟨3, 3, [.ret (.idx (.var 2) (.call i [.var 0, .var 1, .blt .len [.var 2]]))], false⟩
theorem pick_ok {P : Prog} {n f i : Nat} (h : P.defs[f]? = some (dPick i)) (hi : P.defs[i]? = some dDraw) (ns : List Int) (m : Nat) (Z : Sto) (ds : List D) (hm : m < SZ) (hd : ds ≠ []) :
    ∃ d, d ∈ ds ∧ run P (n + 2) f [.lst (ns.map D.int), .ref 0, .lst ds] (Tn m :: Z) = .ok d (Tn (m + 1) :: Z) := by
  have hl : 0 < (ds.length : Int) := by cases ds with | nil => exact absurd rfl hd | cons a b => simp
  obtain ⟨r, h0, h1, hr⟩ := draw_ok (n := n) hi ns m Z ds.length hm hl
  obtain ⟨d, hd1, hd2⟩ := atI_get ds r h0 h1
  refine ⟨d, hd1, ?_⟩
  rw [run_of h rfl]
  simp [hr, hd2]
theorem pickS_ok {P : Prog} {n f i : Nat} (h : P.defs[f]? = some (dPick i)) (hi : P.defs[i]? = some dDraw) (ns : List Int) (m : Nat) (Z : Sto) (x : List Nat) (hm : m < SZ) (hd : x ≠ []) :
    ∃ c, c ∈ x ∧ run P (n + 2) f [.lst (ns.map D.int), .ref 0, .str x] (Tn m :: Z) = .ok (.str [c]) (Tn (m + 1) :: Z) := by
  have hl : 0 < (x.length : Int) := by cases x with | nil => exact absurd rfl hd | cons a b => simp
  obtain ⟨r, h0, h1, hr⟩ := draw_ok (n := n) hi ns m Z x.length hm hl
  obtain ⟨d, hd1, hd2⟩ := atI_get x r h0 h1
  refine ⟨d, hd1, ?_⟩
  rw [run_of h rfl]
  simp [hr, hd2]
def dMachine (i : Nat) : Def := ⟨2, 3, [.asg (.name 2) (.bin .Add (.lit (.int (4))) (.call i [.var 0, .var 1, .lit (.int (37))])), .ret (.tup [.var 2, .bin .Add (.lit (.int (1))) (.call i [.var 0, .var 1, .lit (.int (4))]), .call i [.var 0, .var 1, .lit (.int (10))], .call i [.var 0, .var 1, .lit (.int (21))]])], false⟩
abbrev mch (w b f c : Int) : D := .tup [.int w, .int b, .int f, .int c]
structure MchOk (w b f c : Int) : Prop where
  w1 : 4 ≤ w
  w2 : w ≤ 40
  b1 : 1 ≤ b
  b2 : b ≤ 4
  f1 : 0 ≤ f
  f2 : f ≤ 9
  c1 : 0 ≤ c
  c2 : c ≤ 20
theorem machine_ok {P : Prog} {n f i : Nat} (h : P.defs[f]? = some (dMachine i)) (hi : P.defs[i]? = some dDraw) (ns : List Int) (m : Nat) (Z : Sto) (hm : m + 4 < SZ) :
    ∃ w b fd c, MchOk w b fd c ∧ run P (n + 2) f [.lst (ns.map D.int), .ref 0] (Tn m :: Z) = .ok (mch w b fd c) (Tn (m + 4) :: Z) := by
  obtain ⟨r1, a1, b1, h1⟩ := draw_ok (n := n) hi ns m Z 37 (by omega) (by decide)
  obtain ⟨r2, a2, b2, h2⟩ := draw_ok (n := n) hi ns (m + 1) Z 4 (by omega) (by decide)
  obtain ⟨r3, a3, b3, h3⟩ := draw_ok (n := n) hi ns (m + 2) Z 10 (by omega) (by decide)
  obtain ⟨r4, a4, b4, h4⟩ := draw_ok (n := n) hi ns (m + 3) Z 21 (by omega) (by decide)
  refine ⟨4 + r1, 1 + r2, r3, r4, ⟨by omega, by omega, by omega, by omega, by omega, by omega, by omega, by omega⟩, ?_⟩
  rw [run_of h rfl]
  simp [h1, h2, h3, h4]
/-! ### heads -/
abbrev hdO (mach : D) (place row : Int) (font : D) (beats fed : Int) (st : Nat) : Ob := .ins 0 [(0, mach), (1, .int place), (2, .int row), (3, font), (4, .int beats), (5, .int fed), (6, .ref st)]
def dInit : Def := ⟨2, 2, [.fld (.var 0) 0 (.var 1), .fld (.var 0) 1 (.lit (.int (0))), .fld (.var 0) 2 (.lit (.int (0))), .fld (.var 0) 3 (.lit (.str [97])), .fld (.var 0) 4 (.lit (.int (0))), .fld (.var 0) 5 (.lit (.int (0))), .fld (.var 0) 6 (.newD [])], false⟩
def dSettle : Def := ⟨1, 1, [.fld (.var 0) 4 (.bin .Add (.fld (.var 0) 4) (.fld (.var 0) 5)), .fld (.var 0) 5 (.lit (.int (0)))], false⟩
theorem set_get {S : Sto} {p : Nat} {o x : Ob} (h : S[p]? = some o) : (S.set p x)[p]? = some x := List.getElem?_set_self (List.getElem?_eq_some_iff.mp h).1
theorem ap_get {S T : Sto} {p : Nat} {o : Ob} (h : S[p]? = some o) : (S ++ T)[p]? = some o := by
  rw [List.getElem?_append_left (List.getElem?_eq_some_iff.mp h).1]
  exact h
theorem set_ap {S T : Sto} {p : Nat} {o x y : Ob} (h : S[p]? = some o) : (S.set p x ++ T).set p y = (S ++ T).set p y := by
  have hl := (List.getElem?_eq_some_iff.mp h).1
  rw [List.set_append_left _ _ (by simpa using hl), List.set_append_left _ _ hl, List.set_set]
theorem settle_ok {P : Prog} {n f : Nat} (h : P.defs[f]? = some dSettle) {S : Sto} {p : Nat} {mach : D} {place row : Int} {font : D} {beats fed : Int} {st : Nat} (hS : S[p]? = some (hdO mach place row font beats fed st)) :
    run P (n + 1) f [.ref p] S = .ok .non (S.set p (hdO mach place row font (beats + fed) 0 st)) := by
  rw [run_of h rfl]
  simp [fldR_ok hS, fldR_ok (set_get hS), fldS_ok hS, fldS_ok (set_get hS), fgetD, fputD, List.lookup]
def dGo : Def := ⟨2, 3, [.ite (.not (.val (.chn .LtE .LtE (.lit (.int (0))) (.var 1) (.idx (.fld (.var 0) 0) (.lit (.int (0))))))) [.raise 2] [], .asg (.name 2) (.blt .abs [.bin .Sub (.var 1) (.fld (.var 0) 1)]), .fld (.var 0) 4 (.bin .Add (.fld (.var 0) 4) (.blt .max2 [.var 2, .fld (.var 0) 5])), .fld (.var 0) 5 (.lit (.int (0))), .fld (.var 0) 1 (.var 1)], false⟩
theorem go_ok {P : Prog} {n f : Nat} (h : P.defs[f]? = some dGo) {S : Sto} {p : Nat} {w b fd c : Int} {place row : Int} {font : D} {beats fed : Int} {st : Nat} (hS : S[p]? = some (hdO (mch w b fd c) place row font beats fed st)) (to : Int) (h0 : 0 ≤ to) (h1 : to ≤ w) :
    run P (n + 1) f [.ref p, .int to] S = .ok .non (S.set p (hdO (mch w b fd c) to row font (beats + mx (ab (to - place)) fed) 0 st)) := by
  rw [run_of h rfl]
  simp [fldR_ok hS, fldR_ok (set_get hS), fldS_ok hS, fldS_ok (set_get hS), fgetD, fputD, List.lookup, h0, h1]
def dStand : Def := ⟨1, 1, [.ret (.tup [.fld (.var 0) 1, .fld (.var 0) 2, .fld (.var 0) 3])], false⟩
def dTime : Def := ⟨1, 1, [.ret (.fld (.var 0) 4)], false⟩
def dSheet : Def := ⟨1, 2, [.ret (.blt .tuple [.comp (.bin .Add (.var 1) (.tup [.idx (.fld (.var 0) 6) (.var 1)])) (.name 1) (.seq (.blt .sorted [.fld (.var 0) 6])) [] [1]])], false⟩
theorem stand_ok {P : Prog} {n f : Nat} (h : P.defs[f]? = some dStand) {S : Sto} {p : Nat} {mach : D} {place row : Int} {font : D} {beats fed : Int} {st : Nat} (hS : S[p]? = some (hdO mach place row font beats fed st)) :
    run P (n + 1) f [.ref p] S = .ok (.tup [.int place, .int row, font]) S := by
  rw [run_of h rfl]
  simp [fldR_ok hS, fgetD, List.lookup]
theorem time_ok {P : Prog} {n f : Nat} (h : P.defs[f]? = some dTime) {S : Sto} {p : Nat} {mach : D} {place row : Int} {font : D} {beats fed : Int} {st : Nat} (hS : S[p]? = some (hdO mach place row font beats fed st)) :
    run P (n + 1) f [.ref p] S = .ok (.int beats) S := by
  rw [run_of h rfl]
  simp [fldR_ok hS, fgetD, List.lookup]
theorem sorted_dct {S : Sto} {st : Nat} {kvs : List (D × D)} (h : S[st]? = some (.dct kvs)) : sortedD S (.ref st) = if sortable (kvs.map (·.1)) then some (.lst (sortD (kvs.map (·.1)))) else none := by
  have hv : vw S (.ref st) = .ref st := by simp [vw, h]
  simp only [sortedD, hv, h]
theorem sorted_dct0 {S : Sto} {st : Nat} (h : S[st]? = some (.dct [])) : sortedD S (.ref st) = some (.lst []) := by
  rw [sorted_dct h]
  simp [sortable, sortD, D.flatL, D.depL]
theorem sheet0_ok {P : Prog} {n f : Nat} (h : P.defs[f]? = some dSheet) {S : Sto} {p : Nat} {mach : D} {place row : Int} {font : D} {beats fed : Int} {st : Nat} (hS : S[p]? = some (hdO mach place row font beats fed st)) (hD : S[st]? = some (.dct [])) :
    run P (n + 1) f [.ref p] S = .ok (.tup []) S := by
  rw [run_of h rfl]
  simp [fldR_ok hS, fgetD, List.lookup, sorted_dct0 hD]
def dStrike : Def := ⟨3, 8, [.ite (.not (.val (.chn .LtE .LtE (.lit (.int (0))) (.var 1) (.idx (.fld (.var 0) 0) (.lit (.int (0))))))) [.raise 2] [], .asg (.tup [.name 3, .name 4]) (.tup [.blt .min2 [.var 1, .fld (.var 0) 1], .blt .max2 [.var 1, .fld (.var 0) 1]]), .ite (.not (.val (.blt .all [.comp (.chn .LtE .Lt (.var 3) (.var 5) (.var 4)) (.tup [.name 5, .name 6]) (.seq (.var 2)) [] [5, 6]]))) [.raise 2] [], .expr (.inv (.var 0) 2 []), .fld (.var 0) 4 (.bin .Add (.fld (.var 0) 4) (.bin .Mult (.idx (.fld (.var 0) 0) (.lit (.int (1)))) (.bin .Sub (.var 4) (.var 3)))), .fld (.var 0) 1 (.var 1), .for (.tup [.name 5, .name 6]) (.seq (.var 2)) [.asg (.name 7) (.tup [.fld (.var 0) 2, .var 5, .var 6, .fld (.var 0) 3]), .sub (.fld (.var 0) 6) (.var 7) (.bin .Add (.mth .get (.fld (.var 0) 6) [.var 7, .lit (.int (0))]) (.lit (.int (1))))]], false⟩
def dDo : Def := ⟨2, 2, [.ite (.val (.cmp .Eq (.idx (.var 1) (.lit (.int (0)))) (.lit (.str [102, 101, 101, 100])))) [.fld (.var 0) 5 (.bin .Add (.fld (.var 0) 5) (.bin .Mult (.idx (.fld (.var 0) 0) (.lit (.int (2)))) (.idx (.var 1) (.lit (.int (1)))))), .fld (.var 0) 2 (.bin .Add (.fld (.var 0) 2) (.idx (.var 1) (.lit (.int (1)))))] [.ite (.val (.cmp .Eq (.idx (.var 1) (.lit (.int (0)))) (.lit (.str [103, 111])))) [.expr (.inv (.var 0) 1 [.idx (.var 1) (.lit (.int (1)))])] [.ite (.val (.cmp .Eq (.idx (.var 1) (.lit (.int (0)))) (.lit (.str [102, 111, 110, 116])))) [.expr (.inv (.var 0) 2 []), .ite (.val (.cmp .NotEq (.idx (.var 1) (.lit (.int (1)))) (.fld (.var 0) 3))) [.fld (.var 0) 4 (.bin .Add (.fld (.var 0) 4) (.idx (.fld (.var 0) 0) (.lit (.int (3)))))] [], .fld (.var 0) 3 (.idx (.var 1) (.lit (.int (1))))] [.expr (.inv (.var 0) 3 [.idx (.var 1) (.lit (.int (1))), .idx (.var 1) (.lit (.int (2)))])]]]], false⟩
/-- the head's methods in a program -/
structure HasHead (P : Prog) (iI iD iG iSe iSt iSa iT iSh : Nat) : Prop where
  i : P.init.lookup 0 = some iI
  dI : P.defs[iI]? = some dInit
  d : P.meth.lookup (0, 0) = some iD
  dD : P.defs[iD]? = some dDo
  g : P.meth.lookup (0, 1) = some iG
  dG : P.defs[iG]? = some dGo
  se : P.meth.lookup (0, 2) = some iSe
  dSe : P.defs[iSe]? = some dSettle
  st : P.meth.lookup (0, 3) = some iSt
  dSt : P.defs[iSt]? = some dStrike
  sa : P.meth.lookup (0, 4) = some iSa
  dSa : P.defs[iSa]? = some dStand
  t : P.meth.lookup (0, 5) = some iT
  dT : P.defs[iT]? = some dTime
  sh : P.meth.lookup (0, 6) = some iSh
  dSh : P.defs[iSh]? = some dSheet
section
variable {P : Prog} {iI iD iG iSe iSt iSa iT iSh : Nat} (HH : HasHead P iI iD iG iSe iSt iSa iT iSh) {n : Nat} {S : Sto} {p : Nat} {w b fd c : Int} {place row : Int} {font : List Nat} {beats fed : Int} {st : Nat}
include HH
theorem init_ok (mach : D) {p : Nat} (hS : S[p]? = some (.ins 0 [])) : run P (n + 1) iI [.ref p, mach] S = .ok .non (List.set (S ++ [Ob.dct []]) p (hdO mach 0 0 (.str [97]) 0 0 S.length)) := by
  rw [run_of HH.dI rfl]
  simp [fldS_ok hS, fldS_ok (set_get hS), fputD, fldS_ok (ap_get (set_get hS)), set_ap hS]
omit HH in
theorem mul_ok {i j : Int} (h1 : 0 ≤ i) (h2 : i ≤ 100) : mulOk i j = true := mulOk_l (by omega) (by omega)
theorem feed_ok (M : MchOk w b fd c) (hS : S[p]? = some (hdO (mch w b fd c) place row (.str font) beats fed st)) (k : Int) :
    run P (n + 1) iD [.ref p, .tup [.str [102, 101, 101, 100], .int k]] S = .ok .non (S.set p (hdO (mch w b fd c) place (row + k) (.str font) beats (fed + fd * k) st)) := by
  have hm : mulOk fd k = true := mul_ok M.f1 (by have := M.f2; omega)
  rw [run_of HH.dD rfl]
  simp [fldR_ok hS, fldR_ok (set_get hS), fldS_ok hS, fldS_ok (set_get hS), fgetD, fputD, List.lookup, mul_int, hm]
theorem dgo_ok (hS : S[p]? = some (hdO (mch w b fd c) place row (.str font) beats fed st)) (to : Int) (h0 : 0 ≤ to) (h1 : to ≤ w) :
    run P (n + 2) iD [.ref p, .tup [.str [103, 111], .int to]] S = .ok .non (S.set p (hdO (mch w b fd c) to row (.str font) (beats + mx (ab (to - place)) fed) 0 st)) := by
  rw [run_of HH.dD rfl]
  simp [invR_ok hS HH.g, go_ok HH.dG hS to h0 h1]
theorem dfont_ok (hS : S[p]? = some (hdO (mch w b fd c) place row (.str font) beats fed st)) (ft : List Nat) :
    run P (n + 2) iD [.ref p, .tup [.str [102, 111, 110, 116], .str ft]] S = .ok .non (S.set p (hdO (mch w b fd c) place row (.str ft) (beats + fed + (if ft = font then 0 else c)) 0 st)) := by
  rw [run_of HH.dD rfl]
  by_cases h : ft = font
  · simp [invR_ok hS HH.se, settle_ok HH.dSe hS, fldR_ok (set_get hS), fldS_ok (set_get hS), fgetD, List.lookup, fputD, h]
  · simp [invR_ok hS HH.se, settle_ok HH.dSe hS, fldR_ok (set_get hS), fldS_ok (set_get hS), fgetD, List.lookup, fputD, h]
theorem dprint0_ok (M : MchOk w b fd c) (hS : S[p]? = some (hdO (mch w b fd c) place row (.str font) beats fed st)) (to : Int) (h0 : 0 ≤ to) (h1 : to ≤ w) :
    run P (n + 3) iD [.ref p, .tup [.str [112, 114, 105, 110, 116], .int to, .tup []]] S = .ok .non (S.set p (hdO (mch w b fd c) to row (.str font) (beats + fed + b * (mx to place - mn to place)) 0 st)) := by
  have hm : ∀ j, mulOk b j = true := fun j => mul_ok (by have := M.b1; omega) (by have := M.b2; omega)
  have hs : run P (n + 2) iSt [.ref p, .int to, .tup []] S = .ok .non (S.set p (hdO (mch w b fd c) to row (.str font) (beats + fed + b * (mx to place - mn to place)) 0 st)) := by
    rw [run_of HH.dSt rfl]
    simp [fldR_ok hS, fldR_ok (set_get hS), fldS_ok (set_get hS), fgetD, List.lookup, fputD, h0, h1, invR_ok hS HH.se, settle_ok HH.dSe hS, mul_int, hm]
  rw [run_of HH.dD rfl]
  simp [invR_ok hS HH.st, hs]
end
end HW
/-! Pages, rows, signs, passes, ways: plain theory, no program in sight. -/
namespace HW
/-- a run: column, text, font, how often struck -/
structure Rn where
  col : Int
  txt : List Nat
  fnt : List Nat
  tms : Int
  deriving DecidableEq, Inhabited
structure Sg where
  col : Int
  ch : Nat
  fnt : List Nat
  tms : Int
  deriving DecidableEq, Inhabited
structure Ps where
  fnt : List Nat
  trn : Int
  lo : Int
  hi : Int
  deriving DecidableEq, Inhabited
structure Tr where
  row : Nat
  fnt : List Nat
  trn : Int
  deriving DecidableEq, Inhabited
structure Sp where
  row : Nat
  fnt : List Nat
  trn : Int
  lft : Bool
  deriving DecidableEq, Inhabited
abbrev Sp.tri (s : Sp) : Tr := ⟨s.row, s.fnt, s.trn⟩
abbrev Row := List Rn
abbrev Pg := List Row
def sgsFrom (f : List Nat) (t : Int) : Int → List Nat → List Sg
  | _, [] => []
  | c, x :: xs => ⟨c, x, f, t⟩ :: sgsFrom f t (c + 1) xs
abbrev Rn.sgs (r : Rn) : List Sg := sgsFrom r.fnt r.tms r.col r.txt
def signs (row : Row) : List Sg := row.flatMap Rn.sgs
@[simp] theorem signs_nil : signs [] = [] := rfl
@[simp] theorem signs_cons (r : Rn) (row : Row) : signs (r :: row) = r.sgs ++ signs row := rfl
@[simp] theorem signs_app (a b : Row) : signs (a ++ b) = signs a ++ signs b := by simp [signs]
def mnL : List Int → Int
  | [] => 0
  | i :: r => r.foldl (fun m j => if j < m then j else m) i
def mxL : List Int → Int
  | [] => 0
  | i :: r => r.foldl (fun m j => if m < j then j else m) i
theorem mn_fold : ∀ (r : List Int) (i : Int), (∀ j ∈ r, i ≤ j) → r.foldl (fun m j => if j < m then j else m) i = i
  | [], i, _ => rfl
  | j :: r, i, h => by
    rw [List.foldl_cons, if_neg (by have := h j (by simp); omega)]
    exact mn_fold r i fun k hk => h k (by simp [hk])
theorem mnL_of {i : Int} {r : List Int} (h : ∀ j ∈ r, i ≤ j) : mnL (i :: r) = i := mn_fold r i h
theorem mxL_of : ∀ {r : List Int} {i : Int}, (i :: r).Pairwise (· < ·) → mxL (i :: r) = (i :: r).getLast (by simp)
  | [], i, _ => rfl
  | j :: r, i, h => by
    have h1 : i < j := by simp at h; omega
    have := mxL_of (r := r) (i := j) (by simp at h ⊢; exact h.2)
    simp only [mxL, List.foldl_cons, if_pos h1] at this ⊢
    rw [this]
    simp
def colsOf (sg : List Sg) (f : List Nat) (t : Int) : List Int := (sg.filter fun s => decide (s.fnt = f) && decide (t ≤ s.tms)).map Sg.col
def passAt (sg : List Sg) (k : List Nat × Int) : Option Ps := if colsOf sg k.1 k.2 = [] then none else some ⟨k.1, k.2, mnL (colsOf sg k.1 k.2), mxL (colsOf sg k.1 k.2)⟩
abbrev keys6 : List (List Nat × Int) := [([97], 1), ([97], 2), ([98], 1), ([98], 2), ([99], 1), ([99], 2)]
def passes (row : Row) : List Ps := keys6.filterMap (passAt (signs row))
abbrev Ps.key (p : Ps) : List Nat × Int := (p.fnt, p.trn)
def rowDue (k : Nat) (row : Row) : List Tr := (passes row).map fun p => ⟨k, p.fnt, p.trn⟩
def dueFrom : Nat → Pg → List Tr
  | _, [] => []
  | k, r :: rs => rowDue k r ++ dueFrom (k + 1) rs
abbrev due (pg : Pg) : List Tr := dueFrom 0 pg
inductive WayFrom : Nat → Pg → List Sp → Prop
  | nil {k : Nat} : WayFrom k [] []
  | cons {k : Nat} {row : Row} {rows : Pg} {ss way : List Sp} : (ss.map Sp.tri).Perm (rowDue k row) → WayFrom (k + 1) rows way → WayFrom k (row :: rows) (ss ++ way)
/-! ### rows that are drawn -/
structure RnOk (r : Rn) : Prop where
  t1 : 1 ≤ r.txt.length
  t2 : r.txt.length ≤ 10
  ch : ∀ c ∈ r.txt, c ∈ [120, 121, 122, 33, 126, 48]
  f : r.fnt = [97] ∨ r.fnt = [98] ∨ r.fnt = [99]
  tm : r.tms = 1 ∨ r.tms = 2
def chain : Int → Row → Prop
  | _, [] => True
  | lo, r :: rs => lo ≤ r.col ∧ chain (r.col + r.txt.length) rs
def endOf : Int → Row → Int
  | lo, [] => lo
  | _, r :: rs => endOf (r.col + r.txt.length) rs
structure RowOk (w : Int) (row : Row) : Prop where
  l : row.length ≤ 4
  r : ∀ r ∈ row, RnOk r
  c : chain 0 row
  e : endOf 0 row ≤ w
structure PgOk (w : Int) (pg : Pg) : Prop where
  l : pg.length ≤ 6
  r : ∀ row ∈ pg, RowOk w row
theorem chain_snoc : ∀ {row : Row} {lo : Int} {r : Rn}, chain lo row → endOf lo row ≤ r.col → chain lo (row ++ [r])
  | [], lo, r, _, h => ⟨h, trivial⟩
  | a :: row, lo, r, h, h2 => ⟨h.1, chain_snoc h.2 h2⟩
theorem endOf_snoc : ∀ {row : Row} {lo : Int} {r : Rn}, endOf lo (row ++ [r]) = r.col + r.txt.length
  | [], lo, r => rfl
  | a :: row, lo, r => endOf_snoc (row := row)
theorem sgs_len (f : List Nat) (t : Int) : ∀ (x : List Nat) (c : Int), (sgsFrom f t c x).length = x.length
  | [], c => rfl
  | a :: x, c => by simp [sgsFrom, sgs_len f t x]
theorem sgs_col (f : List Nat) (t : Int) : ∀ (x : List Nat) (c : Int) (s : Sg), s ∈ sgsFrom f t c x → c ≤ s.col ∧ s.col < c + x.length ∧ s.fnt = f ∧ s.tms = t ∧ s.ch ∈ x
  | [], c, s, h => by simp [sgsFrom] at h
  | a :: x, c, s, h => by
    simp only [sgsFrom, List.mem_cons] at h
    rcases h with rfl | h
    · simp; omega
    · have := sgs_col f t x (c + 1) s h
      simp only [List.length_cons, List.mem_cons]
      exact ⟨by omega, by omega, this.2.2.1, this.2.2.2.1, .inr this.2.2.2.2⟩
theorem sgs_pw (f : List Nat) (t : Int) : ∀ (x : List Nat) (c : Int), (sgsFrom f t c x).Pairwise fun a b => a.col < b.col
  | [], c => by simp [sgsFrom]
  | a :: x, c => by
    simp only [sgsFrom, List.pairwise_cons]
    refine ⟨fun s hs => ?_, sgs_pw f t x (c + 1)⟩
    have := (sgs_col f t x (c + 1) s hs).1
    show c < s.col
    omega
theorem endOf_ge : ∀ {row : Row} {lo : Int}, chain lo row → lo ≤ endOf lo row
  | [], lo, _ => by simp [endOf]
  | r :: row, lo, h => by
    have := endOf_ge h.2
    have := h.1
    simp only [endOf]
    omega
theorem signs_col : ∀ {row : Row} {lo : Int}, chain lo row → ∀ s ∈ signs row, lo ≤ s.col ∧ s.col < endOf lo row
  | [], lo, _, s, h => by simp [signs] at h
  | r :: row, lo, hc, s, h => by
    simp only [signs_cons, List.mem_append] at h
    have h0 := hc.1
    have h2 := endOf_ge hc.2
    simp only [endOf]
    rcases h with h | h
    · have := sgs_col _ _ _ _ _ h
      omega
    · have := signs_col hc.2 s h
      omega
theorem signs_pw : ∀ {row : Row} {lo : Int}, chain lo row → (signs row).Pairwise fun a b => a.col < b.col
  | [], lo, _ => by simp
  | r :: row, lo, hc => by
    simp only [signs_cons, List.pairwise_append]
    refine ⟨sgs_pw _ _ _ _, signs_pw hc.2, fun a ha b hb => ?_⟩
    have := sgs_col _ _ _ _ _ ha
    have := signs_col hc.2 b hb
    omega
theorem signs_of_run {row : Row} {s : Sg} (h : s ∈ signs row) : ∃ r ∈ row, s.fnt = r.fnt ∧ s.tms = r.tms ∧ s.ch ∈ r.txt := by
  obtain ⟨r, hr, hs⟩ := List.mem_flatMap.mp h
  have := sgs_col _ _ _ _ _ hs
  exact ⟨r, hr, this.2.2.1, this.2.2.2.1, this.2.2.2.2⟩
theorem signs_len {row : Row} (h : ∀ r ∈ row, RnOk r) : (signs row).length ≤ 10 * row.length := by
  induction row with
  | nil => simp
  | cons r row ih =>
    have := (h r (by simp)).t2
    have := ih fun q hq => h q (by simp [hq])
    simp only [signs_cons, List.length_append, sgs_len, List.length_cons]
    omega
/-! ### passes -/
section
variable {w : Int} {row : Row} (R : RowOk w row)
include R
theorem signs_key {s : Sg} (h : s ∈ signs row) : (s.fnt = [97] ∨ s.fnt = [98] ∨ s.fnt = [99]) ∧ (s.tms = 1 ∨ s.tms = 2) := by
  obtain ⟨r, hr, h1, h2, _⟩ := signs_of_run h
  rw [h1, h2]
  exact ⟨(R.r r hr).f, (R.r r hr).tm⟩
theorem cols_pw (f : List Nat) (t : Int) : (colsOf (signs row) f t).Pairwise (· < ·) := by
  unfold colsOf
  rw [List.pairwise_map]
  exact (signs_pw R.c).filter _
theorem cols_bd (f : List Nat) (t : Int) : ∀ c ∈ colsOf (signs row) f t, 0 ≤ c ∧ c < w := by
  intro c hc
  obtain ⟨s, hs, rfl⟩ := List.mem_map.mp hc
  have := signs_col R.c s (List.mem_filter.mp hs).1
  have := R.e
  omega
theorem cols_ends {f : List Nat} {t : Int} (h : colsOf (signs row) f t ≠ []) : mnL (colsOf (signs row) f t) = (colsOf (signs row) f t).head h ∧ mxL (colsOf (signs row) f t) = (colsOf (signs row) f t).getLast h := by
  have hp := cols_pw R f t
  generalize colsOf (signs row) f t = l at *
  cases l with
  | nil => exact absurd rfl h
  | cons a r =>
    refine ⟨mnL_of fun j hj => ?_, mxL_of hp⟩
    have := (List.pairwise_cons.mp hp).1 j hj
    omega
theorem cols_le {f : List Nat} {t : Int} (h : colsOf (signs row) f t ≠ []) : ∀ c ∈ colsOf (signs row) f t, mnL (colsOf (signs row) f t) ≤ c ∧ c ≤ mxL (colsOf (signs row) f t) := by
  rw [(cols_ends R h).1, (cols_ends R h).2]
  have hp := cols_pw R f t
  generalize colsOf (signs row) f t = l at *
  intro c hc
  constructor
  · cases l with
    | nil => exact absurd rfl h
    | cons a r =>
      rcases List.mem_cons.mp hc with rfl | hc
      · exact Int.le_refl _
      · have := (List.pairwise_cons.mp hp).1 c hc
        simp; omega
  · obtain ⟨i, hi, rfl⟩ := List.getElem_of_mem hc
    rw [List.getLast_eq_getElem]
    by_cases hl : i = l.length - 1
    · subst hl; exact Int.le_refl _
    · have := (List.pairwise_iff_getElem.mp hp) i (l.length - 1) hi (by omega) (by omega)
      omega
end
theorem mem_passes {row : Row} {p : Ps} : p ∈ passes row ↔ p.key ∈ keys6 ∧ passAt (signs row) p.key = some p := by
  unfold passes
  rw [List.mem_filterMap]
  constructor
  · rintro ⟨k, hk, hp⟩
    have : p.key = k := by
      unfold passAt at hp
      split at hp
      · exact absurd hp (by simp)
      · simp only [Option.some.injEq] at hp; subst hp; rfl
    rw [this]
    exact ⟨hk, hp⟩
  · rintro ⟨hk, hp⟩
    exact ⟨_, hk, hp⟩
theorem passAt_some {sg : List Sg} {k : List Nat × Int} {p : Ps} (h : passAt sg k = some p) : p.key = k ∧ colsOf sg k.1 k.2 ≠ [] ∧ p.lo = mnL (colsOf sg k.1 k.2) ∧ p.hi = mxL (colsOf sg k.1 k.2) := by
  unfold passAt at h
  split at h
  · exact absurd h (by simp)
  · next hn =>
    simp only [Option.some.injEq] at h
    subst h
    exact ⟨rfl, hn, rfl, rfl⟩
theorem pass_bd {w : Int} {row : Row} (R : RowOk w row) {p : Ps} (h : p ∈ passes row) : 0 ≤ p.lo ∧ p.lo ≤ p.hi ∧ p.hi < w := by
  obtain ⟨_, hn, h1, h2⟩ := passAt_some (mem_passes.mp h).2
  have e := cols_ends R hn
  have b1 := cols_bd R p.fnt p.trn _ (List.head_mem hn)
  have b2 := cols_bd R p.fnt p.trn _ (List.getLast_mem hn)
  have b3 := (cols_le R hn _ (List.head_mem hn))
  rw [h1, h2]
  have := e.1
  have := e.2
  simp only [] at *
  omega
/-! ### the order of keys -/
def leI : List Int → List Int → Bool
  | [], _ => true
  | _ :: _, [] => false
  | a :: as, b :: bs => if a < b then true else if b < a then false else leI as bs
theorem leI_total : ∀ a b : List Int, (leI a b || leI b a) = true
  | [], _ => by simp [leI]
  | _ :: _, [] => by simp [leI]
  | a :: as, b :: bs => by
    have := leI_total as bs
    simp only [leI]
    by_cases h1 : a < b
    · simp [h1]
    · by_cases h2 : b < a
      · simp [h2]
      · simpa [h1, h2] using this
theorem leI_trans : ∀ a b c : List Int, leI a b = true → leI b c = true → leI a c = true
  | [], _, _, _, _ => by simp [leI]
  | _ :: _, [], _, h, _ => by simp [leI] at h
  | _ :: _, _ :: _, [], _, h => by simp [leI] at h
  | a :: as, b :: bs, c :: cs, h1, h2 => by
    simp only [leI] at h1 h2 ⊢
    by_cases ab : a < b
    · by_cases bc : b < c
      · simp [show a < c by omega]
      · by_cases cb : c < b
        · simp [bc, cb] at h2
        · simp [show a < c by omega]
    · by_cases ba : b < a
      · simp [ab, ba] at h1
      · have e : a = b := by omega
        subst e
        by_cases bc : a < c
        · simp [bc]
        · by_cases cb : c < a
          · simp [bc, cb] at h2
          · simp [ab] at h1
            simp [bc, cb] at h2 ⊢
            exact leI_trans as bs cs h1 h2
theorem leI_anti : ∀ a b : List Int, leI a b = true → leI b a = true → a = b
  | [], [], _, _ => rfl
  | [], _ :: _, _, h => by simp [leI] at h
  | _ :: _, [], h, _ => by simp [leI] at h
  | a :: as, b :: bs, h1, h2 => by
    simp only [leI] at h1 h2
    by_cases ab : a < b
    · have : ¬ b < a := by omega
      simp [ab, this] at h2
    · by_cases ba : b < a
      · simp [ab, ba] at h1
      · have e : a = b := by omega
        subst e
        simp [ab] at h1 h2
        rw [leI_anti as bs h1 h2]
/-- a list sorted by codes that tell its items apart -/
theorem sort_code {α : Type} (le : α → α → Bool) (code : α → List Int) {l l' : List α} (hle : ∀ a ∈ l, ∀ b ∈ l, le a b = leI (code a) (code b)) (inj : ∀ a ∈ l, ∀ b ∈ l, code a = code b → a = b)
    (hp : l.Perm l') (hs : (l'.map code).Pairwise fun a b => leI a b = true) : l.mergeSort le = l' := by
  have hm := List.map_mergeSort (r := le) (s := leI) (f := code) (l := l) hle
  have hs1 := List.pairwise_mergeSort leI_trans leI_total (l.map code)
  have hp1 := (List.mergeSort_perm (l.map code) leI).trans (hp.map code)
  have he := List.Perm.eq_of_pairwise (fun a b _ _ => leI_anti a b) hs1 hs hp1
  rw [← hm] at he
  have hml : ∀ a, a ∈ l.mergeSort le → a ∈ l := fun a h => (List.mergeSort_perm l le).mem_iff.mp h
  have hml' : ∀ a, a ∈ l' → a ∈ l := fun a h => hp.mem_iff.mpr h
  generalize l.mergeSort le = m at *
  clear hm hs1 hp1 hp hs
  induction m generalizing l' with
  | nil => cases l' <;> simp at he ⊢
  | cons a m ih =>
    cases l' with
    | nil => simp at he
    | cons b l' =>
      simp only [List.map_cons, List.cons.injEq] at he
      rw [inj a (hml a (by simp)) b (hml' b (by simp)) he.1, ih (fun x hx => hml' x (by simp [hx])) he.2 fun x hx => hml x (by simp [hx])]
/-! ### what is due, ways -/
def fc (f : List Nat) : Int := ((f.headD 0 : Nat) : Int)
def Tr.code (t : Tr) : List Int := [(t.row : Int), fc t.fnt, t.trn]
def kcode (k : List Nat × Int) : List Int := [fc k.1, k.2]
/-- less, each by its code -/
def ltC (a b : List Int) : Prop := leI a b = true ∧ a ≠ b
theorem passes_keys (row : Row) : (passes row).map Ps.key = keys6.filter fun k => decide (colsOf (signs row) k.1 k.2 ≠ []) := by
  unfold passes
  generalize keys6 = ks
  induction ks with
  | nil => rfl
  | cons k ks ih =>
    simp only [List.filterMap_cons, List.filter_cons]
    by_cases h : colsOf (signs row) k.1 k.2 = []
    · simp [passAt, h, ih]
    · simp [passAt, h, ih, Ps.key]
theorem keys6_pw : keys6.Pairwise fun a b => leI (kcode a) (kcode b) = true ∧ a ≠ b := by decide
theorem passes_pw (row : Row) : (passes row).Pairwise fun a b => leI (kcode a.key) (kcode b.key) = true ∧ a.key ≠ b.key := by
  have h : ((passes row).map Ps.key).Pairwise fun a b => leI (kcode a) (kcode b) = true ∧ a ≠ b := by
    rw [passes_keys]
    exact keys6_pw.filter _
  rwa [List.pairwise_map] at h
theorem passes_len (row : Row) : (passes row).length ≤ 6 := by
  have : ((passes row).map Ps.key).length ≤ 6 := by
    rw [passes_keys]
    exact List.length_filter_le _ _
  simpa using this
theorem due_mem : ∀ {pg : Pg} {k : Nat} {t : Tr}, t ∈ dueFrom k pg → k ≤ t.row ∧ t.row < k + pg.length ∧ ∃ row p, pg[t.row - k]? = some row ∧ p ∈ passes row ∧ p.fnt = t.fnt ∧ p.trn = t.trn
  | [], k, t, h => by simp [dueFrom] at h
  | r :: rs, k, t, h => by
    simp only [dueFrom, List.mem_append] at h
    rcases h with h | h
    · obtain ⟨p, hp, rfl⟩ := List.mem_map.mp h
      exact ⟨Nat.le_refl _, by simp, r, p, by simp, hp, rfl, rfl⟩
    · obtain ⟨h1, h2, row, p, h3, h4⟩ := due_mem (pg := rs) h
      refine ⟨by omega, by simp; omega, row, p, ?_, h4⟩
      have : t.row - k = (t.row - (k + 1)) + 1 := by omega
      rw [this]
      simpa using h3
theorem due_pw : ∀ (pg : Pg) (k : Nat), (dueFrom k pg).Pairwise fun a b => leI a.code b.code = true ∧ a ≠ b
  | [], k => by simp [dueFrom]
  | r :: rs, k => by
    simp only [dueFrom, List.pairwise_append]
    refine ⟨?_, due_pw rs (k + 1), fun a ha b hb => ?_⟩
    · unfold rowDue
      rw [List.pairwise_map]
      refine (passes_pw r).imp fun h => ⟨?_, fun e => h.2 ?_⟩
      · simpa [Tr.code, leI, kcode] using h.1
      · simp at e; simp [Ps.key, e]
    · obtain ⟨p, hp, rfl⟩ := List.mem_map.mp ha
      have hb := (due_mem hb).1
      refine ⟨?_, fun e => ?_⟩
      · simp only [Tr.code, leI]
        rw [if_pos (by omega)]
      · subst e; simp at hb; omega
theorem due_take : ∀ (pg : Pg) (k j : Nat), dueFrom k (pg.take j) = (dueFrom k pg).filter fun t => decide (t.row < k + j)
  | [], k, j => by simp [dueFrom]
  | r :: rs, k, 0 => by
    simp only [List.take_zero, dueFrom]
    symm
    rw [List.filter_eq_nil_iff]
    intro t ht
    have := (due_mem (pg := r :: rs) ht).1
    simp; omega
  | r :: rs, k, j + 1 => by
    simp only [List.take_succ_cons, dueFrom, List.filter_append]
    rw [due_take rs (k + 1) j]
    congr 1
    · symm
      rw [List.filter_eq_self]
      intro t ht
      obtain ⟨p, hp, rfl⟩ := List.mem_map.mp ht
      simp
    · congr 1
      funext t
      congr 1
      apply propext
      constructor <;> intro h <;> omega
theorem way_perm : ∀ {k : Nat} {pg : Pg} {way : List Sp}, WayFrom k pg way → (way.map Sp.tri).Perm (dueFrom k pg)
  | _, _, _, .nil => by simp [dueFrom]
  | _, _, _, .cons h hw => by
    simp only [List.map_append, dueFrom]
    exact h.append (way_perm hw)
theorem way_mem {k : Nat} {pg : Pg} {way : List Sp} (W : WayFrom k pg way) {s : Sp} (h : s ∈ way) : k ≤ s.row ∧ s.row < k + pg.length ∧ ∃ row p, pg[s.row - k]? = some row ∧ p ∈ passes row ∧ p.fnt = s.fnt ∧ p.trn = s.trn :=
  due_mem ((way_perm W).mem_iff.mp (List.mem_map_of_mem h))
theorem way_rows : ∀ {k : Nat} {pg : Pg} {way : List Sp}, WayFrom k pg way → way.Pairwise fun a b => a.row ≤ b.row
  | _, _, _, .nil => by simp
  | k, _, _, .cons (ss := ss) (way := way) (row := row) h hw => by
    have hk : ∀ s ∈ ss, s.row = k := fun s hs => by
      have := h.mem_iff.mp (List.mem_map_of_mem hs)
      obtain ⟨p, hp, e⟩ := List.mem_map.mp this
      simp at e; omega
    rw [List.pairwise_append]
    refine ⟨?_, way_rows hw, fun a ha b hb => ?_⟩
    · rw [List.pairwise_iff_getElem]
      intro i j hi hj _
      rw [hk _ (List.getElem_mem hi), hk _ (List.getElem_mem hj)]
      exact Nat.le_refl _
    · have := hk a ha
      have := (way_mem hw hb).1
      omega
theorem way_take : ∀ {k : Nat} {pg : Pg} {way : List Sp}, WayFrom k pg way → ∀ j, WayFrom k (pg.take j) (way.filter fun s => decide (s.row < k + j)) ∧ ∃ rest, way = (way.filter fun s => decide (s.row < k + j)) ++ rest
  | _, _, _, .nil, j => by simp; exact .nil
  | k, _, _, .cons (ss := ss) (way := way) (row := row) (rows := rows) h hw, 0 => by
    have hf : ((ss ++ way).filter fun s => decide (s.row < k + 0)) = [] := by
      rw [List.filter_eq_nil_iff]
      intro s hs
      have := (way_mem (.cons h hw) hs).1
      simp; omega
    rw [hf]
    exact ⟨.nil, _, rfl⟩
  | k, _, _, .cons (ss := ss) (way := way) (row := row) (rows := rows) h hw, j + 1 => by
    have hk : ∀ s ∈ ss, s.row = k := fun s hs => by
      have := h.mem_iff.mp (List.mem_map_of_mem hs)
      obtain ⟨p, hp, e⟩ := List.mem_map.mp this
      simp at e; omega
    obtain ⟨h1, rest, h2⟩ := way_take hw j
    have e1 : (ss.filter fun s => decide (s.row < k + (j + 1))) = ss := by
      rw [List.filter_eq_self]
      intro s hs
      have := hk s hs
      simp; omega
    have e2 : (way.filter fun s => decide (s.row < k + (j + 1))) = way.filter fun s => decide (s.row < k + 1 + j) := by
      congr 1
      funext s
      congr 1
      apply propext
      constructor <;> intro h <;> omega
    rw [List.filter_append, e1, e2]
    refine ⟨.cons h h1, rest, ?_⟩
    rw [List.append_assoc, ← h2]
theorem way_len {k : Nat} {pg : Pg} {way : List Sp} (W : WayFrom k pg way) : way.length ≤ 6 * pg.length := by
  induction W with
  | nil => simp
  | cons h hw ih =>
    have := h.length_eq
    simp only [List.length_map, rowDue] at this
    have := passes_len ‹Row›
    simp only [List.length_append, List.length_cons]
    omega
theorem find_pass {row : Row} {p : Ps} (h : p ∈ passes row) : (passes row).find? (fun q => decide (q.fnt = p.fnt) && decide (q.trn = p.trn)) = some p := by
  have hp := passes_pw row
  generalize passes row = l at *
  induction l with
  | nil => simp at h
  | cons a l ih =>
    rw [List.find?_cons]
    rcases List.mem_cons.mp h with rfl | h'
    · simp
    · have := ((List.pairwise_cons.mp hp).1 p h').2
      have hn : (decide (a.fnt = p.fnt) && decide (a.trn = p.trn)) = false := by
        cases hh : (decide (a.fnt = p.fnt) && decide (a.trn = p.trn)) with
        | false => rfl
        | true =>
          simp at hh
          exact absurd (by simp [Ps.key, hh]) this
      rw [hn]
      exact ih h' (List.pairwise_cons.mp hp).2
/-- where a pass begins and ends -/
def Ps.ends (p : Ps) (l : Bool) : Int × Int := if l then (p.hi + 1, p.lo) else (p.lo, p.hi + 1)
def endsIn (row : Row) (f : List Nat) (t : Int) (l : Bool) : Option (Int × Int) := ((passes row).find? fun q => decide (q.fnt = f) && decide (q.trn = t)).map fun p => p.ends l
def endsAt (pg : Pg) (s : Sp) : Int × Int := ((pg[s.row]?.bind fun row => endsIn row s.fnt s.trn s.lft)).getD (0, 0)
theorem way_ends {pg : Pg} {way : List Sp} (W : WayFrom 0 pg way) {s : Sp} (h : s ∈ way) : ∃ row p, pg[s.row]? = some row ∧ p ∈ passes row ∧ p.fnt = s.fnt ∧ p.trn = s.trn ∧ endsIn row s.fnt s.trn s.lft = some (p.ends s.lft) ∧ endsAt pg s = p.ends s.lft := by
  obtain ⟨_, _, row, p, h1, h2, h3, h4⟩ := way_mem W h
  have h1 : pg[s.row]? = some row := by simpa using h1
  have h5 : endsIn row s.fnt s.trn s.lft = some (p.ends s.lft) := by
    unfold endsIn
    rw [← h3, ← h4, find_pass h2]
    rfl
  exact ⟨row, p, h1, h2, h3, h4, h5, by simp [endsAt, h1, h5]⟩
end HW
/-! Loops and comprehensions over encoded lists. -/
namespace HW
section
variable {α : Type} {xs : List α} {enc : α → D} {own : List (Nat × List D)}
theorem for_pre {turn : D → Env → Sto → O} {env : Env} {S : Sto} (I : List α → Env → Sto → Prop) (hs : ∀ pre env S, I pre env S → stay own S = true) (h0 : I [] env S)
    (step : ∀ pre x post env S, xs = pre ++ x :: post → I pre env S → ∃ env' S', turn (enc x) env S = .next env' S' ∧ I (pre ++ [x]) env' S') :
    ∃ env' S', forL own turn (xs.map enc) env S = .next env' S' ∧ I xs env' S' := by
  have main : ∀ (post pre : List α) (env : Env) (S : Sto), xs = pre ++ post → I pre env S → ∃ env' S', forL own turn (post.map enc) env S = .next env' S' ∧ I xs env' S' := by
    intro post
    induction post with
    | nil =>
      intro pre env S e hi
      simp only [List.append_nil] at e
      subst e
      exact ⟨env, S, by simp [forL, hs _ _ _ hi], hi⟩
    | cons x post ih =>
      intro pre env S e hi
      obtain ⟨env1, S1, h1, i1⟩ := step pre x post env S e hi
      obtain ⟨env2, S2, h2, i2⟩ := ih (pre ++ [x]) env1 S1 (by simp [e]) i1
      exact ⟨env2, S2, by simp [forL, hs _ _ _ hi, h1, h2], i2⟩
  exact main xs [] env S rfl h0
/-- a walk, then the rest -/
theorem for_end {turn : D → Env → Sto → O} {env : Env} {S : Sto} {k : Env → Sto → O} {r : R D} (I : List α → Env → Sto → Prop) (h0 : I [] env S)
    (step : ∀ pre x post env S, xs = pre ++ x :: post → I pre env S → ∃ env' S', turn (enc x) env S = .next env' S' ∧ I (pre ++ [x]) env' S')
    (hk : ∀ env' S', I xs env' S' → endR (k env' S') = r) : endR ((forL [] turn (xs.map enc) env S).andThen k) = r := by
  obtain ⟨env', S', h, hi⟩ := for_pre (own := []) I (fun _ _ _ _ => rfl) h0 step
  rw [h, then_next]
  exact hk _ _ hi
theorem compL_map {turn : D → Sto → R (Option D)} {S : Sto} (hs : stay own S = true) (g : α → Option D) (h : ∀ x ∈ xs, turn (enc x) S = .ok (g x) S) (acc : List D) :
    compL own turn (xs.map enc) acc S = .ok (acc ++ xs.filterMap g) S := by
  induction xs generalizing acc with
  | nil => simp [compL, hs]
  | cons x xs ih =>
    have ih := ih fun y hy => h y (by simp [hy])
    simp only [List.map_cons, compL, hs, if_true, h x (by simp), bind_ok]
    cases hg : g x with
    | none => simp [ih, hg]
    | some y => simp [ih, hg]
variable {P : Prog} {call : Call} {elt : X} {tg : Tg} {ifs : List T} {vs : List Nat} {env : Env} {S : Sto}
theorem comp_map (g : α → D) (h : ∀ x ∈ xs, compT P call elt tg ifs vs env (enc x) S = .ok (some (g x)) S) (hs : stay own S = true) (hl : xs.length ≤ SZ) :
    compR P call elt tg ifs vs env ⟨xs.map enc, own⟩ S = .ok (.lst (xs.map g)) S := by
  simp only [compR]
  rw [compL_map hs (fun x => some (g x)) h]
  simp [hl, List.filterMap_eq_map']
theorem comp_filt (p : α → Bool) (g : α → D) (h : ∀ x ∈ xs, compT P call elt tg ifs vs env (enc x) S = .ok (if p x then some (g x) else none) S) (hs : stay own S = true) (hl : xs.length ≤ SZ) :
    compR P call elt tg ifs vs env ⟨xs.map enc, own⟩ S = .ok (.lst ((xs.filter p).map g)) S := by
  simp only [compR]
  rw [compL_map hs (fun x => if p x then some (g x) else none) h]
  have e : xs.filterMap (fun x => if p x = true then some (g x) else none) = (xs.filter p).map g := by
    clear h hl
    induction xs with
    | nil => rfl
    | cons x xs ih => by_cases hp : p x = true <;> simp [hp, ih]
  have : (xs.filter p).length ≤ SZ := Nat.le_trans (List.length_filter_le p xs) hl
  simp [e, this]
end
theorem enum_map {α : Type} (enc : α → D) : ∀ (xs : List α) (k : Nat), enumFrom k (xs.map enc) = (xs.zipIdx k).map fun p => .tup [.int p.2, enc p.1]
  | [], k => rfl
  | x :: xs, k => by simp [enumFrom, List.zipIdx_cons, enum_map enc xs]
theorem range_map : ∀ (n : Nat) (lo : Int), rangeD lo n = (List.range n).map fun i : Nat => D.int (lo + (i : Int))
  | 0, lo => rfl
  | n + 1, lo => by
    simp only [rangeD, List.range_succ_eq_map, List.map_cons, List.map_map, range_map n]
    congr 1
    · simp
    · apply List.map_congr_left
      intro i _
      simp
      omega
theorem zip_map {α β : Type} (f : α → D) (g : β → D) : ∀ (xs : List α) (ys : List β), zipD (xs.map f) (ys.map g) = (xs.zip ys).map fun p => .tup [f p.1, g p.2]
  | [], _ => by simp [zipD]
  | _ :: _, [] => by simp [zipD]
  | x :: xs, y :: ys => by simp [zipD, zip_map f g xs ys]
theorem atI_map {α β : Type} (f : α → β) (xs : List α) (i : Nat) : L2.atI (xs.map f) (i : Int) = xs[i]?.map f := by
  unfold L2.atI L2.ixN
  rw [if_pos (by omega)]
  by_cases h : i < xs.length
  · rw [if_pos (by simpa using h)]
    simp [h]
  · rw [if_neg (by simpa using h)]
    simp [show xs.length ≤ i by omega]
/-! ### flat data -/
theorem flat_map {α : Type} {enc : α → D} (h : ∀ x, (enc x).flat = true) : ∀ xs : List α, D.flatL (xs.map enc) = true
  | [] => rfl
  | x :: xs => by simp [D.flatL, h x, flat_map h xs]
theorem dep_map {α : Type} {enc : α → D} {k : Nat} (h : ∀ x, (enc x).dep ≤ k) : ∀ xs : List α, D.depL (xs.map enc) ≤ k
  | [] => by simp [D.depL]
  | x :: xs => by
    have := h x
    have := dep_map h xs
    simp only [List.map_cons, D.depL]
    omega
theorem und_map {α : Type} {enc : α → D} {n : Nat} (h : ∀ x, (enc x).und n = true) : ∀ xs : List α, D.undL n (xs.map enc) = true
  | [] => rfl
  | x :: xs => by simp [D.undL, h x, und_map h xs]
mutual
theorem eqv_self : ∀ a : D, a.flat = true → D.eqv a a = true
  | .non, _ => by simp [D.eqv]
  | .bl _, _ => by simp [D.eqv]
  | .int _, _ => by simp [D.eqv]
  | .str _, _ => by simp [D.eqv]
  | .tup as, h => by simp only [D.eqv]; exact eqvL_self as (by simpa [D.flat] using h)
  | .lst as, h => by simp only [D.eqv]; exact eqvL_self as (by simpa [D.flat] using h)
  | .ref _, h => by simp [D.flat] at h
theorem eqvL_self : ∀ as : List D, D.flatL as = true → D.eqvL as as = true
  | [], _ => by simp [D.eqvL]
  | a :: as, h => by
    simp only [D.flatL, Bool.and_eq_true] at h
    simp [D.eqvL, eqv_self a h.1, eqvL_self as h.2]
end
/-- flat, of small depth -/
structure Fl (a : D) : Prop where
  f : a.flat = true
  d : a.dep ≤ 60
theorem vw_flat {a : D} (S : Sto) (h : a.flat = true) : vw S a = a := by cases a <;> first | rfl | simp [D.flat] at h
theorem eq_self (S : Sto) {a : D} (h : Fl a) : cmpD S .Eq a a = some true := by
  rw [cmp_eq_flat _ (vw_flat S h.f) (vw_flat S h.f) h.f h.f h.d h.d, eqv_self a h.f]
theorem ne_self (S : Sto) {a : D} (h : Fl a) : cmpD S .NotEq a a = some false := by
  rw [cmp_ne_flat _ (vw_flat S h.f) (vw_flat S h.f) h.f h.f h.d h.d, eqv_self a h.f]
  rfl
/-! ### defs that let go what they made -/
mutual
theorem flat_und (n : Nat) : ∀ a : D, a.flat = true → a.und n = true
  | .non, _ => by simp [D.und]
  | .bl _, _ => by simp [D.und]
  | .int _, _ => by simp [D.und]
  | .str _, _ => by simp [D.und]
  | .tup as, h => by simp only [D.und]; exact flat_undL n as (by simpa [D.flat] using h)
  | .lst as, h => by simp only [D.und]; exact flat_undL n as (by simpa [D.flat] using h)
  | .ref _, h => by simp [D.flat] at h
theorem flat_undL (n : Nat) : ∀ as : List D, D.flatL as = true → D.undL n as = true
  | [], _ => by simp [D.undL]
  | a :: as, h => by
    simp only [D.flatL, Bool.and_eq_true] at h
    simp [D.undL, flat_und n a h.1, flat_undL n as h.2]
end
theorem thaw_flat {n : Nat} {S : Sto} {d : D} (h : d.flat = true) : thaw n S d = d := by cases d <;> first | rfl | simp [D.flat] at h
theorem zip_self_all (n : Nat) : ∀ S : Sto, (S.zip S).all (fun p => decide (p.1 = p.2) || p.1.und n) = true
  | [] => rfl
  | o :: S => by simp [zip_self_all n S]
theorem sweep_same {S G : Sto} {d : D} {k : D → Sto → R D} (hd : d.flat = true) : sweep true S d (S ++ G) k = k d S := by
  simp only [sweep, if_true, thaw_flat hd, flat_und _ d hd, Bool.true_and, List.take_left', zip_self_all]
theorem und_zeros (n : Nat) : ∀ m : Nat, D.undL n (List.replicate m (.int 0)) = true
  | 0 => rfl
  | m + 1 => by simp [List.replicate_succ, D.undL, D.und, und_zeros n m]
theorem sweep_town {m m' : Nat} {Z G : Sto} {d : D} {k : D → Sto → R D} (hd : d.flat = true) : sweep true (Tn m :: Z) d (Tn m' :: (Z ++ G)) k = k d (Tn m' :: Z) := by
  have e : (Tn m' :: (Z ++ G)).take (Tn m :: Z).length = Tn m' :: Z := by simp
  have u : (Tn m').und (Tn m :: Z).length = true := by simp only [Ob.und, und_zeros]
  simp only [sweep, if_true, thaw_flat hd, flat_und _ d hd, Bool.true_and, e, List.zip_cons_cons, List.all_cons, zip_self_all, Bool.and_true, u, Bool.or_true]
theorem sweep_list {S G : Sto} {p : Nat} {ds : List D} {k : D → Sto → R D} (hp : S.length ≤ p) (h : (S ++ G)[p]? = some (.lst ds)) (hd : D.flatL ds = true) : sweep true S (.ref p) (S ++ G) k = k (.lst ds) S := by
  have e : thaw S.length (S ++ G) (.ref p) = .lst ds := by simp only [thaw, if_pos hp, h]
  have hd' : (D.lst ds).und S.length = true := flat_und _ _ (by simpa [D.flat] using hd)
  simp only [sweep, if_true, e, hd', Bool.true_and, List.take_left', zip_self_all]
section
variable {P : Prog} {n f np ns : Nat} {body : List St} {args : List D}
theorem run_gcs (h : P.defs[f]? = some ⟨np, ns, body, true⟩) (hl : args.length = np) {S G : Sto} {r : D} (hr : r.flat = true)
    (hx : endR (execs P (run P n) body (args.map some ++ List.replicate (ns - np) none) S) = .ok r (S ++ G)) : run P (n + 1) f args S = .ok r S := by
  rw [run_df h]
  simp only [runDef, hl, if_true]
  cases ho : execs P (run P n) body (args.map some ++ List.replicate (ns - np) none) S <;> simp only [ho, endR, R.ok.injEq, reduceCtorEq] at hx
  · obtain ⟨rfl, rfl⟩ := hx
    exact sweep_same hr
  · obtain ⟨rfl, rfl⟩ := hx
    exact sweep_same hr
theorem run_gcx (h : P.defs[f]? = some ⟨np, ns, body, true⟩) (hl : args.length = np) {S G : Sto} {c : Nat}
    (hx : endR (execs P (run P n) body (args.map some ++ List.replicate (ns - np) none) S) = .exc c (S ++ G)) : run P (n + 1) f args S = .exc c S := by
  rw [run_df h]
  simp only [runDef, hl, if_true]
  cases ho : execs P (run P n) body (args.map some ++ List.replicate (ns - np) none) S <;> simp only [ho, endR, R.exc.injEq, reduceCtorEq] at hx
  obtain ⟨rfl, rfl⟩ := hx
  exact sweep_same rfl
theorem run_gct (h : P.defs[f]? = some ⟨np, ns, body, true⟩) (hl : args.length = np) {m m' : Nat} {Z G : Sto} {r : D} (hr : r.flat = true)
    (hx : endR (execs P (run P n) body (args.map some ++ List.replicate (ns - np) none) (Tn m :: Z)) = .ok r (Tn m' :: (Z ++ G))) : run P (n + 1) f args (Tn m :: Z) = .ok r (Tn m' :: Z) := by
  rw [run_df h]
  simp only [runDef, hl, if_true]
  cases ho : execs P (run P n) body (args.map some ++ List.replicate (ns - np) none) (Tn m :: Z) <;> simp only [ho, endR, R.ok.injEq, reduceCtorEq] at hx
  · obtain ⟨rfl, rfl⟩ := hx
    exact sweep_town hr
  · obtain ⟨rfl, rfl⟩ := hx
    exact sweep_town hr
theorem run_gcl (h : P.defs[f]? = some ⟨np, ns, body, true⟩) (hl : args.length = np) {S G : Sto} {p : Nat} {ds : List D} (hd : D.flatL ds = true) (hp : S.length ≤ p) (hg : (S ++ G)[p]? = some (.lst ds))
    (hx : endR (execs P (run P n) body (args.map some ++ List.replicate (ns - np) none) S) = .ok (.ref p) (S ++ G)) : run P (n + 1) f args S = .ok (.lst ds) S := by
  rw [run_df h]
  simp only [runDef, hl, if_true]
  cases ho : execs P (run P n) body (args.map some ++ List.replicate (ns - np) none) S <;> simp only [ho, endR, R.ok.injEq, reduceCtorEq] at hx
  · exact hx.1.elim
  · obtain ⟨rfl, rfl⟩ := hx
    exact sweep_list hp hg hd
end
/-- the turns of a while -/
theorem while_inv {test : Env → Sto → R Bool} {body : Env → Sto → O} (I : Nat → Env → Sto → Prop)
    (stop : ∀ env S, I 0 env S → test env S = .ok false S) (step : ∀ i env S, I (i + 1) env S → test env S = .ok true S ∧ ∃ env' S', body env S = .next env' S' ∧ I i env' S') :
    ∀ (i : Nat) (fuel : Nat) (env : Env) (S : Sto), i < fuel → I i env S → ∃ env' S', whileL test body fuel env S = .next env' S' ∧ I 0 env' S'
  | 0, fuel + 1, env, S, _, h => ⟨env, S, by simp [whileL, stop env S h], h⟩
  | i + 1, fuel + 1, env, S, hf, h => by
    obtain ⟨h1, env1, S1, h2, h3⟩ := step i env S h
    obtain ⟨env2, S2, h4, h5⟩ := while_inv I stop step i fuel env1 S1 (by omega) h3
    exact ⟨env2, S2, by simp [whileL, h1, h2, h4], h5⟩
end HW
/-! Encoded pages; sorts of tuples of numbers and signs. -/
namespace HW
abbrev Rn.d (r : Rn) : D := .tup [.int r.col, .str r.txt, .str r.fnt, .int r.tms]
abbrev Sg.d (s : Sg) : D := .tup [.int s.col, .str [s.ch], .str s.fnt, .int s.tms]
abbrev Ps.d (p : Ps) : D := .tup [.str p.fnt, .int p.trn, .int p.lo, .int p.hi]
abbrev Tr.d (t : Tr) : D := .tup [.int (t.row : Int), .str t.fnt, .int t.trn]
abbrev Sp.d (s : Sp) : D := .tup [.int (s.row : Int), .str s.fnt, .int s.trn, .bl s.lft]
abbrev rowD (r : Row) : D := .tup (r.map Rn.d)
abbrev pgD (p : Pg) : D := .tup (p.map rowD)
abbrev wayD (w : List Sp) : D := .tup (w.map Sp.d)
theorem fl_tup {α : Type} {enc : α → D} {k : Nat} (h : ∀ x, (enc x).flat = true) (hd : ∀ x, (enc x).dep ≤ k) (hk : k ≤ 59) (xs : List α) : Fl (.tup (xs.map enc)) :=
  ⟨by simpa [D.flat] using flat_map h xs, by have := dep_map hd xs; simp only [D.dep]; omega⟩
theorem fl_lst {α : Type} {enc : α → D} {k : Nat} (h : ∀ x, (enc x).flat = true) (hd : ∀ x, (enc x).dep ≤ k) (hk : k ≤ 59) (xs : List α) : Fl (.lst (xs.map enc)) :=
  ⟨by simpa [D.flat] using flat_map h xs, by have := dep_map hd xs; simp only [D.dep]; omega⟩
@[simp] theorem Rn.fl (r : Rn) : r.d.flat = true ∧ r.d.dep ≤ 1 := by simp [D.flat, D.flatL, D.dep, D.depL]
@[simp] theorem Sg.fl (r : Sg) : r.d.flat = true ∧ r.d.dep ≤ 1 := by simp [D.flat, D.flatL, D.dep, D.depL]
@[simp] theorem Ps.fl (r : Ps) : r.d.flat = true ∧ r.d.dep ≤ 1 := by simp [D.flat, D.flatL, D.dep, D.depL]
@[simp] theorem Tr.fl (r : Tr) : r.d.flat = true ∧ r.d.dep ≤ 1 := by simp [D.flat, D.flatL, D.dep, D.depL]
@[simp] theorem Sp.fl (r : Sp) : r.d.flat = true ∧ r.d.dep ≤ 1 := by simp [D.flat, D.flatL, D.dep, D.depL]
theorem rowD_fl (r : Row) : (rowD r).flat = true ∧ (rowD r).dep ≤ 2 := ⟨by simpa [D.flat] using flat_map (fun x => (Rn.fl x).1) r, by have := dep_map (fun x => (Rn.fl x).2) r; simp only [D.dep]; omega⟩
theorem pgD_fl (p : Pg) : Fl (pgD p) := fl_tup (fun x => (rowD_fl x).1) (fun x => (rowD_fl x).2) (by decide) p
theorem wayD_fl (p : List Sp) : Fl (wayD p) := fl_tup (fun x => (Sp.fl x).1) (fun x => (Sp.fl x).2) (by decide) p
/-! ### tuples of numbers and signs -/
inductive At where
  | i (n : Int)
  | c (n : Nat)
  | b (n : Bool)
def At.d : At → D
  | .i n => .int n
  | .c n => .str [n]
  | .b n => .bl n
def At.v : At → Int
  | .i n => n
  | .c n => (n : Int)
  | .b n => if n then 1 else 0
def At.k : At → Nat
  | .i _ => 0
  | .c _ => 1
  | .b _ => 2
theorem ltL_at : ∀ as bs : List At, as.map At.k = bs.map At.k → D.ltL (as.map At.d) (bs.map At.d) = !leI (bs.map At.v) (as.map At.v)
  | [], [], _ => by simp [D.ltL, leI]
  | [], _ :: _, h => by simp at h
  | _ :: _, [], h => by simp at h
  | a :: as, b :: bs, h => by
    simp only [List.map_cons, List.cons.injEq] at h
    have ih := ltL_at as bs h.2
    have h1 := h.1
    simp only [List.map_cons, D.ltL, leI, ih]
    cases a with
    | i n =>
      cases b with
      | i m =>
        by_cases h1 : n = m
        · subst h1; simp [At.d, At.v, D.eqv]
        · by_cases h2 : n < m
          · have : ¬ m < n := by omega
            simp [At.d, At.v, D.eqv, D.lt, h1, h2, this]
          · have : m < n := by omega
            simp [At.d, At.v, D.eqv, D.lt, h1, h2, this]
      | _ => simp [At.k] at h1
    | c n =>
      cases b with
      | c m =>
        by_cases h1 : n = m
        · subst h1; simp [At.d, At.v, D.eqv]
        · by_cases h2 : n < m
          · have : ¬ m < n := by omega
            simp [At.d, At.v, D.eqv, D.lt, ltS, h1, h2, this]
          · have : m < n := by omega
            simp [At.d, At.v, D.eqv, D.lt, ltS, h1, h2, this]
      | _ => simp [At.k] at h1
    | b n =>
      cases b with
      | b m => cases n <;> cases m <;> simp [At.d, At.v, D.eqv, D.lt]
      | _ => simp [At.k] at h1
theorem alike_at : ∀ as bs : List At, as.map At.k = bs.map At.k → D.alikeL (as.map At.d) (bs.map At.d) = true
  | [], _, _ => by simp [D.alikeL]
  | _ :: _, [], h => by simp at h
  | a :: as, b :: bs, h => by
    simp only [List.map_cons, List.cons.injEq] at h
    have ih := alike_at as bs h.2
    have h1 := h.1
    simp only [List.map_cons, D.alikeL, ih, Bool.and_true]
    cases a <;> cases b <;> simp [At.k] at h1 <;> simp [At.d, D.alike]
theorem At.fl (a : At) : a.d.flat = true ∧ a.d.dep ≤ 0 := by cases a <;> simp [At.d, D.flat, D.dep]
section
variable {α : Type} {enc : α → D} (at' : α → List At) (ks : List Nat) {xs ys : List α}
theorem sortable_at (h : ∀ x ∈ xs, enc x = .tup ((at' x).map At.d) ∧ (at' x).map At.k = ks) (hk : ks ≠ []) (hl : xs.length ≤ SZ) : sortable (xs.map enc) = true := by
  simp only [sortable, Bool.and_eq_true, List.all_eq_true, List.mem_map, forall_exists_index, and_imp, forall_apply_eq_imp_iff₂, Bool.or_eq_true, decide_eq_true_eq]
  refine ⟨⟨⟨⟨fun a ha b hb => ?_, .inl fun a ha => ?_⟩, ?_⟩, ?_⟩, by simpa using hl⟩
  · rw [(h a ha).1, (h b hb).1]
    simp only [D.alike]
    exact alike_at _ _ (by rw [(h a ha).2, (h b hb).2])
  · rw [(h a ha).1]
    have := (h a ha).2
    cases hat : at' a with
    | nil => rw [hat] at this; exact absurd this.symm hk
    | cons x r => simp [tupOk]
  · clear hl
    induction xs with
    | nil => rfl
    | cons x xs ih =>
      simp only [List.map_cons, D.flatL, Bool.and_eq_true]
      refine ⟨?_, ih fun y hy => h y (by simp [hy])⟩
      rw [(h x (by simp)).1]
      simp only [D.flat]
      exact flat_map (fun a => a.fl.1) _
  · clear hl
    induction xs with
    | nil => simp [D.depL]
    | cons x xs ih =>
      have i := ih fun y hy => h y (by simp [hy])
      simp only [List.map_cons, D.depL]
      have : (enc x).dep ≤ 1 := by
        rw [(h x (by simp)).1]
        simp only [D.dep]
        have := dep_map (fun a => (At.fl a).2) (at' x)
        omega
      omega
/-- sorted, by codes -/
theorem sortD_at (h : ∀ x ∈ xs, enc x = .tup ((at' x).map At.d) ∧ (at' x).map At.k = ks) (inj : ∀ a ∈ xs, ∀ b ∈ xs, (at' a).map At.v = (at' b).map At.v → a = b)
    (hp : xs.Perm ys) (hs : ys.Pairwise fun a b => leI ((at' a).map At.v) ((at' b).map At.v) = true) : sortD (xs.map enc) = ys.map enc := by
  unfold sortD
  have hle : ∀ a ∈ xs, ∀ b ∈ xs, leI ((at' a).map At.v) ((at' b).map At.v) = leD (enc a) (enc b) := by
    intro a ha b hb
    simp only [leD]
    rw [(h a ha).1, (h b hb).1]
    simp only [D.lt]
    rw [ltL_at _ _ (by rw [(h a ha).2, (h b hb).2])]
    simp
  rw [← List.map_mergeSort hle, sort_code _ (fun a => (at' a).map At.v) (fun _ _ _ _ => rfl) inj hp (by rw [List.pairwise_map]; exact hs)]
end
theorem sortable_int {α : Type} (f : α → Int) {xs : List α} (hl : xs.length ≤ SZ) : sortable (xs.map fun x => .int (f x)) = true := by
  simp only [sortable, Bool.and_eq_true, List.all_eq_true, List.mem_map, forall_exists_index, and_imp, forall_apply_eq_imp_iff₂, Bool.or_eq_true, decide_eq_true_eq]
  refine ⟨⟨⟨⟨fun a ha b hb => rfl, .inr fun a ha => rfl⟩, flat_map (fun _ => rfl) _⟩, ?_⟩, by simpa using hl⟩
  have := dep_map (enc := fun x : α => D.int (f x)) (k := 0) (fun _ => Nat.le_refl _) xs
  omega
theorem sortD_int {xs ys : List Int} (hp : xs.Perm ys) (hs : ys.Pairwise (· ≤ ·)) : sortD (xs.map D.int) = ys.map D.int := by
  unfold sortD
  have hle : ∀ a ∈ xs, ∀ b ∈ xs, leI [a] [b] = leD (.int a) (.int b) := by
    intro a _ b _
    simp only [leD, D.lt, leI]
    by_cases h1 : a < b
    · have : ¬ b < a := by omega
      simp [h1, this]
    · by_cases h2 : b < a <;> simp [h1, h2]
  rw [← List.map_mergeSort hle, sort_code _ (fun a => [a]) (fun _ _ _ _ => rfl) (fun a _ b _ h => by simpa using h) hp (by
    rw [List.pairwise_map]
    refine hs.imp fun {a b} h => ?_
    simp only [leI]
    by_cases h1 : a < b
    · simp [h1]
    · simp [h1, show ¬ b < a by omega])]
end HW
/-! When each pass of a way is done. -/
namespace HW
/-- where the head is: place, row, font -/
structure Stt where
  pl : Int
  rw : Int
  ft : List Nat
abbrev st0 : Stt := ⟨0, 0, [97]⟩
abbrev stAf (pg : Pg) (s : Sp) : Stt := ⟨(endsAt pg s).2, s.row, s.fnt⟩
def stepC (b fd c : Int) (pg : Pg) (t : Stt) (s : Sp) : Int :=
  mx (ab ((endsAt pg s).1 - t.pl)) (fd * ((s.row : Int) - t.rw)) + (if s.fnt = t.ft then 0 else c) + b * ab ((endsAt pg s).2 - (endsAt pg s).1)
def costs (b fd c : Int) (pg : Pg) : Stt → List Sp → List Int
  | _, [] => []
  | t, s :: r => stepC b fd c pg t s :: costs b fd c pg (stAf pg s) r
def sttEnd (pg : Pg) : Stt → List Sp → Stt
  | t, [] => t
  | _, s :: r => sttEnd pg (stAf pg s) r
def sums : Int → List Int → List Int
  | _, [] => []
  | a, x :: r => (a + x) :: sums (a + x) r
section
variable {b fd c : Int} {pg : Pg}
theorem costs_len : ∀ (w : List Sp) (t : Stt), (costs b fd c pg t w).length = w.length
  | [], t => rfl
  | s :: w, t => by simp [costs, costs_len w]
theorem costs_app : ∀ (u w : List Sp) (t : Stt), costs b fd c pg t (u ++ w) = costs b fd c pg t u ++ costs b fd c pg (sttEnd pg t u) w
  | [], w, t => rfl
  | s :: u, w, t => by simp [costs, sttEnd, costs_app u w]
theorem sttEnd_app : ∀ (u w : List Sp) (t : Stt), sttEnd pg t (u ++ w) = sttEnd pg (sttEnd pg t u) w
  | [], w, t => rfl
  | s :: u, w, t => by simp [sttEnd, sttEnd_app u w]
end
theorem sums_len : ∀ (l : List Int) (a : Int), (sums a l).length = l.length
  | [], a => rfl
  | x :: l, a => by simp [sums, sums_len l]
theorem sums_app : ∀ (u w : List Int) (a : Int), sums a (u ++ w) = sums a u ++ sums (a + u.sum) w
  | [], w, a => by simp [sums]
  | x :: u, w, a => by simp [sums, sums_app u w, Int.add_assoc]
theorem sums_last : ∀ (l : List Int) (a : Int), (a :: sums a l).getLast (by simp) = a + l.sum
  | [], a => by simp [sums]
  | x :: l, a => by
    have := sums_last l (a + x)
    simp only [sums, List.sum_cons]
    rw [List.getLast_cons (by simp), this]
    omega
theorem sums_diff : ∀ (l : List Int) (a : Int), (((a :: (sums a l).dropLast).zip (sums a l)).map fun p => p.2 - p.1) = l
  | [], a => by simp [sums]
  | [x], a => by simp [sums]; omega
  | x :: y :: l, a => by
    have := sums_diff (y :: l) (a + x)
    simp only [sums, List.dropLast_cons₂, List.zip_cons_cons, List.map_cons] at this ⊢
    rw [this]
    simp
    omega
theorem ends_take {pg : Pg} {s : Sp} {j : Nat} (h : s.row < j) : endsAt (pg.take j) s = endsAt pg s := by
  simp [endsAt, List.getElem?_take, h]
theorem costs_take {b fd c : Int} {pg : Pg} {j : Nat} : ∀ (w : List Sp) (t : Stt), (∀ s ∈ w, s.row < j) → costs b fd c (pg.take j) t w = costs b fd c pg t w
  | [], t, _ => rfl
  | s :: w, t, h => by
    have h1 := ends_take (pg := pg) (h s (by simp))
    simp only [costs, stepC, stAf, h1]
    rw [costs_take w _ fun x hx => h x (by simp [hx])]
end HW
/-! The clean defs that laws share (printed by defs.py). -/
namespace HW
def D_Stand_do (i_ends_of : Nat) : Def := ⟨4, 6, [.asg (.tup [.name 4, .name 5]) (.call i_ends_of [.var 2, .var 3]), .fld (.var 0) 4 (.bin .Add (.fld (.var 0) 4) (.blt .max2 [.blt .abs [.bin .Sub (.var 4) (.fld (.var 0) 1)], .bin .Mult (.idx (.var 1) (.lit (.int (2)))) (.bin .Sub (.idx (.var 3) (.lit (.int (0)))) (.fld (.var 0) 2))])), .ite (.val (.cmp .NotEq (.idx (.var 3) (.lit (.int (1)))) (.fld (.var 0) 3))) [.fld (.var 0) 4 (.bin .Add (.fld (.var 0) 4) (.idx (.var 1) (.lit (.int (3)))))] [], .fld (.var 0) 4 (.bin .Add (.fld (.var 0) 4) (.bin .Mult (.idx (.var 1) (.lit (.int (1)))) (.blt .abs [.bin .Sub (.var 5) (.var 4)]))), .fld (.var 0) 1 (.var 5), .fld (.var 0) 2 (.idx (.var 3) (.lit (.int (0)))), .fld (.var 0) 3 (.idx (.var 3) (.lit (.int (1))))], false⟩
def D_Stand_init : Def := ⟨1, 1, [.fld (.var 0) 1 (.lit (.int (0))), .fld (.var 0) 2 (.lit (.int (0))), .fld (.var 0) 3 (.lit (.str [97])), .fld (.var 0) 4 (.lit (.int (0)))], false⟩
def D__law_ends (i__law_passes : Nat) : Def := ⟨2, 6, [.for (.tup [.name 2, .name 3, .name 4, .name 5]) (.seq (.call i__law_passes [.idx (.var 0) (.idx (.var 1) (.lit (.int (0))))])) [.ite (.val (.cmp .Eq (.tup [.var 2, .var 3]) (.slc (.var 1) (some (.lit (.int (1)))) (some (.lit (.int (3))))))) [.ret (.ife (.val (.idx (.var 1) (.lit (.int (3))))) (.tup [.bin .Add (.var 5) (.lit (.int (1))), .var 4]) (.tup [.var 4, .bin .Add (.var 5) (.lit (.int (1)))]))] []], .ret (.lit (.non))], false⟩
def D__law_page (i__law_draw i__law_pick : Nat) : Def := ⟨4, 16, [.asg (.name 4) (.tup []), .for (.name 5) (.rng1 (.call i__law_draw [.var 0, .var 1, .bin .Add (.var 3) (.lit (.int (1)))])) [.asg (.tup [.name 6, .name 7]) (.tup [.tup [], .lit (.int (0))]), .asg (.name 8) (.call i__law_pick [.var 0, .var 1, .lst [.lit (.str [97]), .lit (.str [98]), .lit (.str [97, 98]), .lit (.str [97, 98, 99])]]), .for (.name 9) (.rng1 (.call i__law_draw [.var 0, .var 1, .lit (.int (5))])) [.asg (.name 10) (.bin .Sub (.var 2) (.var 7)), .ite (.val (.cmp .Gt (.var 10) (.lit (.int (0))))) [.asg (.name 11) (.bin .Add (.var 7) (.call i__law_draw [.var 0, .var 1, .ife (.val (.cmp .Gt (.var 10) (.lit (.int (2))))) (.call i__law_pick [.var 0, .var 1, .lst [.lit (.int (1)), .lit (.int (3)), .var 10]]) (.lit (.int (1)))])), .asg (.name 12) (.bin .Add (.lit (.int (1))) (.call i__law_draw [.var 0, .var 1, .blt .min3 [.lit (.int (10)), .bin .Sub (.var 2) (.var 11), .bin .Add (.lit (.int (1))) (.call i__law_draw [.var 0, .var 1, .lit (.int (10))])]])), .asg (.name 13) (.mth .join (.lit (.str [])) [.comp (.call i__law_pick [.var 0, .var 1, .lit (.str [120, 121, 122, 33, 126, 48])]) (.name 14) (.rng1 (.var 12)) [] [14]]), .asg (.name 15) (.call i__law_pick [.var 0, .var 1, .var 8]), .asg (.name 6) (.bin .Add (.var 6) (.tup [.tup [.var 11, .var 13, .var 15, .bin .Add (.lit (.int (1))) (.call i__law_draw [.var 0, .var 1, .lit (.int (2))])]])), .asg (.name 7) (.bin .Add (.var 11) (.var 12))] []], .asg (.name 4) (.bin .Add (.var 4) (.tup [.var 6]))], .ret (.var 4)], false⟩
def D__law_passes (i__law_signs : Nat) : Def := ⟨1, 8, [.asg (.name 1) (.newD []), .for (.tup [.name 2, .name 3, .name 4, .name 5]) (.seq (.call i__law_signs [.var 0])) [.for (.name 6) (.rng2 (.lit (.int (1))) (.bin .Add (.var 5) (.lit (.int (1))))) [.expr (.mth .append (.mth .setdef (.var 1) [.tup [.var 4, .var 6], .newL []]) [.var 2])]], .ret (.blt .tuple [.comp (.bin .Add (.var 7) (.tup [.blt .minL [.idx (.var 1) (.var 7)], .blt .maxL [.idx (.var 1) (.var 7)]])) (.name 7) (.seq (.blt .sorted [.var 1])) [] [7]])], true⟩
def D__law_same (i__law_same : Nat) : Def := ⟨2, 4, [.ite (.val (.cmp .Is (.var 1) (.lit (.non)))) [.ret (.cmp .Is (.var 0) (.lit (.non)))] [], .ite (.val (.blt .isBool [.var 1])) [.ret (.and (.blt .isBool [.var 0]) (.cmp .Eq (.var 0) (.var 1)))] [], .ite (.val (.blt .isTuple [.var 1])) [.ite (.or (.not (.val (.blt .isTuple [.var 0]))) (.val (.cmp .NotEq (.blt .len [.var 0]) (.blt .len [.var 1])))) [.ret (.lit (.bl false))] [], .ret (.blt .all [.comp (.call i__law_same [.var 2, .var 3]) (.tup [.name 2, .name 3]) (.zip (.var 0) (.var 1)) [] [2, 3]])] [], .ite (.val (.blt .isStr [.var 1])) [.ret (.and (.blt .isStr [.var 0]) (.cmp .Eq (.var 0) (.var 1)))] [], .ret (.and (.blt .isInt [.var 0]) (.and (.not (.blt .isBool [.var 0])) (.cmp .Eq (.var 0) (.var 1))))], false⟩
def D__law_signs : Def := ⟨1, 8, [.asg (.name 1) (.tup []), .for (.tup [.name 2, .name 3, .name 4, .name 5]) (.seq (.var 0)) [.for (.tup [.name 6, .name 7]) (.enum (.var 3)) [.asg (.name 1) (.bin .Add (.var 1) (.tup [.tup [.bin .Add (.var 2) (.var 6), .var 7, .var 4, .var 5]]))]], .ret (.var 1)], false⟩
def D__law_steps (i__law_passes : Nat) : Def := ⟨1, 8, [.asg (.name 1) (.lst []), .for (.tup [.name 2, .name 3]) (.enum (.var 0)) [.asg (.name 1) (.bin .Add (.var 1) (.comp (.tup [.var 2, .var 4, .var 5]) (.tup [.name 4, .name 5, .name 6, .name 7]) (.seq (.call i__law_passes [.var 3])) [] [4, 5, 6, 7]))], .ret (.var 1)], false⟩
def D__law_times (i__law_ends : Nat) : Def := ⟨3, 11, [.asg (.tup [.name 3, .name 4, .name 5, .name 6, .name 7]) (.tup [.lit (.int (0)), .lit (.int (0)), .lit (.str [97]), .lit (.int (0)), .tup []]), .for (.name 8) (.seq (.var 2)) [.asg (.tup [.name 9, .name 10]) (.call i__law_ends [.var 1, .var 8]), .asg (.name 6) (.bin .Add (.var 6) (.blt .max2 [.blt .abs [.bin .Sub (.var 9) (.var 3)], .bin .Mult (.idx (.var 0) (.lit (.int (2)))) (.bin .Sub (.idx (.var 8) (.lit (.int (0)))) (.var 4))])), .asg (.name 6) (.bin .Add (.var 6) (.bin .Mult (.idx (.var 0) (.lit (.int (3)))) (.blt .int [.cmp .NotEq (.idx (.var 8) (.lit (.int (1)))) (.var 5)]))), .asg (.name 6) (.bin .Add (.var 6) (.bin .Mult (.idx (.var 0) (.lit (.int (1)))) (.blt .abs [.bin .Sub (.var 10) (.var 9)]))), .asg (.tup [.name 3, .name 4, .name 5, .name 7]) (.tup [.var 10, .idx (.var 8) (.lit (.int (0))), .idx (.var 8) (.lit (.int (1))), .bin .Add (.var 7) (.tup [.var 6])])], .ret (.var 7)], false⟩
def D__law_way (i__law_steps i__law_draw : Nat) : Def := ⟨3, 7, [.asg (.name 3) (.tup []), .for (.name 4) (.rng1 (.blt .len [.var 2])) [.asg (.name 5) (.newC (.var 6) (.name 6) (.seq (.call i__law_steps [.var 2])) [.val (.cmp .Eq (.idx (.var 6) (.lit (.int (0)))) (.var 4))] [6]), .while (.val (.var 5)) [.asg (.name 6) (.mth .popAt (.var 5) [.call i__law_draw [.var 0, .var 1, .blt .len [.var 5]]]), .asg (.name 3) (.bin .Add (.var 3) (.tup [.bin .Add (.var 6) (.tup [.cmp .Eq (.call i__law_draw [.var 0, .var 1, .lit (.int (2))]) (.lit (.int (0)))])]))]], .ret (.var 3)], true⟩
def D_all_passes (i_passes_of : Nat) : Def := ⟨1, 2, [.ret (.blt .tuple [.comp (.blt .len [.call i_passes_of [.var 0, .var 1]]) (.name 1) (.rng1 (.blt .len [.var 0])) [] [1]])], false⟩
def D_bold (i_row_of : Nat) : Def := ⟨2, 5, [.asg (.name 2) (.call i_row_of [.var 0, .var 1]), .asg (.name 3) (.blt .tuple [.comp (.bin .Add (.slc (.var 4) none (some (.lit (.int (3))))) (.tup [.lit (.int (2))])) (.name 4) (.seq (.var 2)) [] [4]]), .ret (.bin .Add (.bin .Add (.slc (.var 0) none (some (.var 1))) (.tup [.var 3])) (.slc (.var 0) (some (.bin .Add (.var 1) (.lit (.int (1))))) none))], false⟩
def D_deeds_of (i_need_way i_ends_of i_signs_struck : Nat) : Def := ⟨2, 9, [.expr (.call i_need_way [.var 0, .var 1]), .asg (.name 2) (.newL []), .asg (.tup [.name 3, .name 4, .name 5]) (.tup [.lit (.int (0)), .lit (.int (0)), .lit (.str [97])]), .for (.name 6) (.seq (.var 1)) [.asg (.tup [.name 7, .name 8]) (.call i_ends_of [.var 0, .var 6]), .ite (.val (.cmp .NotEq (.idx (.var 6) (.lit (.int (0)))) (.var 4))) [.expr (.mth .append (.var 2) [.tup [.lit (.str [102, 101, 101, 100]), .bin .Sub (.idx (.var 6) (.lit (.int (0)))) (.var 4)]])] [], .ite (.val (.cmp .NotEq (.var 7) (.var 3))) [.expr (.mth .append (.var 2) [.tup [.lit (.str [103, 111]), .var 7]])] [], .ite (.val (.cmp .NotEq (.idx (.var 6) (.lit (.int (1)))) (.var 5))) [.expr (.mth .append (.var 2) [.tup [.lit (.str [102, 111, 110, 116]), .idx (.var 6) (.lit (.int (1)))]])] [], .expr (.mth .append (.var 2) [.tup [.lit (.str [112, 114, 105, 110, 116]), .var 8, .call i_signs_struck [.var 0, .var 6]]]), .asg (.tup [.name 3, .name 4, .name 5]) (.tup [.var 8, .idx (.var 6) (.lit (.int (0))), .idx (.var 6) (.lit (.int (1)))])], .ret (.blt .tuple [.var 2])], true⟩
def D_done (i_need_way i_deeds_of : Nat) : Def := ⟨4, 7, [.expr (.call i_need_way [.var 1, .var 2]), .asg (.name 4) (.mk 0 [.var 0]), .asg (.name 5) (.var 3), .for (.name 6) (.seq (.call i_deeds_of [.var 1, .var 2])) [.ite (.val (.cmp .Gt (.var 5) (.lit (.int (0))))) [.expr (.inv (.var 4) 0 [.var 6]), .asg (.name 5) (.bin .Sub (.var 5) (.blt .int [.cmp .Eq (.idx (.var 6) (.lit (.int (0)))) (.lit (.str [112, 114, 105, 110, 116]))]))] []], .ret (.var 4)], false⟩
def D_ends_of (i_passes_of : Nat) : Def := ⟨2, 10, [.asg (.tup [.name 2, .name 3, .name 4, .name 5]) (.var 1), .for (.tup [.name 6, .name 7, .name 8, .name 9]) (.seq (.call i_passes_of [.var 0, .var 2])) [.ite (.val (.cmp .Eq (.tup [.var 6, .var 7]) (.tup [.var 3, .var 4]))) [.ite (.val (.var 5)) [.ret (.tup [.bin .Add (.var 9) (.lit (.int (1))), .var 8])] [], .ret (.tup [.var 8, .bin .Add (.var 9) (.lit (.int (1)))])] []], .raise 1], false⟩
def D_in_font : Def := ⟨2, 5, [.asg (.name 2) (.tup []), .for (.name 3) (.seq (.var 0)) [.asg (.name 2) (.bin .Add (.var 2) (.tup [.blt .tuple [.comp (.bin .Add (.bin .Add (.slc (.var 4) none (some (.lit (.int (2))))) (.tup [.var 1])) (.slc (.var 4) (some (.lit (.int (3)))) none)) (.name 4) (.seq (.var 3)) [] [4]]]))], .ret (.var 2)], false⟩
def D_in_order (i_passes_of : Nat) : Def := ⟨1, 7, [.asg (.name 1) (.newL []), .for (.name 2) (.rng1 (.blt .len [.var 0])) [.expr (.mth .extend (.var 1) [.comp (.tup [.var 2, .var 3, .var 4]) (.tup [.name 3, .name 4, .name 5, .name 6]) (.seq (.call i_passes_of [.var 0, .var 2])) [] [3, 4, 5, 6]])], .ret (.var 1)], true⟩
def D_is_machine (i_is_whole : Nat) : Def := ⟨1, 1, [.ite (.or (.not (.val (.blt .isTuple [.var 0]))) (.or (.val (.cmp .NotEq (.blt .len [.var 0]) (.lit (.int (4))))) (.not (.val (.call i_is_whole [.idx (.var 0) (.lit (.int (0))), .lit (.int (4)), .lit (.int (40))]))))) [.ret (.lit (.bl false))] [], .ite (.or (.not (.val (.call i_is_whole [.idx (.var 0) (.lit (.int (1))), .lit (.int (1)), .lit (.int (4))]))) (.not (.val (.call i_is_whole [.idx (.var 0) (.lit (.int (2))), .lit (.int (0)), .lit (.int (9))])))) [.ret (.lit (.bl false))] [], .ret (.call i_is_whole [.idx (.var 0) (.lit (.int (3))), .lit (.int (0)), .lit (.int (20))])], false⟩
def D_is_page (i_is_row : Nat) : Def := ⟨2, 3, [.ite (.or (.not (.val (.blt .isTuple [.var 1]))) (.val (.cmp .Gt (.blt .len [.var 1]) (.lit (.int (6)))))) [.ret (.lit (.bl false))] [], .ret (.blt .all [.comp (.call i_is_row [.idx (.var 0) (.lit (.int (0))), .var 2]) (.name 2) (.seq (.var 1)) [] [2]])], false⟩
def D_is_row (i_is_run : Nat) : Def := ⟨2, 5, [.ite (.or (.not (.val (.blt .isTuple [.var 1]))) (.or (.val (.cmp .Gt (.blt .len [.var 1]) (.lit (.int (4))))) (.not (.val (.blt .all [.comp (.call i_is_run [.var 2]) (.name 2) (.seq (.var 1)) [] [2]]))))) [.ret (.lit (.bl false))] [], .asg (.name 3) (.lit (.int (0))), .for (.name 4) (.seq (.var 1)) [.ite (.val (.cmp .Lt (.idx (.var 4) (.lit (.int (0)))) (.var 3))) [.ret (.lit (.bl false))] [], .asg (.name 3) (.bin .Add (.idx (.var 4) (.lit (.int (0)))) (.blt .len [.idx (.var 4) (.lit (.int (1)))]))], .ret (.cmp .LtE (.var 3) (.var 0))], false⟩
def D_is_run (i_is_whole : Nat) : Def := ⟨1, 2, [.ite (.or (.not (.val (.blt .isTuple [.var 0]))) (.or (.val (.cmp .NotEq (.blt .len [.var 0]) (.lit (.int (4))))) (.not (.val (.call i_is_whole [.idx (.var 0) (.lit (.int (0))), .lit (.int (0)), .bin .Sub (.lit (.int (40))) (.lit (.int (1)))]))))) [.ret (.lit (.bl false))] [], .ite (.or (.not (.val (.blt .isStr [.idx (.var 0) (.lit (.int (1)))]))) (.not (.val (.chn .LtE .LtE (.lit (.int (1))) (.blt .len [.idx (.var 0) (.lit (.int (1)))]) (.lit (.int (10))))))) [.ret (.lit (.bl false))] [], .ite (.not (.val (.blt .all [.comp (.chn .LtE .LtE (.lit (.str [33])) (.var 1) (.lit (.str [126]))) (.name 1) (.seq (.idx (.var 0) (.lit (.int (1))))) [] [1]]))) [.ret (.lit (.bl false))] [], .ite (.or (.not (.val (.blt .isStr [.idx (.var 0) (.lit (.int (2)))]))) (.or (.val (.cmp .NotEq (.blt .len [.idx (.var 0) (.lit (.int (2)))]) (.lit (.int (1))))) (.val (.cmp .NotIn (.idx (.var 0) (.lit (.int (2)))) (.lit (.str [97, 98, 99])))))) [.ret (.lit (.bl false))] [], .ret (.call i_is_whole [.idx (.var 0) (.lit (.int (3))), .lit (.int (1)), .lit (.int (2))])], false⟩
def D_is_way (i_passes_of : Nat) : Def := ⟨2, 10, [.ite (.not (.val (.blt .isTuple [.var 1]))) [.ret (.lit (.bl false))] [], .for (.name 2) (.seq (.var 1)) [.ite (.or (.not (.val (.blt .isTuple [.var 2]))) (.or (.val (.cmp .NotEq (.blt .len [.var 2]) (.lit (.int (4))))) (.or (.not (.val (.blt .isInt [.idx (.var 2) (.lit (.int (0)))]))) (.val (.blt .isBool [.idx (.var 2) (.lit (.int (0)))]))))) [.ret (.lit (.bl false))] [], .ite (.or (.not (.val (.blt .isStr [.idx (.var 2) (.lit (.int (1)))]))) (.or (.not (.val (.blt .isInt [.idx (.var 2) (.lit (.int (2)))]))) (.val (.blt .isBool [.idx (.var 2) (.lit (.int (2)))])))) [.ret (.lit (.bl false))] [], .ite (.not (.val (.blt .isBool [.idx (.var 2) (.lit (.int (3)))]))) [.ret (.lit (.bl false))] []], .asg (.name 3) (.newL []), .for (.name 4) (.rng1 (.blt .len [.var 0])) [.expr (.mth .extend (.var 3) [.comp (.tup [.var 4, .var 5, .var 6]) (.tup [.name 5, .name 6, .name 7, .name 8]) (.seq (.call i_passes_of [.var 0, .var 4])) [] [5, 6, 7, 8]])], .ite (.val (.cmp .NotEq (.blt .sorted [.comp (.slc (.var 2) none (some (.lit (.int (3))))) (.name 2) (.seq (.var 1)) [] [2]]) (.var 3))) [.ret (.lit (.bl false))] [], .asg (.name 9) (.comp (.idx (.var 2) (.lit (.int (0)))) (.name 2) (.seq (.var 1)) [] [2]), .ret (.cmp .Eq (.var 9) (.blt .sorted [.var 9]))], true⟩
def D_is_whole : Def := ⟨3, 3, [.ret (.and (.blt .isInt [.var 0]) (.and (.not (.blt .isBool [.var 0])) (.chn .LtE .LtE (.var 1) (.var 0) (.var 2))))], false⟩
def D_keep_best : Def := ⟨3, 3, [.ite (.or (.val (.cmp .NotIn (.var 1) (.var 0))) (.val (.cmp .Lt (.var 2) (.idx (.var 0) (.var 1))))) [.sub (.var 0) (.var 1) (.var 2)] []], false⟩
def D_look (i_signs_of : Nat) : Def := ⟨2, 9, [.asg (.name 2) (.tup []), .for (.name 3) (.seq (.var 1)) [.asg (.name 4) (.bin .Mult (.lst [.lit (.str [32])]) (.idx (.var 0) (.lit (.int (0))))), .for (.tup [.name 5, .name 6, .name 7, .name 8]) (.seq (.call i_signs_of [.var 3])) [.sub (.var 4) (.var 5) (.var 6)], .asg (.name 2) (.bin .Add (.var 2) (.tup [.mth .join (.lit (.str [])) [.var 4]]))], .ret (.var 2)], false⟩
def D_mirrored : Def := ⟨2, 9, [.asg (.name 2) (.tup []), .for (.name 3) (.seq (.var 1)) [.asg (.name 4) (.tup []), .for (.tup [.name 5, .name 6, .name 7, .name 8]) (.seq (.var 3)) [.asg (.name 4) (.bin .Add (.tup [.tup [.bin .Sub (.bin .Sub (.idx (.var 0) (.lit (.int (0)))) (.var 5)) (.blt .len [.var 6]), .rev (.var 6), .var 7, .var 8]]) (.var 4))], .asg (.name 2) (.bin .Add (.var 2) (.tup [.var 4]))], .ret (.var 2)], false⟩
def D_moved : Def := ⟨3, 10, [.asg (.name 3) (.tup []), .for (.name 4) (.seq (.var 1)) [.asg (.name 5) (.blt .tuple [.comp (.tup [.bin .Add (.var 6) (.var 2), .var 7, .var 8, .var 9]) (.tup [.name 6, .name 7, .name 8, .name 9]) (.seq (.var 4)) [] [6, 7, 8, 9]]), .ite (.val (.blt .any [.comp (.or (.cmp .Lt (.var 6) (.lit (.int (0)))) (.cmp .Gt (.bin .Add (.var 6) (.blt .len [.var 7])) (.idx (.var 0) (.lit (.int (0)))))) (.tup [.name 6, .name 7, .name 8, .name 9]) (.seq (.var 5)) [] [6, 7, 8, 9]])) [.raise 4] [], .asg (.name 3) (.bin .Add (.var 3) (.tup [.var 5]))], .ret (.var 3)], false⟩
def D_nearer (i_in_order i_ends_of : Nat) : Def := ⟨2, 8, [.asg (.name 2) (.mk 1 []), .asg (.name 3) (.tup []), .for (.name 4) (.seq (.call i_in_order [.var 1])) [.asg (.name 5) (.blt .abs [.bin .Sub (.idx (.call i_ends_of [.var 1, .bin .Add (.var 4) (.tup [.lit (.bl false)])]) (.lit (.int (0)))) (.fld (.var 2) 1)]), .asg (.name 6) (.blt .abs [.bin .Sub (.idx (.call i_ends_of [.var 1, .bin .Add (.var 4) (.tup [.lit (.bl true)])]) (.lit (.int (0)))) (.fld (.var 2) 1)]), .asg (.name 7) (.bin .Add (.var 4) (.tup [.cmp .Lt (.var 6) (.var 5)])), .expr (.inv (.var 2) 0 [.var 0, .var 1, .var 7]), .asg (.name 3) (.bin .Add (.var 3) (.tup [.var 7]))], .ret (.var 3)], true⟩
def D_need_way (i_is_way : Nat) : Def := ⟨2, 2, [.ite (.not (.val (.call i_is_way [.var 0, .var 1]))) [.raise 1] []], false⟩
def D_one_more (i_step_cost i_ends_of i_keep_best : Nat) : Def := ⟨5, 17, [.asg (.name 5) (.newD []), .for (.tup [.name 6, .name 7, .name 8]) (.seq (.var 2)) [.asg (.tup [.name 9, .name 10]) (.idx (.var 2) (.tup [.var 6, .var 7, .var 8])), .for (.name 11) (.seq (.comp (.var 12) (.name 12) (.seq (.var 4)) [.val (.cmp .NotIn (.var 12) (.var 8))] [12])) [.for (.name 13) (.seq (.tup [.lit (.bl false), .lit (.bl true)])) [.asg (.name 14) (.bin .Add (.var 11) (.tup [.var 13])), .asg (.name 15) (.bin .Add (.var 9) (.call i_step_cost [.var 0, .var 1, .var 6, .var 3, .var 7, .var 14])), .asg (.name 16) (.tup [.idx (.call i_ends_of [.var 1, .var 14]) (.lit (.int (1))), .idx (.var 11) (.lit (.int (1))), .blt .tuple [.blt .sorted [.bin .Add (.var 8) (.tup [.var 11])]]]), .expr (.call i_keep_best [.var 5, .var 16, .tup [.var 15, .bin .Add (.var 10) (.tup [.var 14])]])]]], .ret (.var 5)], true⟩
def D_overlaid : Def := ⟨2, 11, [.asg (.name 2) (.tup []), .for (.name 3) (.rng1 (.blt .max2 [.blt .len [.var 0], .blt .len [.var 1]])) [.asg (.name 4) (.bin .Add (.idx (.bin .Add (.var 0) (.bin .Mult (.tup [.tup []]) (.blt .len [.var 1]))) (.var 3)) (.idx (.bin .Add (.var 1) (.bin .Mult (.tup [.tup []]) (.blt .len [.var 0]))) (.var 3))), .asg (.name 5) (.blt .tuple [.blt .sorted [.var 4]]), .asg (.name 6) (.lit (.int (0))), .for (.tup [.name 7, .name 8, .name 9, .name 10]) (.seq (.var 5)) [.ite (.val (.cmp .Lt (.var 7) (.var 6))) [.raise 4] [], .asg (.name 6) (.bin .Add (.var 7) (.blt .len [.var 8]))], .asg (.name 2) (.bin .Add (.var 2) (.tup [.var 5]))], .ret (.var 2)], false⟩
def D_parted : Def := ⟨2, 2, [.ite (.not (.val (.chn .LtE .LtE (.lit (.int (0))) (.var 1) (.blt .len [.var 0])))) [.raise 3] [], .ret (.tup [.slc (.var 0) none (some (.var 1)), .slc (.var 0) (some (.var 1)) none])], false⟩
def D_passes_of (i_signs_of i_row_of : Nat) : Def := ⟨2, 8, [.asg (.name 2) (.tup []), .asg (.name 3) (.call i_signs_of [.call i_row_of [.var 0, .var 1]]), .for (.name 4) (.seq (.lit (.str [97, 98, 99]))) [.for (.name 5) (.seq (.tup [.lit (.int (1)), .lit (.int (2))])) [.asg (.name 6) (.comp (.idx (.var 7) (.lit (.int (0)))) (.name 7) (.seq (.var 3)) [.and (.val (.cmp .Eq (.idx (.var 7) (.lit (.int (2)))) (.var 4))) (.val (.cmp .GtE (.idx (.var 7) (.lit (.int (3)))) (.var 5)))] [7]), .ite (.val (.var 6)) [.asg (.name 2) (.bin .Add (.var 2) (.tup [.tup [.var 4, .var 5, .blt .minL [.var 6], .blt .maxL [.var 6]]]))] []]], .ret (.var 2)], false⟩
def D_printing (i_passes_of : Nat) : Def := ⟨2, 8, [.asg (.name 2) (.lit (.int (0))), .for (.name 3) (.rng1 (.blt .len [.var 1])) [.asg (.name 2) (.bin .Add (.var 2) (.blt .sum [.comp (.bin .Sub (.bin .Add (.var 7) (.lit (.int (1)))) (.var 6)) (.tup [.name 4, .name 5, .name 6, .name 7]) (.seq (.call i_passes_of [.var 1, .var 3])) [] [4, 5, 6, 7]]))], .ret (.bin .Mult (.var 2) (.idx (.var 0) (.lit (.int (1)))))], false⟩
def D_rightward (i_in_order : Nat) : Def := ⟨1, 2, [.ret (.blt .tuple [.comp (.bin .Add (.var 1) (.tup [.lit (.bl false)])) (.name 1) (.seq (.call i_in_order [.var 0])) [] [1]])], false⟩
def D_row_of : Def := ⟨2, 2, [.ite (.not (.val (.chn .LtE .Lt (.lit (.int (0))) (.var 1) (.blt .len [.var 0])))) [.raise 3] [], .ret (.idx (.var 0) (.var 1))], false⟩
def D_sheet_of (i_signs_of : Nat) : Def := ⟨1, 5, [.asg (.name 1) (.newL []), .for (.tup [.name 2, .name 3]) (.enum (.var 0)) [.expr (.mth .extend (.var 1) [.comp (.bin .Add (.tup [.var 2]) (.var 4)) (.name 4) (.seq (.call i_signs_of [.var 3])) [] [4]])], .ret (.blt .tuple [.blt .sorted [.var 1]])], true⟩
def D_signs_of : Def := ⟨1, 8, [.asg (.name 1) (.tup []), .for (.tup [.name 2, .name 3, .name 4, .name 5]) (.seq (.var 0)) [.asg (.name 1) (.bin .Add (.var 1) (.blt .tuple [.comp (.tup [.bin .Add (.var 2) (.var 6), .var 7, .var 4, .var 5]) (.tup [.name 6, .name 7]) (.enum (.var 3)) [] [6, 7]]))], .ret (.var 1)], false⟩
def D_signs_struck (i_signs_of : Nat) : Def := ⟨2, 8, [.asg (.tup [.name 2, .name 3, .name 4, .name 5]) (.var 1), .asg (.name 6) (.comp (.tup [.idx (.var 7) (.lit (.int (0))), .idx (.var 7) (.lit (.int (1)))]) (.name 7) (.seq (.call i_signs_of [.idx (.var 0) (.var 2)])) [.and (.val (.cmp .Eq (.idx (.var 7) (.lit (.int (2)))) (.var 3))) (.val (.cmp .GtE (.idx (.var 7) (.lit (.int (3)))) (.var 4)))] [7]), .ite (.val (.var 5)) [.asg (.name 6) (.rev (.var 6))] [], .ret (.blt .tuple [.var 6])], false⟩
def D_step_cost (i_ends_of : Nat) : Def := ⟨6, 9, [.asg (.tup [.name 6, .name 7]) (.call i_ends_of [.var 1, .var 5]), .asg (.name 8) (.bin .Add (.blt .max2 [.blt .abs [.bin .Sub (.var 6) (.var 2)], .bin .Mult (.idx (.var 0) (.lit (.int (2)))) (.bin .Sub (.idx (.var 5) (.lit (.int (0)))) (.var 3))]) (.bin .Mult (.idx (.var 0) (.lit (.int (1)))) (.blt .abs [.bin .Sub (.var 7) (.var 6)]))), .ret (.bin .Add (.var 8) (.bin .Mult (.idx (.var 0) (.lit (.int (3)))) (.blt .int [.cmp .NotEq (.var 4) (.idx (.var 5) (.lit (.int (1))))])))], false⟩
def D_strokes (i_signs_of : Nat) : Def := ⟨1, 7, [.asg (.name 1) (.lit (.int (0))), .for (.name 2) (.seq (.var 0)) [.asg (.name 1) (.bin .Add (.var 1) (.blt .sum [.comp (.var 6) (.tup [.name 3, .name 4, .name 5, .name 6]) (.seq (.call i_signs_of [.var 2])) [] [3, 4, 5, 6]]))], .ret (.var 1)], false⟩
def D_time_of (i_times_of : Nat) : Def := ⟨3, 3, [.ret (.idx (.bin .Add (.tup [.lit (.int (0))]) (.call i_times_of [.var 0, .var 1, .var 2])) (.neg (.lit (.int (1)))))], false⟩
def D_times_of (i_need_way : Nat) : Def := ⟨3, 6, [.expr (.call i_need_way [.var 1, .var 2]), .asg (.name 3) (.mk 1 []), .asg (.name 4) (.tup []), .for (.name 5) (.seq (.var 2)) [.expr (.inv (.var 3) 0 [.var 0, .var 1, .var 5]), .asg (.name 4) (.bin .Add (.var 4) (.tup [.fld (.var 3) 4]))], .ret (.var 4)], true⟩
def D_to_and_fro (i_in_order : Nat) : Def := ⟨1, 3, [.ret (.blt .tuple [.comp (.bin .Add (.var 2) (.tup [.cmp .Eq (.bin .Mod (.var 1) (.lit (.int (2)))) (.lit (.int (1)))])) (.tup [.name 1, .name 2]) (.enum (.call i_in_order [.var 0])) [] [1, 2]])], false⟩
def D_turned_way : Def := ⟨2, 3, [.ret (.blt .tuple [.comp (.bin .Add (.slc (.var 2) none (some (.lit (.int (3))))) (.tup [.not (.idx (.var 2) (.lit (.int (3))))])) (.name 2) (.seq (.var 1)) [] [2]])], false⟩
end HW
/-! The clean defs that laws share, with what is forgotten (printed by defs2.py). -/
namespace HW
def W_all_passes (i_passes_of : Nat) : Def := ⟨1, 2, [.ret (.blt .tuple [.comp (.blt .len [.call i_passes_of [.var 0, .var 1]]) (.name 1) (.rng1 (.blt .len [.var 0])) [] [1]])], false⟩
def W_bold (i_row_of : Nat) : Def := ⟨2, 5, [.asg (.name 2) (.call i_row_of [.var 0, .var 1]), .asg (.name 3) (.blt .tuple [.comp (.bin .Add (.slc (.var 4) none (some (.lit (.int 3)))) (.tup [.lit (.int 2)])) (.name 4) (.seq (.var 2)) [] [4]]), .ret (.bin .Add (.bin .Add (.slc (.var 0) none (some (.var 1))) (.tup [.var 3])) (.slc (.var 0) (some (.bin .Add (.var 1) (.lit (.int 1)))) none))], false⟩
def W_deeds_of_b1 (i_need_way i_ends_of i_signs_struck : Nat) : List St := [.asg (.tup [.name 7, .name 8]) (.call i_ends_of [.var 0, .var 6]), .ite (.val (.cmp .NotEq (.idx (.var 6) (.lit (.int 0))) (.var 4))) [.expr (.mth .append (.var 2) [.tup [.lit (.str [102, 101, 101, 100]), .bin .Sub (.idx (.var 6) (.lit (.int 0))) (.var 4)]])] [], .ite (.val (.cmp .NotEq (.var 7) (.var 3))) [.expr (.mth .append (.var 2) [.tup [.lit (.str [103, 111]), .var 7]])] [], .ite (.val (.cmp .NotEq (.idx (.var 6) (.lit (.int 1))) (.var 5))) [.expr (.mth .append (.var 2) [.tup [.lit (.str [102, 111, 110, 116]), .idx (.var 6) (.lit (.int 1))]])] [], .expr (.mth .append (.var 2) [.tup [.lit (.str [112, 114, 105, 110, 116]), .var 8, .call i_signs_struck [.var 0, .var 6]]]), .asg (.tup [.name 3, .name 4, .name 5]) (.tup [.var 8, .idx (.var 6) (.lit (.int 0)), .idx (.var 6) (.lit (.int 1))]), .wipe [6, 7, 8]]
def W_deeds_of (i_need_way i_ends_of i_signs_struck : Nat) : Def := ⟨2, 9, [.expr (.call i_need_way [.var 0, .var 1]), .asg (.name 2) (.newL []), .asg (.tup [.name 3, .name 4, .name 5]) (.tup [.lit (.int 0), .lit (.int 0), .lit (.str [97])]), .for (.name 6) (.seq (.var 1)) (W_deeds_of_b1 i_need_way i_ends_of i_signs_struck), .wipe [3, 4, 5], .ret (.blt .tuple [.var 2])], true⟩
def W_signs_struck (i_signs_of : Nat) : Def := ⟨2, 8, [.asg (.tup [.name 2, .name 3, .name 4, .name 5]) (.var 1), .asg (.name 6) (.comp (.tup [.idx (.var 7) (.lit (.int 0)), .idx (.var 7) (.lit (.int 1))]) (.name 7) (.seq (.call i_signs_of [.idx (.var 0) (.var 2)])) [.and (.val (.cmp .Eq (.idx (.var 7) (.lit (.int 2))) (.var 3))) (.val (.cmp .GtE (.idx (.var 7) (.lit (.int 3))) (.var 4)))] [7]), .ite (.val (.var 5)) [.asg (.name 6) (.rev (.var 6))] [], .ret (.blt .tuple [.var 6])], false⟩
def W_done_b1 (i_need_way i_deeds_of : Nat) : List St := [.ite (.val (.cmp .Gt (.var 5) (.lit (.int 0)))) [.expr (.inv (.var 4) 0 [.var 6]), .asg (.name 5) (.bin .Sub (.var 5) (.blt .int [.cmp .Eq (.idx (.var 6) (.lit (.int 0))) (.lit (.str [112, 114, 105, 110, 116]))]))] [], .wipe [6]]
def W_done (i_need_way i_deeds_of : Nat) : Def := ⟨4, 7, [.expr (.call i_need_way [.var 1, .var 2]), .asg (.name 4) (.mk 0 [.var 0]), .asg (.name 5) (.var 3), .for (.name 6) (.seq (.call i_deeds_of [.var 1, .var 2])) (W_done_b1 i_need_way i_deeds_of), .wipe [5], .ret (.var 4)], false⟩
def W_in_font_b1 : List St := [.asg (.name 2) (.bin .Add (.var 2) (.tup [.blt .tuple [.comp (.bin .Add (.bin .Add (.slc (.var 4) none (some (.lit (.int 2)))) (.tup [.var 1])) (.slc (.var 4) (some (.lit (.int 3))) none)) (.name 4) (.seq (.var 3)) [] [4]]])), .wipe [3]]
def W_in_font : Def := ⟨2, 5, [.asg (.name 2) (.tup []), .for (.name 3) (.seq (.var 0)) W_in_font_b1, .ret (.var 2)], false⟩
def W_is_machine (i_is_whole : Nat) : Def := ⟨1, 1, [.ite (.or (.not (.val (.blt .isTuple [.var 0]))) (.or (.val (.cmp .NotEq (.blt .len [.var 0]) (.lit (.int 4)))) (.not (.val (.call i_is_whole [.idx (.var 0) (.lit (.int 0)), .lit (.int 4), .lit (.int 40)]))))) [.ret (.lit (.bl false))] [], .ite (.or (.not (.val (.call i_is_whole [.idx (.var 0) (.lit (.int 1)), .lit (.int 1), .lit (.int 4)]))) (.not (.val (.call i_is_whole [.idx (.var 0) (.lit (.int 2)), .lit (.int 0), .lit (.int 9)])))) [.ret (.lit (.bl false))] [], .ret (.call i_is_whole [.idx (.var 0) (.lit (.int 3)), .lit (.int 0), .lit (.int 20)])], false⟩
def W_is_page (i_is_row : Nat) : Def := ⟨2, 3, [.ite (.or (.not (.val (.blt .isTuple [.var 1]))) (.val (.cmp .Gt (.blt .len [.var 1]) (.lit (.int 6))))) [.ret (.lit (.bl false))] [], .ret (.blt .all [.comp (.call i_is_row [.idx (.var 0) (.lit (.int 0)), .var 2]) (.name 2) (.seq (.var 1)) [] [2]])], false⟩
def W_is_row_b1 (i_is_run : Nat) : List St := [.ite (.val (.cmp .Lt (.idx (.var 4) (.lit (.int 0))) (.var 3))) [.ret (.lit (.bl false))] [], .asg (.name 3) (.bin .Add (.idx (.var 4) (.lit (.int 0))) (.blt .len [.idx (.var 4) (.lit (.int 1))])), .wipe [4]]
def W_is_row (i_is_run : Nat) : Def := ⟨2, 5, [.ite (.or (.not (.val (.blt .isTuple [.var 1]))) (.or (.val (.cmp .Gt (.blt .len [.var 1]) (.lit (.int 4)))) (.not (.val (.blt .all [.comp (.call i_is_run [.var 2]) (.name 2) (.seq (.var 1)) [] [2]]))))) [.ret (.lit (.bl false))] [], .asg (.name 3) (.lit (.int 0)), .for (.name 4) (.seq (.var 1)) (W_is_row_b1 i_is_run), .ret (.cmp .LtE (.var 3) (.var 0))], false⟩
def W_is_run (i_is_whole : Nat) : Def := ⟨1, 2, [.ite (.or (.not (.val (.blt .isTuple [.var 0]))) (.or (.val (.cmp .NotEq (.blt .len [.var 0]) (.lit (.int 4)))) (.not (.val (.call i_is_whole [.idx (.var 0) (.lit (.int 0)), .lit (.int 0), .bin .Sub (.lit (.int 40)) (.lit (.int 1))]))))) [.ret (.lit (.bl false))] [], .ite (.or (.not (.val (.blt .isStr [.idx (.var 0) (.lit (.int 1))]))) (.not (.val (.chn .LtE .LtE (.lit (.int 1)) (.blt .len [.idx (.var 0) (.lit (.int 1))]) (.lit (.int 10)))))) [.ret (.lit (.bl false))] [], .ite (.not (.val (.blt .all [.comp (.chn .LtE .LtE (.lit (.str [33])) (.var 1) (.lit (.str [126]))) (.name 1) (.seq (.idx (.var 0) (.lit (.int 1)))) [] [1]]))) [.ret (.lit (.bl false))] [], .ite (.or (.not (.val (.blt .isStr [.idx (.var 0) (.lit (.int 2))]))) (.or (.val (.cmp .NotEq (.blt .len [.idx (.var 0) (.lit (.int 2))]) (.lit (.int 1)))) (.val (.cmp .NotIn (.idx (.var 0) (.lit (.int 2))) (.lit (.str [97, 98, 99])))))) [.ret (.lit (.bl false))] [], .ret (.call i_is_whole [.idx (.var 0) (.lit (.int 3)), .lit (.int 1), .lit (.int 2)])], false⟩
def W_is_whole : Def := ⟨3, 3, [.ret (.and (.blt .isInt [.var 0]) (.and (.not (.blt .isBool [.var 0])) (.chn .LtE .LtE (.var 1) (.var 0) (.var 2))))], false⟩
def W_look_b2 (i_signs_of : Nat) : List St := [.sub (.var 4) (.var 5) (.var 6), .wipe [5, 6, 7, 8]]
def W_look_b1 (i_signs_of : Nat) : List St := [.asg (.name 4) (.bin .Mult (.lst [.lit (.str [32])]) (.idx (.var 0) (.lit (.int 0)))), .for (.tup [.name 5, .name 6, .name 7, .name 8]) (.seq (.call i_signs_of [.var 3])) (W_look_b2 i_signs_of), .asg (.name 2) (.bin .Add (.var 2) (.tup [.mth .join (.lit (.str [])) [.var 4]])), .wipe [3, 4, 5, 6, 7, 8]]
def W_look (i_signs_of : Nat) : Def := ⟨2, 9, [.asg (.name 2) (.tup []), .for (.name 3) (.seq (.var 1)) (W_look_b1 i_signs_of), .ret (.var 2)], false⟩
def W_mirrored_b2 : List St := [.asg (.name 4) (.bin .Add (.tup [.tup [.bin .Sub (.bin .Sub (.idx (.var 0) (.lit (.int 0))) (.var 5)) (.blt .len [.var 6]), .rev (.var 6), .var 7, .var 8]]) (.var 4)), .wipe [5, 6, 7, 8]]
def W_mirrored_b1 : List St := [.asg (.name 4) (.tup []), .for (.tup [.name 5, .name 6, .name 7, .name 8]) (.seq (.var 3)) W_mirrored_b2, .asg (.name 2) (.bin .Add (.var 2) (.tup [.var 4])), .wipe [3, 4, 5, 6, 7, 8]]
def W_mirrored : Def := ⟨2, 9, [.asg (.name 2) (.tup []), .for (.name 3) (.seq (.var 1)) W_mirrored_b1, .ret (.var 2)], false⟩
def W_moved_b1 : List St := [.asg (.name 5) (.blt .tuple [.comp (.tup [.bin .Add (.var 6) (.var 2), .var 7, .var 8, .var 9]) (.tup [.name 6, .name 7, .name 8, .name 9]) (.seq (.var 4)) [] [6, 7, 8, 9]]), .ite (.val (.blt .any [.comp (.or (.cmp .Lt (.var 6) (.lit (.int 0))) (.cmp .Gt (.bin .Add (.var 6) (.blt .len [.var 7])) (.idx (.var 0) (.lit (.int 0))))) (.tup [.name 6, .name 7, .name 8, .name 9]) (.seq (.var 5)) [] [6, 7, 8, 9]])) [.raise 4] [], .asg (.name 3) (.bin .Add (.var 3) (.tup [.var 5])), .wipe [4, 5]]
def W_moved : Def := ⟨3, 10, [.asg (.name 3) (.tup []), .for (.name 4) (.seq (.var 1)) W_moved_b1, .ret (.var 3)], false⟩
def W_overlaid_b2 : List St := [.ite (.val (.cmp .Lt (.var 7) (.var 6))) [.raise 4] [], .asg (.name 6) (.bin .Add (.var 7) (.blt .len [.var 8])), .wipe [7, 8, 9, 10]]
def W_overlaid_b1 : List St := [.asg (.name 4) (.bin .Add (.idx (.bin .Add (.var 0) (.bin .Mult (.tup [.tup []]) (.blt .len [.var 1]))) (.var 3)) (.idx (.bin .Add (.var 1) (.bin .Mult (.tup [.tup []]) (.blt .len [.var 0]))) (.var 3))), .asg (.name 5) (.blt .tuple [.blt .sorted [.var 4]]), .asg (.name 6) (.lit (.int 0)), .for (.tup [.name 7, .name 8, .name 9, .name 10]) (.seq (.var 5)) W_overlaid_b2, .wipe [6], .asg (.name 2) (.bin .Add (.var 2) (.tup [.var 5])), .wipe [3, 4, 5, 6, 7, 8, 9, 10]]
def W_overlaid : Def := ⟨2, 11, [.asg (.name 2) (.tup []), .for (.name 3) (.rng1 (.blt .max2 [.blt .len [.var 0], .blt .len [.var 1]])) W_overlaid_b1, .ret (.var 2)], false⟩
def W_parted : Def := ⟨2, 2, [.ite (.not (.val (.chn .LtE .LtE (.lit (.int 0)) (.var 1) (.blt .len [.var 0])))) [.raise 3] [], .ret (.tup [.slc (.var 0) none (some (.var 1)), .slc (.var 0) (some (.var 1)) none])], false⟩
def W_sheet_of_b1 (i_signs_of : Nat) : List St := [.expr (.mth .extend (.var 1) [.comp (.bin .Add (.tup [.var 2]) (.var 4)) (.name 4) (.seq (.call i_signs_of [.var 3])) [] [4]]), .wipe [2, 3]]
def W_sheet_of (i_signs_of : Nat) : Def := ⟨1, 5, [.asg (.name 1) (.newL []), .for (.tup [.name 2, .name 3]) (.enum (.var 0)) (W_sheet_of_b1 i_signs_of), .ret (.blt .tuple [.blt .sorted [.var 1]])], true⟩
def W_strokes_b1 (i_signs_of : Nat) : List St := [.asg (.name 1) (.bin .Add (.var 1) (.blt .sum [.comp (.var 6) (.tup [.name 3, .name 4, .name 5, .name 6]) (.seq (.call i_signs_of [.var 2])) [] [3, 4, 5, 6]])), .wipe [2]]
def W_strokes (i_signs_of : Nat) : Def := ⟨1, 7, [.asg (.name 1) (.lit (.int 0)), .for (.name 2) (.seq (.var 0)) (W_strokes_b1 i_signs_of), .ret (.var 1)], false⟩
def W_turned_way : Def := ⟨2, 3, [.ret (.blt .tuple [.comp (.bin .Add (.slc (.var 2) none (some (.lit (.int 3)))) (.tup [.not (.idx (.var 2) (.lit (.int 3)))])) (.name 2) (.seq (.var 1)) [] [2]])], false⟩
def W_step_cost (i_ends_of : Nat) : Def := ⟨6, 9, [.asg (.tup [.name 6, .name 7]) (.call i_ends_of [.var 1, .var 5]), .asg (.name 8) (.bin .Add (.blt .max2 [.blt .abs [.bin .Sub (.var 6) (.var 2)], .bin .Mult (.idx (.var 0) (.lit (.int 2))) (.bin .Sub (.idx (.var 5) (.lit (.int 0))) (.var 3))]) (.bin .Mult (.idx (.var 0) (.lit (.int 1))) (.blt .abs [.bin .Sub (.var 7) (.var 6)]))), .ret (.bin .Add (.var 8) (.bin .Mult (.idx (.var 0) (.lit (.int 3))) (.blt .int [.cmp .NotEq (.var 4) (.idx (.var 5) (.lit (.int 1)))])))], false⟩
def W_keep_best : Def := ⟨3, 3, [.ite (.or (.val (.cmp .NotIn (.var 1) (.var 0))) (.val (.cmp .Lt (.var 2) (.idx (.var 0) (.var 1))))) [.sub (.var 0) (.var 1) (.var 2)] []], false⟩
def W_one_more_b3 (i_step_cost i_ends_of i_keep_best : Nat) : List St := [.asg (.name 14) (.bin .Add (.var 11) (.tup [.var 13])), .asg (.name 15) (.bin .Add (.var 9) (.call i_step_cost [.var 0, .var 1, .var 6, .var 3, .var 7, .var 14])), .asg (.name 16) (.tup [.idx (.call i_ends_of [.var 1, .var 14]) (.lit (.int 1)), .idx (.var 11) (.lit (.int 1)), .blt .tuple [.blt .sorted [.bin .Add (.var 8) (.tup [.var 11])]]]), .expr (.call i_keep_best [.var 5, .var 16, .tup [.var 15, .bin .Add (.var 10) (.tup [.var 14])]]), .wipe [13, 14, 15, 16]]
def W_one_more_b2 (i_step_cost i_ends_of i_keep_best : Nat) : List St := [.for (.name 13) (.seq (.tup [.lit (.bl false), .lit (.bl true)])) (W_one_more_b3 i_step_cost i_ends_of i_keep_best), .wipe [11, 13, 14, 15, 16]]
def W_one_more_b1 (i_step_cost i_ends_of i_keep_best : Nat) : List St := [.asg (.tup [.name 9, .name 10]) (.idx (.var 2) (.tup [.var 6, .var 7, .var 8])), .for (.name 11) (.seq (.comp (.var 12) (.name 12) (.seq (.var 4)) [.val (.cmp .NotIn (.var 12) (.var 8))] [12])) (W_one_more_b2 i_step_cost i_ends_of i_keep_best), .wipe [6, 7, 8, 9, 10, 11, 13, 14, 15, 16]]
def W_one_more (i_step_cost i_ends_of i_keep_best : Nat) : Def := ⟨5, 17, [.asg (.name 5) (.newD []), .for (.tup [.name 6, .name 7, .name 8]) (.seq (.var 2)) (W_one_more_b1 i_step_cost i_ends_of i_keep_best), .ret (.var 5)], true⟩
def W_Head_strike_b1 : List St := [.asg (.name 7) (.tup [.fld (.var 0) 2, .var 5, .var 6, .fld (.var 0) 3]), .sub (.fld (.var 0) 6) (.var 7) (.bin .Add (.mth .get (.fld (.var 0) 6) [.var 7, .lit (.int 0)]) (.lit (.int 1))), .wipe [5, 6, 7]]
def W_Head_strike : Def := ⟨3, 8, [.ite (.not (.val (.chn .LtE .LtE (.lit (.int 0)) (.var 1) (.idx (.fld (.var 0) 0) (.lit (.int 0)))))) [.raise 2] [], .asg (.tup [.name 3, .name 4]) (.tup [.blt .min2 [.var 1, .fld (.var 0) 1], .blt .max2 [.var 1, .fld (.var 0) 1]]), .ite (.not (.val (.blt .all [.comp (.chn .LtE .Lt (.var 3) (.var 5) (.var 4)) (.tup [.name 5, .name 6]) (.seq (.var 2)) [] [5, 6]]))) [.raise 2] [], .expr (.inv (.var 0) 2 []), .fld (.var 0) 4 (.bin .Add (.fld (.var 0) 4) (.bin .Mult (.idx (.fld (.var 0) 0) (.lit (.int 1))) (.bin .Sub (.var 4) (.var 3)))), .fld (.var 0) 1 (.var 1), .for (.tup [.name 5, .name 6]) (.seq (.var 2)) W_Head_strike_b1], false⟩
def W__law_same (i__law_same : Nat) : Def := ⟨2, 4, [.ite (.val (.cmp .Is (.var 1) (.lit .non))) [.ret (.cmp .Is (.var 0) (.lit .non))] [], .ite (.val (.blt .isBool [.var 1])) [.ret (.and (.blt .isBool [.var 0]) (.cmp .Eq (.var 0) (.var 1)))] [], .ite (.val (.blt .isTuple [.var 1])) [.ite (.or (.not (.val (.blt .isTuple [.var 0]))) (.val (.cmp .NotEq (.blt .len [.var 0]) (.blt .len [.var 1])))) [.ret (.lit (.bl false))] [], .ret (.blt .all [.comp (.call i__law_same [.var 2, .var 3]) (.tup [.name 2, .name 3]) (.zip (.var 0) (.var 1)) [] [2, 3]])] [], .ite (.val (.blt .isStr [.var 1])) [.ret (.and (.blt .isStr [.var 0]) (.cmp .Eq (.var 0) (.var 1)))] [], .ret (.and (.blt .isInt [.var 0]) (.and (.not (.blt .isBool [.var 0])) (.cmp .Eq (.var 0) (.var 1))))], false⟩
def W__law_ends_b1 (i__law_passes : Nat) : List St := [.ite (.val (.cmp .Eq (.tup [.var 2, .var 3]) (.slc (.var 1) (some (.lit (.int 1))) (some (.lit (.int 3)))))) [.ret (.ife (.val (.idx (.var 1) (.lit (.int 3)))) (.tup [.bin .Add (.var 5) (.lit (.int 1)), .var 4]) (.tup [.var 4, .bin .Add (.var 5) (.lit (.int 1))]))] [], .wipe [2, 3, 4, 5]]
def W__law_ends (i__law_passes : Nat) : Def := ⟨2, 6, [.for (.tup [.name 2, .name 3, .name 4, .name 5]) (.seq (.call i__law_passes [.idx (.var 0) (.idx (.var 1) (.lit (.int 0)))])) (W__law_ends_b1 i__law_passes), .ret (.lit .non)], false⟩
def W__law_times_b1 (i__law_ends : Nat) : List St := [.asg (.tup [.name 9, .name 10]) (.call i__law_ends [.var 1, .var 8]), .asg (.name 6) (.bin .Add (.var 6) (.blt .max2 [.blt .abs [.bin .Sub (.var 9) (.var 3)], .bin .Mult (.idx (.var 0) (.lit (.int 2))) (.bin .Sub (.idx (.var 8) (.lit (.int 0))) (.var 4))])), .asg (.name 6) (.bin .Add (.var 6) (.bin .Mult (.idx (.var 0) (.lit (.int 3))) (.blt .int [.cmp .NotEq (.idx (.var 8) (.lit (.int 1))) (.var 5)]))), .asg (.name 6) (.bin .Add (.var 6) (.bin .Mult (.idx (.var 0) (.lit (.int 1))) (.blt .abs [.bin .Sub (.var 10) (.var 9)]))), .asg (.tup [.name 3, .name 4, .name 5, .name 7]) (.tup [.var 10, .idx (.var 8) (.lit (.int 0)), .idx (.var 8) (.lit (.int 1)), .bin .Add (.var 7) (.tup [.var 6])]), .wipe [8, 9, 10]]
def W__law_times (i__law_ends : Nat) : Def := ⟨3, 11, [.asg (.tup [.name 3, .name 4, .name 5, .name 6, .name 7]) (.tup [.lit (.int 0), .lit (.int 0), .lit (.str [97]), .lit (.int 0), .tup []]), .for (.name 8) (.seq (.var 2)) (W__law_times_b1 i__law_ends), .wipe [3, 4, 5, 6], .ret (.var 7)], false⟩
def W__law_moved (i_moved : Nat) : Def := ⟨3, 3, [.try [.ret (.call i_moved [.var 0, .var 1, .var 2])] [(4, [.ret (.lit .non)])]], false⟩
end HW
/-! The pages that are drawn. -/
namespace HW
def bodyOf : St → List St
  | .for _ _ b => b
  | .while _ b => b
  | .ite _ a _ => a
  | _ => []
theorem ex_app {P : Prog} {call : Call} (a b : List St) (env : Env) (S : Sto) : execs P call (a ++ b) env S = (execs P call a env S).andThen fun env S => execs P call b env S := by
  induction a generalizing env S with
  | nil => simp
  | cons s a ih =>
    simp only [List.cons_append, ex_cons]
    cases execS P call s env S <;> simp [ih]
theorem strs_map (cs : List Nat) : strsOf (cs.map fun c => D.str [c]) = some (cs.map fun c => [c]) := by
  induction cs with
  | nil => rfl
  | cons c cs ih => simp [strsOf, ih]
theorem join_map : ∀ cs : List Nat, joinS [] (cs.map fun c => [c]) = cs
  | [] => rfl
  | [c] => rfl
  | a :: b :: cs => by
    have := join_map (b :: cs)
    simp only [List.map_cons, joinS] at this ⊢
    rw [this]
    rfl
theorem join_ok {S : Sto} {cs : List Nat} (h : cs.length ≤ 1000) : bmR .join (.str []) [.lst (cs.map fun c => D.str [c])] S = .ok (.str cs) S := by
  have e : (((cs.map fun c => [c]).map List.length).sum) = cs.length := by
    clear h
    induction cs with
    | nil => rfl
    | cons c cs ih =>
      simp only [List.map_cons, List.sum_cons, List.length_cons, List.length_nil, ih]
      omega
  have : cs.length ≤ SZ := by show cs.length ≤ 16777216; omega
  simp [bmR, bmD, listD, vw, strs_map, join_map]
  have e2 : (List.map (List.length ∘ fun c => [c]) cs).sum = cs.length := by rw [← List.map_map]; exact e
  rw [if_pos (by rw [e2]; exact this)]
  rfl
section
variable {P : Prog} {iDr iPk iPg n : Nat} (hi : P.defs[iDr]? = some dDraw) (hp : P.defs[iPk]? = some (dPick iDr)) (ns : List Int)
include hi hp
theorem comp_pick {x : List Nat} (hx : x ≠ []) {e2 e3 e4 e5 e6 e7 e8 e9 e10 e11 e12 e13 e14 e15 : Option D} (Z : Sto) :
    ∀ (items : List D) (m : Nat), m + items.length < SZ → ∃ cs : List Nat, cs.length = items.length ∧ (∀ c ∈ cs, c ∈ x) ∧ ∀ acc,
      compL [] (compT P (run P (n + 2)) (.call iPk [.var 0, .var 1, .lit (.str x)]) (.name 14) [] [14] [some (.lst (ns.map .int)), some (.ref 0), e2, e3, e4, e5, e6, e7, e8, e9, e10, e11, e12, e13, e14, e15]) items acc (Tn m :: Z)
        = .ok (acc ++ cs.map fun c => D.str [c]) (Tn (m + items.length) :: Z)
  | [], m, _ => ⟨[], rfl, by simp, fun acc => by simp [compL]⟩
  | d :: items, m, hm => by
    simp only [List.length_cons] at hm
    obtain ⟨c, hc, hr⟩ := pickS_ok (n := n) hp hi ns m Z x (by omega) hx
    obtain ⟨cs, h1, h2, h3⟩ := comp_pick hx (e2 := e2) (e3 := e3) (e4 := e4) (e5 := e5) (e6 := e6) (e7 := e7) (e8 := e8) (e9 := e9) (e10 := e10) (e11 := e11) (e12 := e12) (e13 := e13) (e14 := e14) (e15 := e15) Z items (m + 1) (by omega)
    refine ⟨c :: cs, by simp [h1], fun a ha => ?_, fun acc => ?_⟩
    · rcases List.mem_cons.mp ha with rfl | ha
      · exact hc
      · exact h2 a ha
    · have ht : compT P (run P (n + 2)) (.call iPk [.var 0, .var 1, .lit (.str x)]) (.name 14) [] [14] [some (.lst (ns.map .int)), some (.ref 0), e2, e3, e4, e5, e6, e7, e8, e9, e10, e11, e12, e13, e14, e15] d (Tn m :: Z) = .ok (some (.str [c])) (Tn (m + 1) :: Z) := by
        simp [compT, setTg, wipeE, hr]
      have e : m + (d :: items).length = m + 1 + items.length := by simp; omega
      simp only [compL, stay_nil, if_true, ht, bind_ok, h3, e]
      simp
/-- the fonts that a row may have -/
def FontsOk (F : List Nat) : Prop := F = [97] ∨ F = [98] ∨ F = [97, 98] ∨ F = [97, 98, 99]
abbrev rowB (iDr iPk : Nat) : List St := bodyOf ((bodyOf ((D__law_page iDr iPk).body.getD 1 .nope)).getD 2 .nope)
abbrev penv (ns : List Int) (w high : Int) (pg : Pg) (e5 : Option D) (row : Row) (en : Int) (F : List Nat) (e9 e10 e11 e12 e13 e14 e15 : Option D) : Env :=
  [some (.lst (ns.map .int)), some (.ref 0), some (.int w), some (.int high), some (pgD pg), e5, some (rowD row), some (.int en), some (.str F), e9, e10, e11, e12, e13, e14, e15]
/-- one run more -/
theorem run_more {w high : Int} {pg : Pg} {row : Row} {en : Int} {F : List Nat} {Z : Sto} {m : Nat} {e5 e9 e10 e11 e12 e13 e14 e15 : Option D} (w2 : w ≤ 40) (hm : m + 30 < SZ) (hF : FontsOk F)
    (hl : row.length ≤ 3) (hr : ∀ r ∈ row, RnOk r) (hc : chain 0 row) (he : endOf 0 row = en) (hw : en ≤ w) :
    ∃ row' en' m' e10' e11' e12' e13' e14' e15', m' ≤ m + 20 ∧ row'.length ≤ row.length + 1 ∧ (∀ r ∈ row', RnOk r) ∧ chain 0 row' ∧ endOf 0 row' = en' ∧ en' ≤ w ∧
      execs P (run P (n + 2)) (rowB iDr iPk) (penv ns w high pg e5 row en F e9 e10 e11 e12 e13 e14 e15) (Tn m :: Z) = .next (penv ns w high pg e5 row' en' F e9 e10' e11' e12' e13' e14' e15') (Tn m' :: Z) := by
  by_cases hleft : w - en > 0
  · -- where it begins
    have hcol : ∃ (r : Int) (m1 : Nat), 0 ≤ r ∧ r < w - en ∧ m1 ≤ m + 2 ∧ ∀ e11 e12 e13 e14 e15, evalE P (run P (n + 2)) (.call iDr [.var 0, .var 1, .ife (.val (.cmp .Gt (.var 10) (.lit (.int (2))))) (.call iPk [.var 0, .var 1, .lst [.lit (.int (1)), .lit (.int (3)), .var 10]]) (.lit (.int (1)))]) (penv ns w high pg e5 row en F e9 (some (.int (w - en))) e11 e12 e13 e14 e15) (Tn m :: Z) = .ok (.int r) (Tn m1 :: Z) := by
      by_cases h2 : 2 < w - en
      · obtain ⟨d, hd, hpk⟩ := pick_ok (n := n) hp hi ns m Z [.int 1, .int 3, .int (w - en)] (by omega) (by simp)
        have hk : ∃ k : Int, d = .int k ∧ 0 < k ∧ k ≤ w - en := by
          simp only [List.mem_cons, List.not_mem_nil, or_false] at hd
          rcases hd with rfl | rfl | rfl
          · exact ⟨1, rfl, by omega, by omega⟩
          · exact ⟨3, rfl, by omega, by omega⟩
          · exact ⟨_, rfl, by omega, by omega⟩
        obtain ⟨k, rfl, k0, k1⟩ := hk
        obtain ⟨r, r0, r1, hrr⟩ := draw_ok (n := n + 1) hi ns (m + 1) Z k (by omega) k0
        exact ⟨r, m + 2, r0, by omega, by omega, fun _ _ _ _ _ => by simp [h2, hpk, hrr]⟩
      · obtain ⟨r, r0, r1, hrr⟩ := draw_ok (n := n + 1) hi ns m Z 1 (by omega) (by decide)
        exact ⟨r, m + 1, r0, by omega, by omega, fun _ _ _ _ _ => by simp [h2, hrr]⟩
    obtain ⟨c, m1, c0, c1, hm1, hcx⟩ := hcol
    -- how long
    obtain ⟨a, a0, a1, hA⟩ := draw_ok (n := n + 1) hi ns m1 Z 10 (by omega) (by decide)
    have b3 : 0 < mn3 10 (w - (en + c)) (1 + a) ∧ mn3 10 (w - (en + c)) (1 + a) ≤ 10 ∧ mn3 10 (w - (en + c)) (1 + a) ≤ w - (en + c) := by
      unfold mn3
      split <;> split <;> omega
    obtain ⟨l, l0, l1, hL⟩ := draw_ok (n := n + 1) hi ns (m1 + 1) Z (mn3 10 (w - (en + c)) (1 + a)) (by omega) b3.1
    obtain ⟨cs, hcs, hch, hcomp⟩ := comp_pick (n := n) hi hp ns (x := [120, 121, 122, 33, 126, 48]) (by simp) (e2 := some (.int w)) (e3 := some (.int high)) (e4 := some (pgD pg)) (e5 := e5) (e6 := some (rowD row)) (e7 := some (.int en)) (e8 := some (.str F)) (e9 := e9) (e10 := some (.int (w - en))) (e11 := some (.int (en + c))) (e12 := some (.int (1 + l))) (e13 := e13) (e14 := e14) (e15 := e15) Z (rangeD 0 (1 + l).toNat) (m1 + 2) (by rw [rangeD_len]; omega)
    rw [rangeD_len] at hcs hcomp
    have hcl : (cs.length : Int) = 1 + l := by omega
    obtain ⟨ft, hft, hf⟩ := pickS_ok (n := n) hp hi ns (m1 + 2 + (1 + l).toNat) Z F (by omega) (by rcases hF with rfl | rfl | rfl | rfl <;> simp)
    obtain ⟨t, t0, t1, hT⟩ := draw_ok (n := n + 1) hi ns (m1 + 2 + (1 + l).toNat + 1) Z 2 (by omega) (by decide)
    refine ⟨row ++ [⟨en + c, cs, [ft], 1 + t⟩], en + c + (1 + l), m1 + 2 + (1 + l).toNat + 2, some (.int (w - en)), some (.int (en + c)), some (.int (1 + l)), some (.str cs), e14, some (.str [ft]), by omega, by simp, ?_, ?_, ?_, by omega, ?_⟩
    · intro r hr'
      rcases List.mem_append.mp hr' with h | h
      · exact hr r h
      · simp only [List.mem_singleton] at h
        subst h
        refine ⟨by show 1 ≤ cs.length; omega, by show cs.length ≤ 10; omega, hch, ?_, ?_⟩
        · have : ft = 97 ∨ ft = 98 ∨ ft = 99 := by
            rcases hF with rfl | rfl | rfl | rfl <;> simp at hft <;> omega
          simpa using this
        · show 1 + t = 1 ∨ 1 + t = 2
          omega
    · exact chain_snoc hc (by rw [he]; show en ≤ en + c; omega)
    · rw [endOf_snoc]
      show en + c + (cs.length : Int) = _
      omega
    · have hj : ∀ S, bmR .join (.str []) [.lst (cs.map fun c => D.str [c])] S = .ok (.str cs) S := fun S => join_ok (by omega)
      have hrow : (row.map Rn.d).length + [Rn.d ⟨en + c, cs, [ft], 1 + t⟩].length ≤ SZ := by
        simp only [List.length_map, List.length_singleton]
        show row.length + 1 ≤ 16777216
        omega
      have hat := add_tup hrow
      simp only [rowB, D__law_page, bodyOf, List.getD_cons_succ, List.getD_cons_zero]
      simp only [ex_cons, ex_asgN, ev_bin, ev_var, slot_s, slot_0, bind_ok, sub_int, R.of_some, R.stm_ok, List.set_cons_succ, List.set_cons_zero, then_next, ex_ite, ev_tval, ev_cmp, ev_lit, cmp_gt_int, Option.map_some, tru_bl, hleft, decide_true, if_true]
      rw [hcx]
      simp only [bind_ok, add_int, R.of_some, R.stm_ok, then_next, ev_call, ev_l1, ev_l0, ev_blt, ne_eq, reduceCtorEq, not_false_eq_true, ev_var, ev_lit, slot_s, slot_0, sub_int, ev_bin, hA, min3_int, hL, List.set_cons_succ, List.set_cons_zero, ev_mth, kind_join, if_true, ev_comp, ev_rng1, rngR_ok (show (-1000000 : Int) ≤ 1 + l by omega) (show 1 + l ≤ 1000000 by omega)]
      simp only [compR, hcomp, List.nil_append, List.length_map]
      rw [if_pos (by show cs.length ≤ 16777216; omega)]
      simp [hj, hf, hT, hat, hcl]
  · refine ⟨row, en, m, some (.int (w - en)), e11, e12, e13, e14, e15, by omega, by omega, hr, hc, he, hw, ?_⟩
    have hl0 : ¬ en < w := by omega
    simp [rowB, D__law_page, bodyOf, hl0]
abbrev pageB (iDr iPk : Nat) : List St := bodyOf ((D__law_page iDr iPk).body.getD 1 .nope)
abbrev penv0 (ns : List Int) (w high : Int) (pg : Pg) (e5 e6 e7 e8 e9 e10 e11 e12 e13 e14 e15 : Option D) : Env :=
  [some (.lst (ns.map .int)), some (.ref 0), some (.int w), some (.int high), some (pgD pg), e5, e6, e7, e8, e9, e10, e11, e12, e13, e14, e15]
/-- one row more -/
theorem row_more {w high : Int} {pg : Pg} {Z : Sto} {m : Nat} {e5 e6 e7 e8 e9 e10 e11 e12 e13 e14 e15 : Option D} (w1 : 0 ≤ w) (w2 : w ≤ 40) (hm : m + 150 < SZ) (hpg : pg.length ≤ 5) :
    ∃ row m' e6' e7' e8' e9' e10' e11' e12' e13' e14' e15', m' ≤ m + 100 ∧ RowOk w row ∧
      execs P (run P (n + 2)) (pageB iDr iPk) (penv0 ns w high pg e5 e6 e7 e8 e9 e10 e11 e12 e13 e14 e15) (Tn m :: Z) = .next (penv0 ns w high (pg ++ [row]) e5 e6' e7' e8' e9' e10' e11' e12' e13' e14' e15') (Tn m' :: Z) := by
  obtain ⟨F, hF, hfp⟩ := pick_ok (n := n) hp hi ns m Z [.str [97], .str [98], .str [97, 98], .str [97, 98, 99]] (by omega) (by simp)
  have hF' : ∃ f, F = .str f ∧ FontsOk f := by
    simp only [List.mem_cons, List.not_mem_nil, or_false] at hF
    rcases hF with rfl | rfl | rfl | rfl
    · exact ⟨_, rfl, .inl rfl⟩
    · exact ⟨_, rfl, .inr (.inl rfl)⟩
    · exact ⟨_, rfl, .inr (.inr (.inl rfl))⟩
    · exact ⟨_, rfl, .inr (.inr (.inr rfl))⟩
  obtain ⟨f, rfl, hf⟩ := hF'
  obtain ⟨k, k0, k1, hk⟩ := draw_ok (n := n + 1) hi ns (m + 1) Z 5 (by omega) (by decide)
  have loop := forL_inv (turn := forT P (run P (n + 2)) (.name 9) (rowB iDr iPk)) (items := rangeD 0 k.toNat) (env := penv ns w high pg e5 [] 0 f e9 e10 e11 e12 e13 e14 e15) (S := Tn (m + 2) :: Z)
    (fun i env S => ∃ row en m' e9 e10 e11 e12 e13 e14 e15, m' ≤ m + 2 + 20 * i ∧ row.length ≤ i ∧ (∀ r ∈ row, RnOk r) ∧ chain 0 row ∧ endOf 0 row = en ∧ en ≤ w ∧ env = penv ns w high pg e5 row en f e9 e10 e11 e12 e13 e14 e15 ∧ S = Tn m' :: Z)
    ⟨[], 0, m + 2, e9, e10, e11, e12, e13, e14, e15, by omega, by simp, by simp, trivial, rfl, w1, rfl, rfl⟩ (by
      rintro i d env S hi' ⟨row, en, m', e9, e10, e11, e12, e13, e14, e15, h1, h2, h3, h4, h5, h6, rfl, rfl⟩
      have hlt : i < k.toNat := by
        have := (List.getElem?_eq_some_iff.mp hi').1
        rw [rangeD_len] at this
        exact this
      obtain ⟨row', en', m'', e10', e11', e12', e13', e14', e15', g1, g2, g3, g4, g5, g6, g7⟩ := run_more (n := n) hi hp ns (high := high) (pg := pg) (e5 := e5) (e9 := some d) (e10 := e10) (e11 := e11) (e12 := e12) (e13 := e13) (e14 := e14) (e15 := e15) (Z := Z) (m := m') w2 (by omega) hf (by omega) h3 h4 h5 h6
      exact ⟨_, _, by rw [forT_n]; exact g7, row', en', m'', some d, e10', e11', e12', e13', e14', e15', by omega, by omega, g3, g4, g5, g6, rfl, rfl⟩)
  obtain ⟨env', S', hl, row, en, m', e9', e10', e11', e12', e13', e14', e15', h1, h2, h3, h4, h5, h6, rfl, rfl⟩ := loop
  rw [rangeD_len] at h1 h2
  refine ⟨row, m', some (rowD row), some (.int en), some (.str f), e9', e10', e11', e12', e13', e14', e15', by omega, ⟨by omega, h3, h4, by omega⟩, ?_⟩
  have hB : pageB iDr iPk = (pageB iDr iPk).take 2 ++ [.for (.name 9) (.rng1 (.call iDr [.var 0, .var 1, .lit (.int (5))])) (rowB iDr iPk), .asg (.name 4) (.bin .Add (.var 4) (.tup [.var 6]))] := rfl
  have h2' : execs P (run P (n + 2)) ((pageB iDr iPk).take 2) (penv0 ns w high pg e5 e6 e7 e8 e9 e10 e11 e12 e13 e14 e15) (Tn m :: Z) = .next (penv ns w high pg e5 [] 0 f e9 e10 e11 e12 e13 e14 e15) (Tn (m + 1) :: Z) := by
    simp [pageB, D__law_page, bodyOf, hfp]
  have hat : (pg.map rowD).length + [rowD row].length ≤ SZ := by
    simp only [List.length_map, List.length_singleton]
    show pg.length + 1 ≤ 16777216
    omega
  rw [hB, ex_app, h2', then_next]
  simp only [ex_cons, ex_for, ev_rng1, ev_call, ev_l1, ev_l0, ev_var, ev_lit, slot_s, slot_0, bind_ok, hk, rngR_ok (show (-1000000 : Int) ≤ k by omega) (show k ≤ 1000000 by omega), R.stm_ok, hl, then_next]
  simp [add_tup hat]
theorem page_ok (h : P.defs[iPg]? = some (D__law_page iDr iPk)) (m : Nat) (Z : Sto) (w high : Int) (w1 : 0 ≤ w) (w2 : w ≤ 40) (h0 : 0 ≤ high) (h6 : high ≤ 6) (hm : m + 1000 < SZ) :
    ∃ pg m', m' ≤ m + 700 ∧ PgOk w pg ∧ (pg.length : Int) ≤ high ∧ run P (n + 3) iPg [.lst (ns.map .int), .ref 0, .int w, .int high] (Tn m :: Z) = .ok (pgD pg) (Tn m' :: Z) := by
  obtain ⟨k, k0, k1, hk⟩ := draw_ok (n := n + 1) hi ns m Z (high + 1) (by omega) (by omega)
  have loop := forL_inv (turn := forT P (run P (n + 2)) (.name 5) (pageB iDr iPk)) (items := rangeD 0 k.toNat) (env := penv0 ns w high [] none none none none none none none none none none none) (S := Tn (m + 1) :: Z)
    (fun i env S => ∃ pg m' e5 e6 e7 e8 e9 e10 e11 e12 e13 e14 e15, m' ≤ m + 1 + 100 * i ∧ pg.length = i ∧ (∀ r ∈ pg, RowOk w r) ∧ env = penv0 ns w high pg e5 e6 e7 e8 e9 e10 e11 e12 e13 e14 e15 ∧ S = Tn m' :: Z)
    ⟨[], m + 1, _, _, _, _, _, _, _, _, _, _, _, by omega, rfl, by simp, rfl, rfl⟩ (by
      rintro i d env S hi' ⟨pg, m', e5, e6, e7, e8, e9, e10, e11, e12, e13, e14, e15, h1, h2, h3, rfl, rfl⟩
      have hlt : i < k.toNat := by
        have := (List.getElem?_eq_some_iff.mp hi').1
        rw [rangeD_len] at this
        exact this
      obtain ⟨row, m'', e6', e7', e8', e9', e10', e11', e12', e13', e14', e15', g1, g2, g3⟩ := row_more (n := n) hi hp ns (w := w) (high := high) (pg := pg) (e5 := some d) (e6 := e6) (e7 := e7) (e8 := e8) (e9 := e9) (e10 := e10) (e11 := e11) (e12 := e12) (e13 := e13) (e14 := e14) (e15 := e15) (Z := Z) (m := m') w1 w2 (by omega) (by omega)
      refine ⟨_, _, by rw [forT_n]; exact g3, pg ++ [row], m'', some d, e6', e7', e8', e9', e10', e11', e12', e13', e14', e15', by omega, by simp [h2], fun r hr => ?_, rfl, rfl⟩
      rcases List.mem_append.mp hr with hr | hr
      · exact h3 r hr
      · simp only [List.mem_singleton] at hr
        subst hr
        exact g2)
  obtain ⟨env', S', hl, pg, m', e5, e6, e7, e8, e9, e10, e11, e12, e13, e14, e15, h1, h2, h3, rfl, rfl⟩ := loop
  rw [rangeD_len] at h1 h2
  refine ⟨pg, m', by omega, ⟨by omega, h3⟩, by omega, ?_⟩
  rw [run_of h rfl]
  have hB : (D__law_page iDr iPk).body = [.asg (.name 4) (.tup []), .for (.name 5) (.rng1 (.call iDr [.var 0, .var 1, .bin .Add (.var 3) (.lit (.int (1)))])) (pageB iDr iPk), .ret (.var 4)] := rfl
  show endR (execs P (run P (n + 2)) (D__law_page iDr iPk).body _ _) = _
  rw [hB]
  simp only [penv0, pgD, List.map_nil] at hl
  simp [hk, rngR_ok (show (-1000000 : Int) ≤ k by omega) (show k ≤ 1000000 by omega), hl]
end
end HW
/-! More of the interpreter's equations. -/
namespace HW
section
variable {P : Prog} {call : Call} {env : Env} {S : Sto}
def enumR (d : D) (S : Sto) : R Src := match seqOf S d with
    | some ds => .ok ⟨enumFrom 0 ds, ownD S d⟩ S
    | none => .bad
@[simp] theorem ev_enum (e : X) : evalI P call (.enum e) env S = (evalE P call e env S).bind enumR := by simp only [evalI]; rfl
@[simp] theorem enumR_str (x : List Nat) : enumR (.str x) S = .ok ⟨(x.zipIdx 0).map fun p => .tup [.int p.2, .str [p.1]], []⟩ S := by
  simp only [enumR, seqOf, vw, ownD, enum_map]
theorem enumR_tup {α : Type} (enc : α → D) (xs : List α) : enumR (.tup (xs.map enc)) S = .ok ⟨(xs.zipIdx 0).map fun p => .tup [.int p.2, enc p.1], []⟩ S := by
  simp only [enumR, seqOf, vw, ownD, enum_map]
theorem enumR_lst {α : Type} (enc : α → D) (xs : List α) : enumR (.lst (xs.map enc)) S = .ok ⟨(xs.zipIdx 0).map fun p => .tup [.int p.2, enc p.1], []⟩ S := by
  simp only [enumR, seqOf, vw, ownD, enum_map]
def rng2R (d e : D) (S : Sto) : R Src := match d, e with
    | .int i, .int j => if -(2 ^ 61) < i ∧ i < 2 ^ 61 ∧ -(2 ^ 61) < j ∧ j < 2 ^ 61 then .ok ⟨rangeD i (j - i).toNat, []⟩ S else .bad
    | _, _ => .bad
@[simp] theorem ev_rng2 (a b : X) : evalI P call (.rng2 a b) env S = (evalE P call a env S).bind fun d S => (evalE P call b env S).bind fun e S => rng2R d e S := by simp only [evalI]; rfl
theorem rng2R_ok {i j : Int} (h1 : -1000000 ≤ i) (h2 : i ≤ 1000000) (h3 : -1000000 ≤ j) (h4 : j ≤ 1000000) : rng2R (.int i) (.int j) S = .ok ⟨rangeD i (j - i).toNat, []⟩ S := by
  simp only [rng2R]
  rw [if_pos ⟨by omega, by omega, by omega, by omega⟩]
def zipR (d e : D) (S : Sto) : R Src := match itemsD S d, itemsD S e with
    | some x, some y => if isT d == isT e then .ok ⟨zipD x y, ownD S d ++ ownD S e⟩ S else .bad
    | _, _ => .bad
@[simp] theorem ev_zip (a b : X) : evalI P call (.zip a b) env S = (evalE P call a env S).bind fun d S => (evalE P call b env S).bind fun e S => zipR d e S := by simp only [evalI]; rfl
@[simp] theorem zipR_tup (x y : List D) : zipR (.tup x) (.tup y) S = .ok ⟨zipD x y, []⟩ S := rfl
@[simp] theorem zipR_lst (x y : List D) : zipR (.lst x) (.lst y) S = .ok ⟨zipD x y, []⟩ S := rfl
def newCR (P : Prog) (call : Call) (elt : X) (tg : Tg) (ifs : List T) (vs : List Nat) (env : Env) (src : Src) (S : Sto) : R D :=
      match compL src.own (compT P call elt tg ifs vs env) src.items [] S with
      | .ok ds S' => if ds.length ≤ SZ then .ok (.ref S'.length) (S' ++ [.lst ds]) else .bad
      | _ => .bad
@[simp] theorem ev_newC (elt : X) (tg : Tg) (it : It) (ifs : List T) (vs : List Nat) : evalE P call (.newC elt tg it ifs vs) env S = (evalI P call it env S).bind (newCR P call elt tg ifs vs env) := by simp only [evalE]; rfl
@[simp] theorem ex_while (c : T) (body : List St) : execS P call (.while c body) env S = whileL (evalT P call c) (execs P call body) 100000 env S := by simp only [execS]
def inE (o : Option Env) (k : Env → O) : O := match o with
  | some env' => k env'
  | none => .bad
@[simp] theorem inE_some (e : Env) (k : Env → O) : inE (some e) k = k e := rfl
@[simp] theorem forT_t (ts : List Tg) (body : List St) (ds : List D) : forT P call (.tup ts) body (.tup ds) env S = inE (setTgs ts ds env) fun env' => execs P call body env' S := by simp only [forT, setTg]; rfl
@[simp] theorem ev_tife (c a b : T) : evalT P call (.ife c a b) env S = (evalT P call c env S).bind fun k S => if k then evalT P call a env S else evalT P call b env S := by simp only [evalT]
end
section
variable (S : Sto)
theorem extend_ok {n : Nat} {xs ys : List D} (h : S[n]? = some (.lst xs)) (hl : xs.length + ys.length ≤ SZ) : bmR .extend (.ref n) [.lst ys] S = .ok .non (S.set n (.lst (xs ++ ys))) := by simp [bmR, h, hl, listD, vw]
theorem popAt_ok {n : Nat} {xs : List D} {i : Int} {x : D} (h : S[n]? = some (.lst xs)) (h0 : 0 ≤ i) (h1 : i < 1000000) (hx : xs[i.toNat]? = some x) : bmR .popAt (.ref n) [.int i] S = .ok x (S.set n (.lst (xs.eraseIdx i.toNat))) := by
  have : i < 2 ^ 62 := by omega
  simp only [bmR, h, if_pos (And.intro h0 this), hx]
@[simp] theorem isT_tup (x : List D) : bfD S .isTuple [.tup x] = some (.bl true) := rfl
@[simp] theorem isI_int (x : Int) : bfD S .isInt [.int x] = some (.bl true) := rfl
@[simp] theorem isB_int (x : Int) : bfD S .isBool [.int x] = some (.bl false) := rfl
@[simp] theorem isB_bl (x : Bool) : bfD S .isBool [.bl x] = some (.bl true) := rfl
@[simp] theorem isS_str (x : List Nat) : bfD S .isStr [.str x] = some (.bl true) := rfl
@[simp] theorem slc_tup (x : List D) (lo hi : Option Int) : slcD S (.tup x) lo hi = some (.tup (cut x lo hi)) := rfl
@[simp] theorem slc_lst (x : List D) (lo hi : Option Int) : slcD S (.lst x) lo hi = some (.lst (cut x lo hi)) := rfl
@[simp] theorem slc_str (x : List Nat) (lo hi : Option Int) : slcD S (.str x) lo hi = some (.str (cut x lo hi)) := rfl
@[simp] theorem cmp_eq_bl (i j : Bool) : cmpD S .Eq (.bl i) (.bl j) = some (decide (i = j)) := by
  simp only [cmpD, vw, eqD, D.flat, D.dep]
  cases i <;> cases j <;> simp [D.eqv]
@[simp] theorem cmp_ne_bl (i j : Bool) : cmpD S .NotEq (.bl i) (.bl j) = some (!decide (i = j)) := by
  simp only [cmpD, vw, eqD, D.flat, D.dep]
  cases i <;> cases j <;> simp [D.eqv]
end
theorem cut_len {α : Type} (xs : List α) (k : Nat) : cut xs none (some (k : Int)) = xs.take k := by
  have e1 : HT.sIx xs.length 0 none = 0 := by simp [HT.sIx]
  have e2 : HT.sIx xs.length xs.length (some (k : Int)) = min k xs.length := by
    simp only [HT.sIx]
    rw [if_neg (by omega)]
    simp
  unfold cut
  rw [e1, e2]
  simp
theorem cut_map {α β : Type} (f : α → β) (xs : List α) (lo hi : Option Int) : cut (xs.map f) lo hi = (cut xs lo hi).map f := by
  simp [cut, List.map_drop, List.map_take]
@[simp] theorem ints_map (xs : List Int) : intsOf (xs.map D.int) = some xs := by
  induction xs with
  | nil => rfl
  | cons x xs ih => simp [intsOf, ih]
theorem ints_mapf {α : Type} (f : α → Int) (xs : List α) : intsOf (xs.map fun x => D.int (f x)) = some (xs.map f) := by
  induction xs with
  | nil => rfl
  | cons x xs ih => simp [intsOf, ih]
theorem bls_mapf {α : Type} (f : α → Bool) (xs : List α) : blsOf (xs.map fun x => D.bl (f x)) = some (xs.map f) := by
  induction xs with
  | nil => rfl
  | cons x xs ih => simp [blsOf, ih]
end HW
/-! Rows, signs, passes, ends: what the program tells. -/
namespace HW
/-- small enough -/
structure Small (row : Row) : Prop where
  l : row.length ≤ 100
  t : ∀ r ∈ row, r.txt.length ≤ 10
theorem RowOk.small {w : Int} {row : Row} (R : RowOk w row) : Small row := ⟨by have := R.l; omega, fun r hr => (R.r r hr).t2⟩
theorem Small.len : ∀ {row : Row}, (∀ r ∈ row, r.txt.length ≤ 10) → (signs row).length ≤ 10 * row.length
  | [], _ => by simp
  | r :: row, h => by
    have := h r (by simp)
    have := Small.len (row := row) fun q hq => h q (by simp [hq])
    simp only [signs_cons, List.length_append, sgs_len, List.length_cons]
    omega
theorem sgs_zip (f : List Nat) (t : Int) (col : Int) : ∀ (x : List Nat) (k : Nat), ((x.zipIdx k).map fun p => D.tup [.int (col + (p.2 : Int)), .str [p.1], .str f, .int t]) = (sgsFrom f t (col + (k : Int)) x).map Sg.d
  | [], k => rfl
  | c :: x, k => by
    have := sgs_zip f t col x (k + 1)
    simp only [List.zipIdx_cons, List.map_cons, sgsFrom]
    rw [this]
    have e : col + ((k + 1 : Nat) : Int) = col + (k : Int) + 1 := by omega
    rw [e]
section
variable {P : Prog} {n iR iS iP iE : Nat} {S : Sto}
theorem row_of_ok (h : P.defs[iR]? = some D_row_of) {pg : Pg} {k : Nat} {row : Row} (hk : pg[k]? = some row) : run P (n + 1) iR [pgD pg, .int (k : Int)] S = .ok (rowD row) S := by
  obtain ⟨hl, rfl⟩ := List.getElem?_eq_some_iff.mp hk
  have h1 : (k : Int) < (pg.length : Int) := by omega
  have h0 : (0 : Int) ≤ (k : Int) := by omega
  rw [run_of h rfl]
  simp [h0, h1, hl, atI_map, hk]
theorem signs_of_ok (h : P.defs[iS]? = some D_signs_of) {row : Row} (RS : Small row) : run P (n + 1) iS [rowD row] S = .ok (.tup ((signs row).map Sg.d)) S := by
  rw [run_of h rfl]
  simp only [D_signs_of, ex_cons, ex_asgN, ev_tup, ev_l0, bind_ok, List.length_nil, Nat.zero_le, if_true, R.stm_ok, then_next, ex_for, ev_seq, ev_var, List.map_cons, List.map_nil, List.cons_append, List.nil_append, List.replicate, slot_0, slot_s, seqR_tup, List.set_cons_zero, List.set_cons_succ]
  refine for_end (fun pre env S' => S' = S ∧ ∃ e2 e3 e4 e5 e6 e7, env = [some (rowD row), some (.tup ((signs pre).map Sg.d)), e2, e3, e4, e5, e6, e7]) ⟨rfl, _, _, _, _, _, _, rfl⟩ ?_ ?_
  · rintro pre r post env S' e ⟨rfl, e2, e3, e4, e5, e6, e7, rfl⟩
    have ht := RS.t r (by rw [e]; simp)
    have hlen : (signs pre).length + r.txt.length ≤ 1000 := by
      have := Small.len RS.t
      rw [e] at this
      simp only [signs_app, signs_cons, List.length_append, sgs_len, List.length_cons] at this
      have := RS.l
      rw [e] at this
      simp only [List.length_append, List.length_cons] at this
      omega
    refine ⟨[some (rowD row), some (.tup ((signs (pre ++ [r])).map Sg.d)), some (.int r.col), some (.str r.txt), some (.str r.fnt), some (.int r.tms), e6, e7], S', ?_, rfl, _, _, _, _, _, _, rfl⟩
    have hc := comp_map (P := P) (call := run P n) (elt := .tup [.bin .Add (.var 2) (.var 6), .var 7, .var 4, .var 5]) (tg := .tup [.name 6, .name 7]) (ifs := []) (vs := [6, 7]) (env := [some (rowD row), some (.tup ((signs pre).map Sg.d)), some (.int r.col), some (.str r.txt), some (.str r.fnt), some (.int r.tms), e6, e7]) (S := S') (own := [])
      (xs := r.txt.zipIdx 0) (enc := fun p => .tup [.int p.2, .str [p.1]]) (fun p => D.tup [.int (r.col + (p.2 : Int)), .str [p.1], .str r.fnt, .int r.tms]) (fun p _ => by simp [compT, setTg, setTgs, wipeE]) rfl (by simp only [List.length_zipIdx]; show r.txt.length ≤ 16777216; omega)
    rw [sgs_zip] at hc
    have hadd : ((signs pre).map Sg.d).length + (r.sgs.map Sg.d).length ≤ SZ := by
      simp only [List.length_map, sgs_len]
      show _ ≤ 16777216
      omega
    have hadd := add_tup hadd
    simp only [Int.natCast_zero, Int.add_zero] at hc
    simp [setTg, setTgs, hc, hadd]
  · rintro env' S' ⟨rfl, e2, e3, e4, e5, e6, e7, rfl⟩
    simp
/-- columns of a font and stroke -/
theorem cols_comp {sg : List Sg} {e0 e1 e2 e6 e7 : Option D} {f : List Nat} {t : Int} (hl : sg.length ≤ 1000) : compR P (run P n) (.idx (.var 7) (.lit (.int (0)))) (.name 7) [.and (.val (.cmp .Eq (.idx (.var 7) (.lit (.int (2)))) (.var 4))) (.val (.cmp .GtE (.idx (.var 7) (.lit (.int (3)))) (.var 5)))] [7]
    [e0, e1, e2, some (.tup (sg.map Sg.d)), some (.str f), some (.int t), e6, e7] ⟨sg.map Sg.d, []⟩ S = .ok (.lst ((colsOf sg f t).map D.int)) S := by
  have hc := comp_filt (P := P) (call := run P n) (elt := .idx (.var 7) (.lit (.int (0)))) (tg := .name 7) (ifs := [.and (.val (.cmp .Eq (.idx (.var 7) (.lit (.int (2)))) (.var 4))) (.val (.cmp .GtE (.idx (.var 7) (.lit (.int (3)))) (.var 5)))]) (vs := [7]) (env := [e0, e1, e2, some (.tup (sg.map Sg.d)), some (.str f), some (.int t), e6, e7]) (S := S) (own := [])
    (xs := sg) (enc := Sg.d) (fun s => decide (s.fnt = f) && decide (t ≤ s.tms)) (fun s => .int s.col) (fun s _ => by
      by_cases h1 : s.fnt = f <;> by_cases h2 : t ≤ s.tms <;> simp [compT, setTg, wipeE, h1, h2]) rfl (by show _ ≤ 16777216; omega)
  rw [hc]
  simp [colsOf]
theorem minL_map (S : Sto) {l : List Int} (h : l ≠ []) : bfD S .minL [.lst (l.map D.int)] = some (.int (mnL l)) := by
  cases l with
  | nil => exact absurd rfl h
  | cons a r => simp only [minL_eq, ints_map]; rfl
theorem maxL_map (S : Sto) {l : List Int} (h : l ≠ []) : bfD S .maxL [.lst (l.map D.int)] = some (.int (mxL l)) := by
  cases l with
  | nil => exact absurd rfl h
  | cons a r => simp only [maxL_eq, ints_map]; rfl
theorem colsOf_len (sg : List Sg) (f : List Nat) (t : Int) : (colsOf sg f t).length ≤ sg.length := by
  unfold colsOf
  rw [List.length_map]
  exact List.length_filter_le _ _
theorem passes_of_ok (hR : P.defs[iR]? = some D_row_of) (hS : P.defs[iS]? = some D_signs_of) (hP : P.defs[iP]? = some (D_passes_of iS iR)) {pg : Pg} {k : Nat} {row : Row} (hk : pg[k]? = some row) (RS : Small row) :
    run P (n + 2) iP [pgD pg, .int (k : Int)] S = .ok (.tup ((passes row).map Ps.d)) S := by
  have hsg : (signs row).length ≤ 1000 := by have := Small.len RS.t; have := RS.l; omega
  -- one font and stroke
  have one : ∀ (acc : List Ps) (f : List Nat) (t : Int) (e6 e7 : Option D), acc.length ≤ 6 → ∃ e6',
      execs P (run P (n + 1)) [.asg (.name 6) (.comp (.idx (.var 7) (.lit (.int (0)))) (.name 7) (.seq (.var 3)) [.and (.val (.cmp .Eq (.idx (.var 7) (.lit (.int (2)))) (.var 4))) (.val (.cmp .GtE (.idx (.var 7) (.lit (.int (3)))) (.var 5)))] [7]), .ite (.val (.var 6)) [.asg (.name 2) (.bin .Add (.var 2) (.tup [.tup [.var 4, .var 5, .blt .minL [.var 6], .blt .maxL [.var 6]]]))] []]
        [some (pgD pg), some (.int (k : Int)), some (.tup (acc.map Ps.d)), some (.tup ((signs row).map Sg.d)), some (.str f), some (.int t), e6, e7] S
      = .next [some (pgD pg), some (.int (k : Int)), some (.tup ((acc ++ (passAt (signs row) (f, t)).toList).map Ps.d)), some (.tup ((signs row).map Sg.d)), some (.str f), some (.int t), e6', e7] S := by
    intro acc f t e6 e7 hacc
    refine ⟨some (.lst ((colsOf (signs row) f t).map D.int)), ?_⟩
    have hc := cols_comp (P := P) (n := n + 1) (S := S) (e0 := some (pgD pg)) (e1 := some (.int (k : Int))) (e2 := some (.tup (acc.map Ps.d))) (e6 := e6) (e7 := e7) (f := f) (t := t) hsg
    by_cases hn : colsOf (signs row) f t = []
    · rw [hn] at hc
      simp [hc, hn, passAt]
    · have hadd : (acc.map Ps.d).length + [Ps.d ⟨f, t, mnL (colsOf (signs row) f t), mxL (colsOf (signs row) f t)⟩].length ≤ SZ := by
        simp only [List.length_map, List.length_singleton]
        show _ ≤ 16777216
        omega
      have hadd := add_tup hadd
      have hne : ((colsOf (signs row) f t).map D.int).isEmpty = false := by
        cases hh : colsOf (signs row) f t with
        | nil => exact absurd hh hn
        | cons a b => rfl
      simp [hc, minL_map _ hn, maxL_map _ hn, hn, passAt, hadd]
  have tl : ∀ k, (passAt (signs row) k).toList.length ≤ 1 := fun k => by cases passAt (signs row) k <;> simp
  obtain ⟨a1, h1⟩ := one [] [97] 1 none none (by simp)
  obtain ⟨a2, h2⟩ := one _ [97] 2 a1 none (by have := tl ([97], 1); simp only [List.length_append, List.nil_append]; omega : ([] ++ (passAt (signs row) ([97], 1)).toList).length ≤ 6)
  obtain ⟨a3, h3⟩ := one _ [98] 1 a2 none (by have := tl ([97], 1); have := tl ([97], 2); simp only [List.length_append, List.nil_append]; omega : ([] ++ (passAt (signs row) ([97], 1)).toList ++ (passAt (signs row) ([97], 2)).toList).length ≤ 6)
  obtain ⟨a4, h4⟩ := one _ [98] 2 a3 none (by have := tl ([97], 1); have := tl ([97], 2); have := tl ([98], 1); simp only [List.length_append, List.nil_append]; omega : ([] ++ (passAt (signs row) ([97], 1)).toList ++ (passAt (signs row) ([97], 2)).toList ++ (passAt (signs row) ([98], 1)).toList).length ≤ 6)
  obtain ⟨a5, h5⟩ := one _ [99] 1 a4 none (by have := tl ([97], 1); have := tl ([97], 2); have := tl ([98], 1); have := tl ([98], 2); simp only [List.length_append, List.nil_append]; omega : ([] ++ (passAt (signs row) ([97], 1)).toList ++ (passAt (signs row) ([97], 2)).toList ++ (passAt (signs row) ([98], 1)).toList ++ (passAt (signs row) ([98], 2)).toList).length ≤ 6)
  obtain ⟨a6, h6⟩ := one _ [99] 2 a5 none (by have := tl ([97], 1); have := tl ([97], 2); have := tl ([98], 1); have := tl ([98], 2); have := tl ([99], 1); simp only [List.length_append, List.nil_append]; omega : ([] ++ (passAt (signs row) ([97], 1)).toList ++ (passAt (signs row) ([97], 2)).toList ++ (passAt (signs row) ([98], 1)).toList ++ (passAt (signs row) ([98], 2)).toList ++ (passAt (signs row) ([99], 1)).toList).length ≤ 6)
  have e : [] ++ (passAt (signs row) ([97], 1)).toList ++ (passAt (signs row) ([97], 2)).toList ++ (passAt (signs row) ([98], 1)).toList ++ (passAt (signs row) ([98], 2)).toList ++ (passAt (signs row) ([99], 1)).toList ++ (passAt (signs row) ([99], 2)).toList = passes row := by
    have f : ∀ (ks : List (List Nat × Int)), ks.filterMap (passAt (signs row)) = (ks.map fun k => (passAt (signs row) k).toList).flatten := by
      intro ks
      induction ks with
      | nil => rfl
      | cons k ks ih =>
        simp only [List.filterMap_cons, List.map_cons, List.flatten_cons, ← ih]
        cases passAt (signs row) k <;> simp
    rw [passes, f]
    simp
  rw [e] at h6
  rw [run_of hP rfl]
  generalize hb : ([.asg (.name 6) (.comp (.idx (.var 7) (.lit (.int (0)))) (.name 7) (.seq (.var 3)) [.and (.val (.cmp .Eq (.idx (.var 7) (.lit (.int (2)))) (.var 4))) (.val (.cmp .GtE (.idx (.var 7) (.lit (.int (3)))) (.var 5)))] [7]), .ite (.val (.var 6)) [.asg (.name 2) (.bin .Add (.var 2) (.tup [.tup [.var 4, .var 5, .blt .minL [.var 6], .blt .maxL [.var 6]]]))] []] : List St) = B at *
  simp only [List.map_nil, List.nil_append] at h1 h2 h3 h4 h5 h6
  simp [row_of_ok hR hk, signs_of_ok hS RS, forL, h1, h2, h3, h4, h5, h6, -List.map_append, -List.append_assoc]
end
end HW
/-! Ends, ways, times: what the program tells. -/
namespace HW
theorem cmp_eq_si (S : Sto) (a b : List Nat) (i j : Int) : cmpD S .Eq (.tup [.str a, .int i]) (.tup [.str b, .int j]) = some (decide (a = b) && decide (i = j)) := by
  rw [cmp_eq_flat _ rfl rfl (by simp [D.flat, D.flatL]) (by simp [D.flat, D.flatL]) (by simp [D.dep, D.depL]) (by simp [D.dep, D.depL])]
  simp only [D.eqv, D.eqvL]
  by_cases h1 : a = b <;> by_cases h2 : i = j <;> simp [h1, h2]
@[simp] theorem cut_3 {α : Type} (a b c d : α) : cut [a, b, c, d] none (some 3) = [a, b, c] := cut_len [a, b, c, d] 3
theorem due_snoc : ∀ (a : Pg) (r : Row) (k : Nat), dueFrom k (a ++ [r]) = dueFrom k a ++ rowDue (k + a.length) r
  | [], r, k => by simp [dueFrom]
  | x :: a, r, k => by
    have := due_snoc a r (k + 1)
    simp only [List.cons_append, dueFrom, this, List.length_cons, List.append_assoc]
    congr 3
    omega
theorem due_len (pg : Pg) (k : Nat) : (dueFrom k pg).length ≤ 6 * pg.length := by
  induction pg generalizing k with
  | nil => simp [dueFrom]
  | cons r pg ih =>
    have := ih (k + 1)
    have := passes_len r
    simp only [dueFrom, List.length_append, rowDue, List.length_map, List.length_cons]
    omega
theorem key_font {row : Row} {p : Ps} (h : p ∈ passes row) : ∃ c, p.fnt = [c] := by
  have := (mem_passes.mp h).1
  simp only [keys6, Ps.key, List.mem_cons, Prod.mk.injEq, List.not_mem_nil, or_false] at this
  rcases this with h | h | h | h | h | h <;> exact ⟨_, h.1⟩
theorem ex_one {P : Prog} {call : Call} {s : St} {ss : List St} {E1 E2 : Env} {S1 S2 : Sto} (h : execS P call s E1 S1 = .next E2 S2) : execs P call (s :: ss) E1 S1 = execs P call ss E2 S2 := by rw [ex_cons, h, then_next]
theorem for_len {α : Type} {enc : α → D} {xs : List α} {P : Prog} {call : Call} {i : Nat} {env : Env} {S : Sto} {tg : Tg} {body : List St} (h : slot env i S = .ok (.tup (xs.map enc)) S) (hl : xs.length ≤ 1000) :
    execS P call (.for tg (.rng1 (.blt .len [.var i])) body) env S = forL [] (forT P call tg body) (rangeD 0 xs.length) env S := by
  rw [ex_for, ev_rng1, ev_blt _ _ (by simp), ev_l1, ev_var, h, bind_ok, ev_l0, bind_ok, bind_ok, len_tup, List.length_map, R.of_some, bind_ok, rngR_ok (by omega) (by omega), R.stm_ok]
  rfl
theorem app_set {S : Sto} {a b : Ob} : (S ++ [a]).set S.length b = S ++ [b] := by
  rw [List.set_append_right _ _ (Nat.le_refl _)]
  simp
section
variable {P : Prog} {n iR iS iP iE iW iN : Nat} {S : Sto}
/-- row_of, signs_of, passes_of -/
structure HasP (P : Prog) (iR iS iP : Nat) : Prop where
  r : P.defs[iR]? = some D_row_of
  s : P.defs[iS]? = some D_signs_of
  p : P.defs[iP]? = some (D_passes_of iS iR)
variable (HP : HasP P iR iS iP)
include HP
theorem ends_of_ok (hE : P.defs[iE]? = some (D_ends_of iP)) {pg : Pg} {k : Nat} {row : Row} (hk : pg[k]? = some row) (RS : Small row) {f : List Nat} {t : Int} {l : Bool} {e : Int × Int} (he : endsIn row f t l = some e) :
    run P (n + 3) iE [pgD pg, .tup [.int (k : Int), .str f, .int t, .bl l]] S = .ok (.tup [.int e.1, .int e.2]) S := by
  have key : ∀ (ps : List Ps) (e6 e7 e8 e9 : Option D), ((ps.find? fun q => decide (q.fnt = f) && decide (q.trn = t)).map fun p => p.ends l) = some e →
      forL [] (forT P (run P (n + 2)) (.tup [.name 6, .name 7, .name 8, .name 9]) [.ite (.val (.cmp .Eq (.tup [.var 6, .var 7]) (.tup [.var 3, .var 4]))) [.ite (.val (.var 5)) [.ret (.tup [.bin .Add (.var 9) (.lit (.int (1))), .var 8])] [], .ret (.tup [.var 8, .bin .Add (.var 9) (.lit (.int (1)))])] []]) (ps.map Ps.d)
        [some (pgD pg), some (.tup [.int (k : Int), .str f, .int t, .bl l]), some (.int (k : Int)), some (.str f), some (.int t), some (.bl l), e6, e7, e8, e9] S = .ret (.tup [.int e.1, .int e.2]) S := by
    intro ps
    induction ps with
    | nil => intro e6 e7 e8 e9 h; simp at h
    | cons p ps ih =>
      intro e6 e7 e8 e9 h
      by_cases hp : p.fnt = f ∧ p.trn = t
      · have hh : (decide (p.fnt = f) && decide (p.trn = t)) = true := by simp [hp]
        simp only [List.find?_cons, hh, Option.map_some, Option.some.injEq] at h
        subst h
        cases l with
        | true => simp [forL, setTg, setTgs, cmp_eq_si, hp, Ps.ends]
        | false => simp [forL, setTg, setTgs, cmp_eq_si, hp, Ps.ends]
      · have hh : (decide (p.fnt = f) && decide (p.trn = t)) = false := by
          by_cases h1 : p.fnt = f <;> by_cases h2 : p.trn = t <;> simp [h1, h2]
          exact hp ⟨h1, h2⟩
        simp only [List.find?_cons, hh] at h
        have := ih (some (.str p.fnt)) (some (.int p.trn)) (some (.int p.lo)) (some (.int p.hi)) h
        simp [forL, setTg, setTgs, cmp_eq_si, hh, this]
  have := key (passes row) none none none none he
  rw [run_of hE rfl]
  simp [passes_of_ok HP.r HP.s HP.p hk RS, this]
omit HP in
theorem way_sorted {pg : Pg} {way : List Sp} (W : WayFrom 0 pg way) (hwl : way.length ≤ 36) (S' : Sto) : sortedD S' (.lst ((way.map Sp.tri).map Tr.d)) = some (.lst ((due pg).map Tr.d)) := by
  have sz : ∀ k : Nat, k ≤ 1000 → k ≤ SZ := fun k h => by show k ≤ 16777216; omega
  have hfont : ∀ t ∈ way.map Sp.tri, ∃ c, t.fnt = [c] := by
    intro t ht
    obtain ⟨s, hs, rfl⟩ := List.mem_map.mp ht
    obtain ⟨_, _, row, p, _, h2, h3, _⟩ := way_mem W hs
    obtain ⟨c, hc⟩ := key_font h2
    exact ⟨c, by show s.fnt = [c]; rw [← h3]; exact hc⟩
  have hat : ∀ t ∈ way.map Sp.tri, Tr.d t = .tup (([.i t.row, .c (t.fnt.headD 0), .i t.trn] : List At).map At.d) ∧ ([.i t.row, .c (t.fnt.headD 0), .i t.trn] : List At).map At.k = [0, 1, 0] := by
    intro t ht
    obtain ⟨c, hc⟩ := hfont t ht
    simp [At.d, At.k, Tr.d, hc]
  have so : sortD ((way.map Sp.tri).map Tr.d) = (due pg).map Tr.d := by
    refine sortD_at (fun t : Tr => [.i t.row, .c (t.fnt.headD 0), .i t.trn]) [0, 1, 0] hat (fun a ha b hb h => ?_) (way_perm W) ?_
    · obtain ⟨x, hx⟩ := hfont a ha
      obtain ⟨y, hy⟩ := hfont b hb
      obtain ⟨r1, f1, t1⟩ := a
      obtain ⟨r2, f2, t2⟩ := b
      simp only at hx hy
      subst hx hy
      simp [At.v] at h
      simp
      omega
    · refine (due_pw pg 0).imp fun {a b} h => ?_
      simpa [Tr.code, fc, At.v] using h.1
  have sb := sortable_at (fun t : Tr => [.i t.row, .c (t.fnt.headD 0), .i t.trn]) [0, 1, 0] hat (by simp) (sz _ (by rw [List.length_map]; omega))
  simp only [sortedD, vw, sb, so, if_true]
omit HP in
theorem rows_sorted {pg : Pg} {way : List Sp} (W : WayFrom 0 pg way) (hwl : way.length ≤ 36) (S' : Sto) : sortedD S' (.lst ((way.map fun s => (s.row : Int)).map D.int)) = some (.lst ((way.map fun s => (s.row : Int)).map D.int)) := by
  have sz : ∀ k : Nat, k ≤ 1000 → k ≤ SZ := fun k h => by show k ≤ 16777216; omega
  have sb := sortable_int id (xs := way.map fun s => (s.row : Int)) (sz _ (by rw [List.length_map]; omega))
  have so := sortD_int (List.Perm.refl (way.map fun s => (s.row : Int))) (by
    rw [List.pairwise_map]
    exact (way_rows W).imp fun h => by omega)
  have : sortable ((way.map fun s => (s.row : Int)).map D.int) = true := sb
  simp only [sortedD, vw]
  rw [if_pos this, so]
omit HP in
theorem way_form {pg : Pg} {way : List Sp} (S : Sto) : ∃ e2, forL [] (forT P (run P (n + 2)) (.name 2) (bodyOf ((D_is_way iP).body.getD 1 .nope))) (way.map Sp.d) [some (pgD pg), some (wayD way), none, none, none, none, none, none, none, none] S
    = .next [some (pgD pg), some (wayD way), e2, none, none, none, none, none, none, none] S := by
  have l1 := for_pre (own := []) (xs := way) (enc := Sp.d) (turn := forT P (run P (n + 2)) (.name 2) (bodyOf ((D_is_way iP).body.getD 1 .nope))) (env := [some (pgD pg), some (wayD way), none, none, none, none, none, none, none, none]) (S := S)
    (fun pre env S' => S' = S ∧ ∃ e2, env = [some (pgD pg), some (wayD way), e2, none, none, none, none, none, none, none]) (fun _ _ _ _ => rfl) ⟨rfl, _, rfl⟩ (by
      rintro pre s post env S' e ⟨rfl, e2, rfl⟩
      exact ⟨[some (pgD pg), some (wayD way), some s.d, none, none, none, none, none, none, none], S', by simp [D_is_way, bodyOf], rfl, _, rfl⟩)
  obtain ⟨env1, S1, hl1, rfl, e2, rfl⟩ := l1
  exact ⟨e2, hl1⟩
theorem way_due {pg : Pg} {w : Int} (G : PgOk w pg) {way : List Sp} (S1 : Sto) (e2 : Option D) : ∃ e4 e5 e6 e7 e8, forL [] (forT P (run P (n + 2)) (.name 4) (bodyOf ((D_is_way iP).body.getD 3 .nope))) (rangeD 0 pg.length) [some (pgD pg), some (wayD way), e2, some (.ref S1.length), none, none, none, none, none, none] (S1 ++ [.lst []])
    = .next [some (pgD pg), some (wayD way), e2, some (.ref S1.length), e4, e5, e6, e7, e8, none] (S1 ++ [.lst ((due pg).map Tr.d)]) := by
  have sz : ∀ k : Nat, k ≤ 1000 → k ≤ SZ := fun k h => by show k ≤ 16777216; omega
  have l2 := forL_inv (items := rangeD 0 pg.length) (turn := forT P (run P (n + 2)) (.name 4) (bodyOf ((D_is_way iP).body.getD 3 .nope))) (env := [some (pgD pg), some (wayD way), e2, some (.ref S1.length), none, none, none, none, none, none]) (S := S1 ++ [.lst []])
    (fun i env S' => S' = S1 ++ [.lst ((dueFrom 0 (pg.take i)).map Tr.d)] ∧ ∃ e4 e5 e6 e7 e8, env = [some (pgD pg), some (wayD way), e2, some (.ref S1.length), e4, e5, e6, e7, e8, none]) ⟨by simp [dueFrom], _, _, _, _, _, rfl⟩ (by
      rintro i d env S' hd ⟨rfl, e4, e5, e6, e7, e8, rfl⟩
      have hi : i < pg.length := by
        have := (List.getElem?_eq_some_iff.mp hd).1
        rw [rangeD_len] at this
        exact this
      have hdi : d = .int (i : Int) := by
        rw [range_map] at hd
        simp [hi] at hd
        exact hd.symm
      subst hdi
      have hk : pg[i]? = some pg[i] := by simp [hi]
      have RS := (G.r pg[i] (List.getElem_mem hi)).small
      have hc := comp_map (P := P) (call := run P (n + 2)) (elt := .tup [.var 4, .var 5, .var 6]) (tg := .tup [.name 5, .name 6, .name 7, .name 8]) (ifs := []) (vs := [5, 6, 7, 8]) (env := [some (pgD pg), some (wayD way), e2, some (.ref S1.length), some (.int (i : Int)), e5, e6, e7, e8, none]) (S := S1 ++ [.lst ((dueFrom 0 (pg.take i)).map Tr.d)]) (own := [])
        (xs := passes pg[i]) (enc := Ps.d) (fun p => Tr.d ⟨i, p.fnt, p.trn⟩) (fun p _ => by simp [compT, setTg, setTgs, wipeE]) rfl (sz _ (by have := passes_len pg[i]; omega))
      have e : (passes pg[i]).map (fun p => Tr.d ⟨i, p.fnt, p.trn⟩) = (rowDue i pg[i]).map Tr.d := by simp [rowDue]
      rw [e] at hc
      have hgt : (S1 ++ [Ob.lst ((dueFrom 0 (pg.take i)).map Tr.d)])[S1.length]? = some (.lst ((dueFrom 0 (pg.take i)).map Tr.d)) := by simp
      have hx := extend_ok (ys := (rowDue i pg[i]).map Tr.d) _ hgt (sz _ (by
        have h1 := due_len (pg.take i) 0
        have h2 := passes_len pg[i]
        have h3 := G.l
        simp only [List.length_map, rowDue, List.length_take] at *
        omega))
      rw [app_set, ← List.map_append] at hx
      have e3 : dueFrom 0 (pg.take i) ++ rowDue i pg[i] = dueFrom 0 (pg.take (i + 1)) := by
        rw [List.take_succ_eq_append_getElem hi, due_snoc]
        simp [Nat.min_eq_left (Nat.le_of_lt hi)]
      rw [e3] at hx
      refine ⟨[some (pgD pg), some (wayD way), e2, some (.ref S1.length), some (.int (i : Int)), e5, e6, e7, e8, none], _, ?_, rfl, _, _, _, _, _, rfl⟩
      · simp [D_is_way, bodyOf, (kind_l _ hgt).2.1, passes_of_ok HP.r HP.s HP.p hk RS, hc, hx])
  obtain ⟨env2, S2, hl2, rfl, e4, e5, e6, e7, e8, rfl⟩ := l2
  rw [rangeD_len, List.take_length] at hl2
  exact ⟨e4, e5, e6, e7, e8, hl2⟩
theorem way_tail {pg : Pg} {way : List Sp} (W : WayFrom 0 pg way) (hwl : way.length ≤ 36) (S1 : Sto) (e2 e4 e5 e6 e7 e8 : Option D) :
    endR (execs P (run P (n + 2)) ((D_is_way iP).body.drop 4) [some (pgD pg), some (wayD way), e2, some (.ref S1.length), e4, e5, e6, e7, e8, none] (S1 ++ [.lst ((due pg).map Tr.d)])) = .ok (.bl true) (S1 ++ [.lst ((due pg).map Tr.d)]) := by
  have sz : ∀ k : Nat, k ≤ 1000 → k ≤ SZ := fun k h => by show k ≤ 16777216; omega
  have hgt : (S1 ++ [Ob.lst ((due pg).map Tr.d)])[S1.length]? = some (.lst ((due pg).map Tr.d)) := by simp
  -- sorted
  have c1 : ∀ e9 S', compR P (run P (n + 2)) (.slc (.var 2) none (some (.lit (.int (3))))) (.name 2) [] [2] [some (pgD pg), some (wayD way), e2, some (.ref S1.length), e4, e5, e6, e7, e8, e9] ⟨way.map Sp.d, []⟩ S' = .ok (.lst ((way.map Sp.tri).map Tr.d)) S' := fun e9 S' => by
    have := comp_map (P := P) (call := run P (n + 2)) (elt := .slc (.var 2) none (some (.lit (.int (3))))) (tg := .name 2) (ifs := []) (vs := [2]) (env := [some (pgD pg), some (wayD way), e2, some (.ref S1.length), e4, e5, e6, e7, e8, e9]) (S := S') (own := []) (xs := way) (enc := Sp.d) (fun s => Tr.d s.tri) (fun p _ => by simp [compT, setTg, wipeE]) rfl (sz _ (by omega))
    rw [this]
    simp
  have srt := way_sorted W hwl
  have fd : Fl (.lst ((due pg).map Tr.d)) := fl_lst (fun x => (Tr.fl x).1) (fun x => (Tr.fl x).2) (by decide) _
  have ne : cmpD (S1 ++ [Ob.lst ((due pg).map Tr.d)]) .NotEq (.lst ((due pg).map Tr.d)) (.ref S1.length) = some false := by
    have hv : vw (S1 ++ [Ob.lst ((due pg).map Tr.d)]) (.ref S1.length) = .lst ((due pg).map Tr.d) := by simp only [vw, hgt]
    have := ne_self (S1 ++ [Ob.lst ((due pg).map Tr.d)]) fd
    simp only [cmpD, hv] at this ⊢
    exact this
  -- rows
  have c2 : ∀ e9 S', compR P (run P (n + 2)) (.idx (.var 2) (.lit (.int (0)))) (.name 2) [] [2] [some (pgD pg), some (wayD way), e2, some (.ref S1.length), e4, e5, e6, e7, e8, e9] ⟨way.map Sp.d, []⟩ S' = .ok (.lst ((way.map fun s => (s.row : Int)).map D.int)) S' := fun e9 S' => by
    have := comp_map (P := P) (call := run P (n + 2)) (elt := .idx (.var 2) (.lit (.int (0)))) (tg := .name 2) (ifs := []) (vs := [2]) (env := [some (pgD pg), some (wayD way), e2, some (.ref S1.length), e4, e5, e6, e7, e8, e9]) (S := S') (own := []) (xs := way) (enc := Sp.d) (fun s => D.int (s.row : Int)) (fun p _ => by simp [compT, setTg, wipeE]) rfl (sz _ (by omega))
    rw [this]
    simp
  have srt2 := rows_sorted W hwl
  have fr : Fl (.lst ((way.map fun s => (s.row : Int)).map D.int)) := fl_lst (k := 0) (fun x => rfl) (fun x => by simp [D.dep]) (by decide) _
  simp only [D_is_way, List.drop_succ_cons, List.drop_zero]
  simp [c1, srt, ne, -List.map_map]
  simp [c2, srt2, eq_self _ fr, -List.map_map]
omit HP in
theorem way_head {pg : Pg} {way : List Sp} {B1 B3 : List St} {call : Call} {e2 e4 e5 e6 e7 e8 : Option D} {S S' : Sto} (hl : pg.length ≤ 6) (hl1 : forL [] (forT P call (.name 2) B1) (way.map Sp.d) [some (pgD pg), some (wayD way), none, none, none, none, none, none, none, none] S
    = .next [some (pgD pg), some (wayD way), e2, none, none, none, none, none, none, none] S) (hl2 : forL [] (forT P call (.name 4) B3) (rangeD 0 pg.length) [some (pgD pg), some (wayD way), e2, some (.ref S.length), none, none, none, none, none, none] (S ++ [.lst []])
    = .next [some (pgD pg), some (wayD way), e2, some (.ref S.length), e4, e5, e6, e7, e8, none] S') :
    execs P call [.ite (.not (.val (.blt .isTuple [.var 1]))) [.ret (.lit (.bl false))] [], .for (.name 2) (.seq (.var 1)) B1, .asg (.name 3) (.newL []), .for (.name 4) (.rng1 (.blt .len [.var 0])) B3] [some (pgD pg), some (wayD way), none, none, none, none, none, none, none, none] S
      = .next [some (pgD pg), some (wayD way), e2, some (.ref S.length), e4, e5, e6, e7, e8, none] S' := by
  have a1 : execS P call (.ite (.not (.val (.blt .isTuple [.var 1]))) [.ret (.lit (.bl false))] []) [some (pgD pg), some (wayD way), none, none, none, none, none, none, none, none] S = .next [some (pgD pg), some (wayD way), none, none, none, none, none, none, none, none] S := by simp
  have a2 : execS P call (.for (.name 2) (.seq (.var 1)) B1) [some (pgD pg), some (wayD way), none, none, none, none, none, none, none, none] S = .next [some (pgD pg), some (wayD way), e2, none, none, none, none, none, none, none] S := by simp [hl1]
  have a3 : execS P call (.asg (.name 3) (.newL [])) [some (pgD pg), some (wayD way), e2, none, none, none, none, none, none, none] S = .next [some (pgD pg), some (wayD way), e2, some (.ref S.length), none, none, none, none, none, none] (S ++ [.lst []]) := by simp
  have a4 : execS P call (.for (.name 4) (.rng1 (.blt .len [.var 0])) B3) [some (pgD pg), some (wayD way), e2, some (.ref S.length), none, none, none, none, none, none] (S ++ [.lst []]) = .next [some (pgD pg), some (wayD way), e2, some (.ref S.length), e4, e5, e6, e7, e8, none] S' := (for_len (xs := pg) (enc := rowD) rfl (by omega)).trans hl2
  exact (ex_one a1).trans ((ex_one a2).trans ((ex_one a3).trans ((ex_one a4).trans ex_nil)))
theorem is_way_ok (hW : P.defs[iW]? = some (D_is_way iP)) {pg : Pg} {w : Int} (G : PgOk w pg) {way : List Sp} (W : WayFrom 0 pg way) : run P (n + 3) iW [pgD pg, wayD way] S = .ok (.bl true) S := by
  have hwl : way.length ≤ 36 := by have := way_len W; have := G.l; omega
  obtain ⟨e2, hl1⟩ := way_form (P := P) (n := n) (iP := iP) (pg := pg) (way := way) S
  obtain ⟨e4, e5, e6, e7, e8, hl2⟩ := way_due (n := n) HP G (way := way) S e2
  have tl := way_tail (n := n) HP W hwl S e2 e4 e5 e6 e7 e8
  have h0 := way_head G.l hl1 hl2
  refine run_gcs (G := [.lst ((due pg).map Tr.d)]) hW rfl rfl ?_
  have hB : (D_is_way iP).body = [.ite (.not (.val (.blt .isTuple [.var 1]))) [.ret (.lit (.bl false))] [], .for (.name 2) (.seq (.var 1)) (bodyOf ((D_is_way iP).body.getD 1 .nope)), .asg (.name 3) (.newL []), .for (.name 4) (.rng1 (.blt .len [.var 0])) (bodyOf ((D_is_way iP).body.getD 3 .nope))] ++ (D_is_way iP).body.drop 4 := rfl
  show endR (execs P (run P (n + 2)) (D_is_way iP).body [some (pgD pg), some (wayD way), none, none, none, none, none, none, none, none] S) = _
  rw [hB, ex_app, h0, then_next]
  exact tl
theorem need_way_ok (hW : P.defs[iW]? = some (D_is_way iP)) (hN : P.defs[iN]? = some (D_need_way iW)) {pg : Pg} {w : Int} (G : PgOk w pg) {way : List Sp} (W : WayFrom 0 pg way) : run P (n + 4) iN [pgD pg, wayD way] S = .ok .non S := by
  rw [run_of hN rfl]
  simp [is_way_ok HP hW G W]
end
end HW
/-! Stands, times: what the program tells. -/
namespace HW
abbrev stO (t : Stt) (beats : Int) : Ob := .ins 1 [(1, .int t.pl), (2, .int t.rw), (3, .str t.ft), (4, .int beats)]
/-- ends_of, is_way, Stand, need_way, times_of, time_of -/
structure HasW (P : Prog) (iR iS iP iW iE iI iD iN iTs iT : Nat) : Prop extends HasP P iR iS iP where
  w : P.defs[iW]? = some (D_is_way iP)
  e : P.defs[iE]? = some (D_ends_of iP)
  i : P.init.lookup 1 = some iI
  dI : P.defs[iI]? = some D_Stand_init
  d : P.meth.lookup (1, 0) = some iD
  dD : P.defs[iD]? = some (D_Stand_do iE)
  n : P.defs[iN]? = some (D_need_way iW)
  ts : P.defs[iTs]? = some (D_times_of iN)
  t : P.defs[iT]? = some (D_time_of iTs)
section
variable {P : Prog} {iR iS iP iW iE iI iD iN iTs iT n : Nat} {S : Sto} (H : HasW P iR iS iP iW iE iI iD iN iTs iT)
include H
theorem ends_ok {w : Int} {pg : Pg} (G : PgOk w pg) {way : List Sp} (W : WayFrom 0 pg way) {s : Sp} (hs : s ∈ way) : run P (n + 3) iE [pgD pg, s.d] S = .ok (.tup [.int (endsAt pg s).1, .int (endsAt pg s).2]) S := by
  obtain ⟨row, p, h1, h2, h3, h4, h5, h6⟩ := way_ends W hs
  rw [h6]
  exact ends_of_ok H.toHasP H.e h1 (G.r row (List.mem_of_getElem? h1)).small h5
theorem sinit_ok {p : Nat} (hS : S[p]? = some (.ins 1 [])) : run P (n + 1) iI [.ref p] S = .ok .non (S.set p (stO st0 0)) := by
  rw [run_of H.dI rfl]
  simp [D_Stand_init, fldS_ok hS, fldS_ok (set_get hS), fputD]
theorem smk_ok : mkR P (run P (n + 1)) 1 [] S = .ok (.ref S.length) (S ++ [stO st0 0]) := by
  have h := sinit_ok H (n := n) (S := S ++ [.ins 1 []]) (p := S.length) (by simp)
  rw [app_set] at h
  exact mkR_ok H.i h
theorem sdo_ok {w b fd c : Int} (M : MchOk w b fd c) {pg : Pg} (G : PgOk w pg) {way : List Sp} (W : WayFrom 0 pg way) {s : Sp} (hs : s ∈ way) {p : Nat} {t : Stt} {beats : Int} (hS : S[p]? = some (stO t beats)) :
    run P (n + 4) iD [.ref p, mch w b fd c, pgD pg, s.d] S = .ok .non (S.set p (stO (stAf pg s) (beats + stepC b fd c pg t s))) := by
  have he := ends_ok H (n := n) (S := S) G W hs
  have hm : ∀ j, mulOk fd j = true := fun j => mul_ok M.f1 (by have := M.f2; omega)
  have hm2 : ∀ j, mulOk b j = true := fun j => mul_ok (by have := M.b1; omega) (by have := M.b2; omega)
  rw [run_of H.dD rfl]
  generalize he1 : (endsAt pg s).1 = x at he
  generalize he2 : (endsAt pg s).2 = y at he
  have hc : ∀ z : Int, beats + stepC b fd c pg t s = beats + mx (ab (x - t.pl)) (fd * ((s.row : Int) - t.rw)) + (if s.fnt = t.ft then 0 else c) + b * ab (y - x) := by
    intro _
    simp only [stepC, he1, he2]
    omega
  rw [hc 0]
  by_cases hf : s.fnt = t.ft
  · simp [D_Stand_do, he, fldR_ok hS, fldR_ok (set_get hS), fldS_ok hS, fldS_ok (set_get hS), fgetD, fputD, List.lookup, mul_int, hm, hm2, hf, he2, stO, stAf]
  · simp [D_Stand_do, he, fldR_ok hS, fldR_ok (set_get hS), fldS_ok hS, fldS_ok (set_get hS), fgetD, fputD, List.lookup, mul_int, hm, hm2, hf, he2, stO, stAf]
theorem times_of_ok {w b fd c : Int} (M : MchOk w b fd c) {pg : Pg} (G : PgOk w pg) {way : List Sp} (W : WayFrom 0 pg way) :
    run P (n + 5) iTs [mch w b fd c, pgD pg, wayD way] S = .ok (.tup ((sums 0 (costs b fd c pg st0 way)).map D.int)) S := by
  have hwl : way.length ≤ 36 := by have := way_len W; have := G.l; omega
  have loop := for_pre (own := []) (xs := way) (enc := Sp.d) (turn := forT P (run P (n + 4)) (.name 5) (bodyOf ((D_times_of iN).body.getD 3 .nope))) (env := [some (mch w b fd c), some (pgD pg), some (wayD way), some (.ref S.length), some (.tup []), none]) (S := S ++ [stO st0 0])
    (fun pre env S' => S' = S ++ [stO (sttEnd pg st0 pre) ((costs b fd c pg st0 pre).sum)] ∧ ∃ e5, env = [some (mch w b fd c), some (pgD pg), some (wayD way), some (.ref S.length), some (.tup ((sums 0 (costs b fd c pg st0 pre)).map D.int)), e5]) (fun _ _ _ _ => rfl) ⟨rfl, _, rfl⟩ (by
      rintro pre s post env S' e ⟨rfl, e5, rfl⟩
      have hs : s ∈ way := by rw [e]; simp
      have hS : (S ++ [stO (sttEnd pg st0 pre) ((costs b fd c pg st0 pre).sum)])[S.length]? = some (stO (sttEnd pg st0 pre) ((costs b fd c pg st0 pre).sum)) := by simp
      have hd := sdo_ok H (n := n) M G W hs hS
      rw [app_set] at hd
      have hS2 : (S ++ [stO (stAf pg s) ((costs b fd c pg st0 pre).sum + stepC b fd c pg (sttEnd pg st0 pre) s)])[S.length]? = some (stO (stAf pg s) ((costs b fd c pg st0 pre).sum + stepC b fd c pg (sttEnd pg st0 pre) s)) := by simp
      have hadd : ((sums 0 (costs b fd c pg st0 pre)).map D.int).length + [D.int ((costs b fd c pg st0 pre).sum + stepC b fd c pg (sttEnd pg st0 pre) s)].length ≤ SZ := by
        have : way.length = pre.length + (post.length + 1) := by rw [e]; simp
        simp only [List.length_map, sums_len, costs_len, List.length_singleton]
        show _ ≤ 16777216
        omega
      have hadd := add_tup hadd
      refine ⟨[some (mch w b fd c), some (pgD pg), some (wayD way), some (.ref S.length), some (.tup ((sums 0 (costs b fd c pg st0 (pre ++ [s]))).map D.int)), some s.d], S ++ [stO (stAf pg s) ((costs b fd c pg st0 pre).sum + stepC b fd c pg (sttEnd pg st0 pre) s)], ?_, ?_, _, rfl⟩
      · have e1 : (sums 0 (costs b fd c pg st0 (pre ++ [s]))).map D.int = (sums 0 (costs b fd c pg st0 pre)).map D.int ++ [D.int ((costs b fd c pg st0 pre).sum + stepC b fd c pg (sttEnd pg st0 pre) s)] := by
          rw [costs_app, sums_app]
          simp [costs, sums]
        rw [e1]
        simp [D_times_of, bodyOf, invR_ok hS H.d, hd, fldR_ok hS2, fgetD, List.lookup, hadd]
      · rw [costs_app, sttEnd_app]
        simp [costs, sttEnd])
  obtain ⟨env', S', hl, rfl, e5, rfl⟩ := loop
  refine run_gcs (G := [stO (sttEnd pg st0 way) ((costs b fd c pg st0 way).sum)]) H.ts rfl (by simpa [D.flat] using flat_map (fun _ => rfl) _) ?_
  have hn := need_way_ok (n := n) (S := S) H.toHasP H.w H.n G W
  have hmk := smk_ok H (n := n + 3) (S := S)
  have a1 : execS P (run P (n + 4)) (.expr (.call iN [.var 1, .var 2])) [some (mch w b fd c), some (pgD pg), some (wayD way), none, none, none] S = .next [some (mch w b fd c), some (pgD pg), some (wayD way), none, none, none] S := by simp [hn]
  have a2 : execS P (run P (n + 4)) (.asg (.name 3) (.mk 1 [])) [some (mch w b fd c), some (pgD pg), some (wayD way), none, none, none] S = .next [some (mch w b fd c), some (pgD pg), some (wayD way), some (.ref S.length), none, none] (S ++ [stO st0 0]) := by simp [hmk]
  have a3 : execS P (run P (n + 4)) (.asg (.name 4) (.tup [])) [some (mch w b fd c), some (pgD pg), some (wayD way), some (.ref S.length), none, none] (S ++ [stO st0 0]) = .next [some (mch w b fd c), some (pgD pg), some (wayD way), some (.ref S.length), some (.tup []), none] (S ++ [stO st0 0]) := by simp
  have a4 : execS P (run P (n + 4)) (.for (.name 5) (.seq (.var 2)) (bodyOf ((D_times_of iN).body.getD 3 .nope))) [some (mch w b fd c), some (pgD pg), some (wayD way), some (.ref S.length), some (.tup []), none] (S ++ [stO st0 0]) = .next [some (mch w b fd c), some (pgD pg), some (wayD way), some (.ref S.length), some (.tup ((sums 0 (costs b fd c pg st0 way)).map D.int)), e5] (S ++ [stO (sttEnd pg st0 way) ((costs b fd c pg st0 way).sum)]) := by
    rw [ex_for, ev_seq, ev_var]
    exact hl
  show endR (execs P (run P (n + 4)) [_, _, _, _, _] [some (mch w b fd c), some (pgD pg), some (wayD way), none, none, none] S) = _
  rw [ex_one a1, ex_one a2, ex_one a3]
  refine (congrArg endR (ex_one a4)).trans ?_
  simp
omit H in
theorem atI_last {α : Type} (l : List α) (h : l ≠ []) : L2.atI l (-1) = some (l.getLast h) := by
  have hl : 0 < l.length := List.length_pos_iff.mpr h
  have e : ((-1 : Int) + (l.length : Int)).toNat = l.length - 1 := by omega
  unfold L2.atI L2.ixN
  rw [if_neg (by omega), if_pos (by omega)]
  simp only [Option.bind_some]
  rw [List.getLast_eq_getElem]
  simp [e, hl]
omit H in
theorem last_sum (l : List Int) : L2.atI (D.int 0 :: (sums 0 l).map D.int) (-1) = some (.int l.sum) := by
  have e : D.int 0 :: (sums 0 l).map D.int = (0 :: sums 0 l).map D.int := rfl
  have h2 := sums_last l 0
  rw [e, atI_last _ (by simp), List.getLast_map, h2]
  simp
theorem time_of_ok {w b fd c : Int} (M : MchOk w b fd c) {pg : Pg} (G : PgOk w pg) {way : List Sp} (W : WayFrom 0 pg way) :
    run P (n + 6) iT [mch w b fd c, pgD pg, wayD way] S = .ok (.int (costs b fd c pg st0 way).sum) S := by
  have hwl : way.length ≤ 36 := by have := way_len W; have := G.l; omega
  have ht := times_of_ok H (n := n) (S := S) M G W
  have hadd : ([D.int 0]).length + ((sums 0 (costs b fd c pg st0 way)).map D.int).length ≤ SZ := by
    simp only [List.length_map, sums_len, costs_len, List.length_singleton]
    show _ ≤ 16777216
    omega
  have hadd := add_tup hadd
  rw [run_of H.t rfl]
  simp [D_time_of, ht, hadd, last_sum]
end
end HW
/-! Told ways: all to the right, to and fro, by the nearer end. -/
namespace HW
abbrev Tr.sp (t : Tr) (l : Bool) : Sp := ⟨t.row, t.fnt, t.trn, l⟩
theorem told_way : ∀ {pg : Pg} {k : Nat} {way : List Sp}, way.map Sp.tri = dueFrom k pg → WayFrom k pg way
  | [], k, way, h => by
    simp only [dueFrom, List.map_eq_nil_iff] at h
    subst h
    exact .nil
  | r :: rs, k, way, h => by
    simp only [dueFrom] at h
    obtain ⟨a, b, rfl, h1, h2⟩ := List.map_eq_append_iff.mp h
    exact .cons (by rw [h1]) (told_way h2)
def rightW (pg : Pg) : List Sp := (due pg).map fun t => t.sp false
def froW (pg : Pg) : List Sp := ((due pg).zipIdx 0).map fun p => p.1.sp (decide ((p.2 : Int) % 2 = 1))
def nearS (pg : Pg) (pl : Int) (t : Tr) : Sp := t.sp (decide (ab ((endsAt pg (t.sp true)).1 - pl) < ab ((endsAt pg (t.sp false)).1 - pl)))
def nearF (pg : Pg) : Int → List Tr → List Sp
  | _, [] => []
  | pl, t :: r => nearS pg pl t :: nearF pg (endsAt pg (nearS pg pl t)).2 r
def nearE (pg : Pg) : Int → List Tr → Int
  | pl, [] => pl
  | pl, t :: r => nearE pg (endsAt pg (nearS pg pl t)).2 r
def nearW (pg : Pg) : List Sp := nearF pg 0 (due pg)
theorem right_tri (pg : Pg) : (rightW pg).map Sp.tri = due pg := by simp [rightW, Function.comp_def]
theorem fro_tri (pg : Pg) : (froW pg).map Sp.tri = due pg := by
  simp only [froW, List.map_map, Function.comp_def]
  have : ∀ (l : List Tr) (k : Nat), (l.zipIdx k).map (fun p => (p.1.sp (decide ((p.2 : Int) % 2 = 1))).tri) = l := by
    intro l
    induction l with
    | nil => intro k; rfl
    | cons a l ih => intro k; simp only [List.zipIdx_cons, List.map_cons, ih]
  exact this _ 0
theorem nearF_tri (pg : Pg) : ∀ (l : List Tr) (pl : Int), (nearF pg pl l).map Sp.tri = l
  | [], pl => rfl
  | t :: l, pl => by simp only [nearF, List.map_cons, nearF_tri pg l]; rfl
theorem near_tri (pg : Pg) : (nearW pg).map Sp.tri = due pg := nearF_tri pg _ 0
theorem nearF_app (pg : Pg) : ∀ (a b : List Tr) (pl : Int), ∃ pl', nearF pg pl (a ++ b) = nearF pg pl a ++ nearF pg pl' b
  | [], b, pl => ⟨pl, rfl⟩
  | t :: a, b, pl => by
    obtain ⟨pl', h⟩ := nearF_app pg a b (endsAt pg (nearS pg pl t)).2
    exact ⟨pl', by simp only [List.cons_append, nearF, h]⟩
theorem nearF_take (pg : Pg) (j : Nat) : ∀ (l : List Tr) (pl : Int), (∀ t ∈ l, t.row < j) → nearF (pg.take j) pl l = nearF pg pl l
  | [], pl, _ => rfl
  | t :: l, pl, h => by
    have h1 : ∀ b, endsAt (pg.take j) (t.sp b) = endsAt pg (t.sp b) := fun b => ends_take (h t (by simp))
    have h2 : nearS (pg.take j) pl t = nearS pg pl t := by simp only [nearS, h1]
    have h3 : endsAt (pg.take j) (nearS pg pl t) = endsAt pg (nearS pg pl t) := ends_take (h t (by simp))
    simp only [nearF, h2, h3]
    rw [nearF_take pg j l _ fun x hx => h x (by simp [hx])]
theorem due_pre (pg : Pg) (j : Nat) : ∃ rest, due pg = due (pg.take j) ++ rest := by
  have : ∀ (pg : Pg) (k j : Nat), ∃ rest, dueFrom k pg = dueFrom k (pg.take j) ++ rest := by
    intro pg
    induction pg with
    | nil => intro k j; exact ⟨[], by simp [dueFrom]⟩
    | cons r pg ih =>
      intro k j
      cases j with
      | zero => exact ⟨_, by simp [dueFrom]; rfl⟩
      | succ j =>
        obtain ⟨rest, h⟩ := ih (k + 1) j
        exact ⟨rest, by simp only [List.take_succ_cons, dueFrom, h, List.append_assoc]⟩
  exact this pg 0 j
section
variable (pg : Pg) (j : Nat)
theorem right_take : rightW (pg.take j) = (rightW pg).take (due (pg.take j)).length := by
  obtain ⟨rest, h⟩ := due_pre pg j
  simp only [rightW]
  rw [h]
  simp
theorem fro_take : froW (pg.take j) = (froW pg).take (due (pg.take j)).length := by
  obtain ⟨rest, h⟩ := due_pre pg j
  simp only [froW]
  rw [h, List.zipIdx_append, List.map_append, List.take_left']
  simp
theorem near_take : nearW (pg.take j) = (nearW pg).take (due (pg.take j)).length := by
  obtain ⟨rest, h⟩ := due_pre pg j
  simp only [nearW]
  obtain ⟨pl', h2⟩ := nearF_app pg (due (pg.take j)) rest 0
  have hl : (nearF pg 0 (due (pg.take j))).length = (due (pg.take j)).length := by
    have := congrArg List.length (nearF_tri pg (due (pg.take j)) 0)
    simpa using this
  have hd : ∀ t ∈ due (pg.take j), t.row < j := fun t ht => by
    have := (due_mem ht).2.1
    simp only [List.length_take] at this
    omega
  have e : (nearF pg 0 (due pg)).take (due (pg.take j)).length = nearF pg 0 (due (pg.take j)) := by
    conv => lhs; rw [h]
    rw [h2, List.take_left' hl]
  rw [e, nearF_take pg j _ _ hd]
end
/-! ### what is printed -/
def rowLen (row : Row) : Int := ((passes row).map fun p => p.hi + 1 - p.lo).sum
def pgLen (pg : Pg) : Int := (pg.map rowLen).sum
def tLen (pg : Pg) (s : Sp) : Int := ab ((endsAt pg s).2 - (endsAt pg s).1)
theorem ends_len {w : Int} {row : Row} (R : RowOk w row) {p : Ps} (h : p ∈ passes row) (l : Bool) : ab ((p.ends l).2 - (p.ends l).1) = p.hi + 1 - p.lo := by
  have := pass_bd R h
  cases l <;> simp only [Ps.ends, if_true, if_false, Bool.false_eq_true, ab] <;> split <;> omega
theorem told_len {w : Int} {pg0 : Pg} : ∀ {pg : Pg} {k : Nat} {way : List Sp}, way.map Sp.tri = dueFrom k pg → (∀ i row, pg[i]? = some row → pg0[k + i]? = some row ∧ RowOk w row) → (way.map (tLen pg0)).sum = pgLen pg
  | [], k, way, h, _ => by
    simp only [dueFrom, List.map_eq_nil_iff] at h
    subst h
    rfl
  | r :: rs, k, way, h, hp => by
    simp only [dueFrom] at h
    obtain ⟨a, b, rfl, h1, h2⟩ := List.map_eq_append_iff.mp h
    have ih := told_len h2 (pg0 := pg0) (w := w) fun i row hi => by
      have := hp (i + 1) row (by simpa using hi)
      have e : k + 1 + i = k + (i + 1) := by omega
      rw [e]
      exact this
    obtain ⟨g1, g2⟩ := hp 0 r rfl
    have one : (a.map (tLen pg0)) = (passes r).map fun p => p.hi + 1 - p.lo := by
      have : ∀ (a : List Sp) (ps : List Ps), (∀ p ∈ ps, p ∈ passes r) → a.map Sp.tri = ps.map (fun p => (⟨k, p.fnt, p.trn⟩ : Tr)) → a.map (tLen pg0) = ps.map fun p => p.hi + 1 - p.lo := by
        intro a
        induction a with
        | nil => intro ps _ h; cases ps <;> simp at h ⊢
        | cons s a ih =>
          intro ps hps h
          cases ps with
          | nil => simp at h
          | cons p ps =>
            simp only [List.map_cons, List.cons.injEq, Tr.mk.injEq] at h ⊢
            obtain ⟨⟨e1, e2, e3⟩, h⟩ := h
            refine ⟨?_, ih ps (fun q hq => hps q (by simp [hq])) h⟩
            have hp := hps p (by simp)
            have : endsAt pg0 s = p.ends s.lft := by
              have g1 : pg0[k]? = some r := g1
              simp only [endsAt, e1, g1, Option.bind_some, endsIn, e2, e3, find_pass hp, Option.map_some, Option.getD_some]
            rw [tLen, this, ends_len g2 hp]
      exact this a (passes r) (fun _ h => h) h1
    simp only [List.map_append, List.sum_append, pgLen, List.map_cons, List.sum_cons, one]
    rw [ih]
    rfl
theorem costs_ge {b fd c : Int} (hb : 0 ≤ b) (hc : 0 ≤ c) (pg : Pg) : ∀ (way : List Sp) (t : Stt), b * (way.map (tLen pg)).sum ≤ (costs b fd c pg t way).sum
  | [], t => by simp [costs]
  | s :: way, t => by
    have := costs_ge hb hc pg way (stAf pg s) (fd := fd)
    simp only [List.map_cons, List.sum_cons, costs, stepC, tLen, Int.mul_add] at this ⊢
    have h1 : 0 ≤ mx (ab ((endsAt pg s).1 - t.pl)) (fd * ((s.row : Int) - t.rw)) := by
      unfold mx ab
      split <;> split <;> omega
    split <;> omega
theorem told_time {w b fd c : Int} (M : MchOk w b fd c) {pg : Pg} (G : PgOk w pg) {way : List Sp} (h : way.map Sp.tri = due pg) : pgLen pg * b ≤ (costs b fd c pg st0 way).sum := by
  have h1 := told_len (w := w) (pg0 := pg) h fun i row hi => ⟨by simpa using hi, G.r row (List.mem_of_getElem? hi)⟩
  have h2 := costs_ge (b := b) (c := c) (fd := fd) (by have := M.b1; omega) M.c1 pg way st0
  rw [h1] at h2
  rw [Int.mul_comm]
  exact h2
end HW
/-! Told ways: what the program tells. -/
namespace HW
section
variable {P : Prog} {iR iS iP iW iE iI iD iN iTs iT iO n : Nat} {S : Sto} (H : HasW P iR iS iP iW iE iI iD iN iTs iT)
include H
theorem ends_due {w : Int} {pg : Pg} (G : PgOk w pg) {t : Tr} (ht : t ∈ due pg) (l : Bool) : run P (n + 3) iE [pgD pg, (t.sp l).d] S = .ok (.tup [.int (endsAt pg (t.sp l)).1, .int (endsAt pg (t.sp l)).2]) S := by
  have W : WayFrom 0 pg ((due pg).map fun t => t.sp l) := told_way (by simp [Function.comp_def])
  exact ends_ok H G W (List.mem_map_of_mem (f := fun t : Tr => t.sp l) ht)
theorem sdo_due {w b fd c : Int} (M : MchOk w b fd c) {pg : Pg} (G : PgOk w pg) {t : Tr} (ht : t ∈ due pg) (l : Bool) {p : Nat} {u : Stt} {beats : Int} (hS : S[p]? = some (stO u beats)) :
    run P (n + 4) iD [.ref p, mch w b fd c, pgD pg, (t.sp l).d] S = .ok .non (S.set p (stO (stAf pg (t.sp l)) (beats + stepC b fd c pg u (t.sp l)))) := by
  have W : WayFrom 0 pg ((due pg).map fun t => t.sp l) := told_way (by simp [Function.comp_def])
  exact sdo_ok H M G W (List.mem_map_of_mem (f := fun t : Tr => t.sp l) ht) hS
/-- a walk over the rows that gathers what is due -/
theorem gather {pg : Pg} {w : Int} (G : PgOk w pg) {S1 : Sto} {k : Nat} {B : List St} {env : Option D → Env} (h : ∀ i (hi : i < pg.length) ds env', (∃ e, env' = env e) → ds.length + (rowDue i pg[i]).length ≤ 1000 →
      ∃ e', forT P (run P k) (.name 2) B (.int (i : Int)) env' (S1 ++ [.lst ds]) = .next (env e') (S1 ++ [.lst (ds ++ (rowDue i pg[i]).map Tr.d)])) (e0 : Option D) :
    ∃ e', forL [] (forT P (run P k) (.name 2) B) (rangeD 0 pg.length) (env e0) (S1 ++ [.lst []]) = .next (env e') (S1 ++ [.lst ((due pg).map Tr.d)]) := by
  have l2 := forL_inv (items := rangeD 0 pg.length) (turn := forT P (run P k) (.name 2) B) (env := env e0) (S := S1 ++ [.lst []])
    (fun i env' S' => S' = S1 ++ [.lst ((dueFrom 0 (pg.take i)).map Tr.d)] ∧ ∃ e, env' = env e) ⟨by simp [dueFrom], _, rfl⟩ (by
      rintro i d env' S' hd ⟨rfl, he⟩
      have hi : i < pg.length := by
        have := (List.getElem?_eq_some_iff.mp hd).1
        rw [rangeD_len] at this
        exact this
      have hdi : d = .int (i : Int) := by
        rw [range_map] at hd
        simp [hi] at hd
        exact hd.symm
      subst hdi
      obtain ⟨e', hx⟩ := h i hi ((dueFrom 0 (pg.take i)).map Tr.d) env' he (by
        have h1 := due_len (pg.take i) 0
        have h2 := passes_len pg[i]
        have h3 := G.l
        simp only [List.length_map, rowDue, List.length_take] at *
        omega)
      refine ⟨_, _, hx, ?_, e', rfl⟩
      have e3 : dueFrom 0 (pg.take i) ++ rowDue i pg[i] = dueFrom 0 (pg.take (i + 1)) := by
        rw [List.take_succ_eq_append_getElem hi, due_snoc]
        simp [Nat.min_eq_left (Nat.le_of_lt hi)]
      rw [← List.map_append, e3])
  obtain ⟨env2, S2, hl2, rfl, e, rfl⟩ := l2
  rw [rangeD_len, List.take_length] at hl2
  exact ⟨e, hl2⟩
theorem in_order_ok (hO : P.defs[iO]? = some (D_in_order iP)) {pg : Pg} {w : Int} (G : PgOk w pg) : run P (n + 3) iO [pgD pg] S = .ok (.lst ((due pg).map Tr.d)) S := by
  have hg := gather H G (S1 := S) (k := n + 2) (B := bodyOf ((D_in_order iP).body.getD 1 .nope)) (env := fun e => [some (pgD pg), some (.ref S.length), e, none, none, none, none]) (by
    rintro i hi ds env' ⟨e, rfl⟩ hl
    have hk : pg[i]? = some pg[i] := by simp [hi]
    have RS := (G.r pg[i] (List.getElem_mem hi)).small
    have hc := comp_map (P := P) (call := run P (n + 2)) (elt := .tup [.var 2, .var 3, .var 4]) (tg := .tup [.name 3, .name 4, .name 5, .name 6]) (ifs := []) (vs := [3, 4, 5, 6]) (env := [some (pgD pg), some (.ref S.length), some (.int (i : Int)), none, none, none, none]) (S := S ++ [.lst ds]) (own := [])
      (xs := passes pg[i]) (enc := Ps.d) (fun p => Tr.d ⟨i, p.fnt, p.trn⟩) (fun p _ => by simp [compT, setTg, setTgs, wipeE]) rfl (by have := passes_len pg[i]; show _ ≤ 16777216; omega)
    have e : (passes pg[i]).map (fun p => Tr.d ⟨i, p.fnt, p.trn⟩) = (rowDue i pg[i]).map Tr.d := by simp [rowDue]
    rw [e] at hc
    have hgt : (S ++ [Ob.lst ds])[S.length]? = some (.lst ds) := by simp
    have hx := extend_ok (ys := (rowDue i pg[i]).map Tr.d) _ hgt (by rw [List.length_map]; show _ ≤ 16777216; omega)
    rw [app_set] at hx
    refine ⟨some (.int (i : Int)), ?_⟩
    simp [D_in_order, bodyOf, (kind_l _ hgt).2.1, passes_of_ok H.r H.s H.p hk RS, hc, hx]) none
  obtain ⟨e', hl⟩ := hg
  have a1 : execS P (run P (n + 2)) (.asg (.name 1) (.newL [])) [some (pgD pg), none, none, none, none, none, none] S = .next [some (pgD pg), some (.ref S.length), none, none, none, none, none] (S ++ [.lst []]) := by simp
  have a2 : execS P (run P (n + 2)) (.for (.name 2) (.rng1 (.blt .len [.var 0])) (bodyOf ((D_in_order iP).body.getD 1 .nope))) [some (pgD pg), some (.ref S.length), none, none, none, none, none] (S ++ [.lst []]) = .next [some (pgD pg), some (.ref S.length), e', none, none, none, none] (S ++ [.lst ((due pg).map Tr.d)]) := (for_len (xs := pg) (enc := rowD) rfl (by have := G.l; omega)).trans hl
  refine run_gcl (G := [.lst ((due pg).map Tr.d)]) (p := S.length) hO rfl (flat_map (fun x => (Tr.fl x).1) _) (Nat.le_refl _) (by simp) ?_
  show endR (execs P (run P (n + 2)) [_, _, _] [some (pgD pg), none, none, none, none, none, none] S) = _
  rw [ex_one a1]
  refine (congrArg endR (ex_one a2)).trans ?_
  simp
theorem rightward_ok {iRi : Nat} (hO : P.defs[iO]? = some (D_in_order iP)) (hR : P.defs[iRi]? = some (D_rightward iO)) {pg : Pg} {w : Int} (G : PgOk w pg) : run P (n + 4) iRi [pgD pg] S = .ok (wayD (rightW pg)) S := by
  have hio := in_order_ok H (n := n) (S := S) hO G
  have hd : (due pg).length ≤ 1000 := by have h1 : (due pg).length ≤ 6 * pg.length := due_len pg 0; have := G.l; omega
  have hc := comp_map (P := P) (call := run P (n + 3)) (elt := .bin .Add (.var 1) (.tup [.lit (.bl false)])) (tg := .name 1) (ifs := []) (vs := [1]) (env := [some (pgD pg), none]) (S := S) (own := []) (xs := due pg) (enc := Tr.d) (fun t => (t.sp false).d) (fun t _ => by
    have := add_tup (x := [D.int t.row, .str t.fnt, .int t.trn]) (y := [.bl false]) (by show 4 ≤ 16777216; decide)
    simp [compT, setTg, wipeE, this]) rfl (by show _ ≤ 16777216; omega)
  rw [run_of hR rfl]
  simp [hio, hc, rightW, Function.comp_def]
theorem fro_ok {iF : Nat} (hO : P.defs[iO]? = some (D_in_order iP)) (hF : P.defs[iF]? = some (D_to_and_fro iO)) {pg : Pg} {w : Int} (G : PgOk w pg) : run P (n + 4) iF [pgD pg] S = .ok (wayD (froW pg)) S := by
  have hio := in_order_ok H (n := n) (S := S) hO G
  have hd : (due pg).length ≤ 1000 := by have h1 : (due pg).length ≤ 6 * pg.length := due_len pg 0; have := G.l; omega
  have hc := comp_map (P := P) (call := run P (n + 3)) (elt := .bin .Add (.var 2) (.tup [.cmp .Eq (.bin .Mod (.var 1) (.lit (.int (2)))) (.lit (.int (1)))])) (tg := .tup [.name 1, .name 2]) (ifs := []) (vs := [1, 2]) (env := [some (pgD pg), none, none]) (S := S) (own := []) (xs := (due pg).zipIdx 0) (enc := fun p => .tup [.int p.2, Tr.d p.1]) (fun p => (p.1.sp (decide ((p.2 : Int) % 2 = 1))).d) (fun p _ => by
    have := add_tup (x := [D.int p.1.row, .str p.1.fnt, .int p.1.trn]) (y := [.bl (decide ((p.2 : Int) % 2 = 1))]) (by show 4 ≤ 16777216; decide)
    simp [compT, setTg, setTgs, wipeE, mod_int, this]) rfl (by rw [List.length_zipIdx]; show _ ≤ 16777216; omega)
  rw [run_of hF rfl]
  simp [hio, enumR_lst, hc, froW, Function.comp_def]
theorem printing_ok {iPr : Nat} (hPr : P.defs[iPr]? = some (D_printing iP)) {w b fd c : Int} (M : MchOk w b fd c) {pg : Pg} (G : PgOk w pg) : run P (n + 3) iPr [mch w b fd c, pgD pg] S = .ok (.int (pgLen pg * b)) S := by
  have loop := forL_inv (items := rangeD 0 pg.length) (turn := forT P (run P (n + 2)) (.name 3) (bodyOf ((D_printing iP).body.getD 1 .nope))) (env := [some (mch w b fd c), some (pgD pg), some (.int 0), none, none, none, none, none]) (S := S)
    (fun i env S' => S' = S ∧ ∃ e3 , env = [some (mch w b fd c), some (pgD pg), some (.int (pgLen (pg.take i))), e3, none, none, none, none]) ⟨rfl, _, rfl⟩ (by
      rintro i d env S' hd ⟨rfl, e3, rfl⟩
      have hi : i < pg.length := by
        have := (List.getElem?_eq_some_iff.mp hd).1
        rw [rangeD_len] at this
        exact this
      have hdi : d = .int (i : Int) := by
        rw [range_map] at hd
        simp [hi] at hd
        exact hd.symm
      subst hdi
      have hk : pg[i]? = some pg[i] := by simp [hi]
      have RS := (G.r pg[i] (List.getElem_mem hi)).small
      have hc := comp_map (P := P) (call := run P (n + 2)) (elt := .bin .Sub (.bin .Add (.var 7) (.lit (.int (1)))) (.var 6)) (tg := .tup [.name 4, .name 5, .name 6, .name 7]) (ifs := []) (vs := [4, 5, 6, 7]) (env := [some (mch w b fd c), some (pgD pg), some (.int (pgLen (pg.take i))), some (.int (i : Int)), none, none, none, none]) (S := S') (own := [])
        (xs := passes pg[i]) (enc := Ps.d) (fun p => .int (p.hi + 1 - p.lo)) (fun p _ => by simp [compT, setTg, setTgs, wipeE]) rfl (by have := passes_len pg[i]; show _ ≤ 16777216; omega)
      refine ⟨[some (mch w b fd c), some (pgD pg), some (.int (pgLen (pg.take (i + 1)))), some (.int (i : Int)), none, none, none, none], S', ?_, rfl, _, rfl⟩
      have e : pgLen (pg.take (i + 1)) = pgLen (pg.take i) + rowLen pg[i] := by
        rw [List.take_succ_eq_append_getElem hi]
        simp only [pgLen, List.map_append, List.map_cons, List.map_nil, List.sum_append, List.sum_cons, List.sum_nil]
        omega
      rw [e]
      simp [D_printing, bodyOf, passes_of_ok H.r H.s H.p hk RS, hc, ints_mapf, rowLen])
  obtain ⟨env', S', hl, rfl, e3, rfl⟩ := loop
  rw [rangeD_len, List.take_length] at hl
  have hm : ∀ j, mulOk j b = true := fun j => mulOk_r (by have := M.b1; omega) (by have := M.b2; omega)
  have a1 : execS P (run P (n + 2)) (.asg (.name 2) (.lit (.int (0)))) [some (mch w b fd c), some (pgD pg), none, none, none, none, none, none] S' = .next [some (mch w b fd c), some (pgD pg), some (.int 0), none, none, none, none, none] S' := by simp
  have a2 : execS P (run P (n + 2)) (.for (.name 3) (.rng1 (.blt .len [.var 1])) (bodyOf ((D_printing iP).body.getD 1 .nope))) [some (mch w b fd c), some (pgD pg), some (.int 0), none, none, none, none, none] S' = .next [some (mch w b fd c), some (pgD pg), some (.int (pgLen pg)), e3, none, none, none, none] S' := (for_len (xs := pg) (enc := rowD) rfl (by have := G.l; omega)).trans hl
  rw [run_of hPr rfl]
  show endR (execs P (run P (n + 2)) [_, _, _] [some (mch w b fd c), some (pgD pg), none, none, none, none, none, none] S') = _
  rw [ex_one a1]
  refine (congrArg endR (ex_one a2)).trans ?_
  simp [mul_int, hm]
omit H in
theorem nearF_snoc (pg : Pg) (t : Tr) : ∀ (a : List Tr) (pl : Int), nearF pg pl (a ++ [t]) = nearF pg pl a ++ [nearS pg (nearE pg pl a) t]
  | [], pl => rfl
  | x :: a, pl => by simp only [List.cons_append, nearF, nearE, nearF_snoc pg t a]
omit H in
theorem nearE_snoc (pg : Pg) (t : Tr) : ∀ (a : List Tr) (pl : Int), nearE pg pl (a ++ [t]) = (endsAt pg (nearS pg (nearE pg pl a) t)).2
  | [], pl => rfl
  | x :: a, pl => by simp only [List.cons_append, nearE, nearE_snoc pg t a]
theorem nearer_ok {iNe : Nat} (hO : P.defs[iO]? = some (D_in_order iP)) (hNe : P.defs[iNe]? = some (D_nearer iO iE)) {w b fd c : Int} (M : MchOk w b fd c) {pg : Pg} (G : PgOk w pg) : run P (n + 5) iNe [mch w b fd c, pgD pg] S = .ok (wayD (nearW pg)) S := by
  have hd : (due pg).length ≤ 1000 := by have h1 : (due pg).length ≤ 6 * pg.length := due_len pg 0; have := G.l; omega
  have loop := for_pre (own := []) (xs := due pg) (enc := Tr.d) (turn := forT P (run P (n + 4)) (.name 4) (bodyOf ((D_nearer iO iE).body.getD 2 .nope))) (env := [some (mch w b fd c), some (pgD pg), some (.ref S.length), some (.tup []), none, none, none, none]) (S := S ++ [stO st0 0])
    (fun pre env S' => ∃ u beats e4 e5 e6 e7, u.pl = nearE pg 0 pre ∧ S' = S ++ [stO u beats] ∧ env = [some (mch w b fd c), some (pgD pg), some (.ref S.length), some (wayD (nearF pg 0 pre)), e4, e5, e6, e7]) (fun _ _ _ _ => rfl) ⟨st0, 0, none, none, none, none, rfl, rfl, rfl⟩ (by
      rintro pre t post env S' e ⟨u, beats, e4, e5, e6, e7, hu, rfl, rfl⟩
      have ht : t ∈ due pg := by rw [e]; simp
      have hS : (S ++ [stO u beats])[S.length]? = some (stO u beats) := by simp
      have hf := ends_due H (n := n + 1) (S := S ++ [stO u beats]) G ht false
      have htr := ends_due H (n := n + 1) (S := S ++ [stO u beats]) G ht true
      have a0 : ∀ l, binD .Add (.tup [.int t.row, .str t.fnt, .int t.trn]) (.tup [.bl l]) = some (t.sp l).d := fun l => add_tup (x := [D.int t.row, .str t.fnt, .int t.trn]) (y := [.bl l]) (by show 4 ≤ 16777216; decide)
      have hdo := sdo_due H (n := n) M G ht (decide (ab ((endsAt pg (t.sp true)).1 - u.pl) < ab ((endsAt pg (t.sp false)).1 - u.pl))) hS
      rw [app_set] at hdo
      have hns : t.sp (decide (ab ((endsAt pg (t.sp true)).1 - u.pl) < ab ((endsAt pg (t.sp false)).1 - u.pl))) = nearS pg (nearE pg 0 pre) t := by rw [nearS, hu]
      rw [hns] at hdo
      have hln : (nearF pg 0 pre).length ≤ 1000 := by
        have := congrArg List.length (nearF_tri pg pre 0)
        rw [List.length_map] at this
        have e2 : (due pg).length = pre.length + (post.length + 1) := by rw [e]; simp
        omega
      have hadd : ((nearF pg 0 pre).map Sp.d).length + [(nearS pg (nearE pg 0 pre) t).d].length ≤ SZ := by
        simp only [List.length_map, List.length_singleton]
        show _ ≤ 16777216
        omega
      have hadd := add_tup hadd
      generalize hx : (endsAt pg (t.sp true)).1 = x at hf htr hns
      generalize hy : (endsAt pg (t.sp false)).1 = y at hf htr hns
      have hns' : D.tup [.int t.row, .str t.fnt, .int t.trn, .bl (decide (ab (x - u.pl) < ab (y - u.pl)))] = (nearS pg (nearE pg 0 pre) t).d := congrArg Sp.d hns
      have a0' : binD .Add (.tup [.int t.row, .str t.fnt, .int t.trn]) (.tup [.bl (decide (ab (x - u.pl) < ab (y - u.pl)))]) = some (nearS pg (nearE pg 0 pre) t).d := (a0 _).trans (congrArg some hns')
      refine ⟨[some (mch w b fd c), some (pgD pg), some (.ref S.length), some (wayD (nearF pg 0 (pre ++ [t]))), some t.d, some (.int (ab (y - u.pl))), some (.int (ab (x - u.pl))), some (nearS pg (nearE pg 0 pre) t).d], S ++ [stO (stAf pg (nearS pg (nearE pg 0 pre) t)) (beats + stepC b fd c pg u (nearS pg (nearE pg 0 pre) t))], ?_, stAf pg (nearS pg (nearE pg 0 pre) t), _, _, _, _, _, (nearE_snoc pg t pre 0).symm, rfl, rfl⟩
      have ew : wayD (nearF pg 0 (pre ++ [t])) = .tup ((nearF pg 0 pre).map Sp.d ++ [(nearS pg (nearE pg 0 pre) t).d]) := by
        rw [nearF_snoc]
        simp only [wayD, List.map_append, List.map_cons, List.map_nil]
      rw [ew]
      have b1 : execS P (run P (n + 4)) (.asg (.name 5) (.blt .abs [.bin .Sub (.idx (.call iE [.var 1, .bin .Add (.var 4) (.tup [.lit (.bl false)])]) (.lit (.int (0)))) (.fld (.var 2) 1)])) [some (mch w b fd c), some (pgD pg), some (.ref S.length), some (wayD (nearF pg 0 pre)), some t.d, e5, e6, e7] (S ++ [stO u beats]) = .next [some (mch w b fd c), some (pgD pg), some (.ref S.length), some (wayD (nearF pg 0 pre)), some t.d, some (.int (ab (y - u.pl))), e6, e7] (S ++ [stO u beats]) := by
        simp [a0, hf, fldR_ok hS, fgetD, List.lookup]
      have b2 : execS P (run P (n + 4)) (.asg (.name 6) (.blt .abs [.bin .Sub (.idx (.call iE [.var 1, .bin .Add (.var 4) (.tup [.lit (.bl true)])]) (.lit (.int (0)))) (.fld (.var 2) 1)])) [some (mch w b fd c), some (pgD pg), some (.ref S.length), some (wayD (nearF pg 0 pre)), some t.d, some (.int (ab (y - u.pl))), e6, e7] (S ++ [stO u beats]) = .next [some (mch w b fd c), some (pgD pg), some (.ref S.length), some (wayD (nearF pg 0 pre)), some t.d, some (.int (ab (y - u.pl))), some (.int (ab (x - u.pl))), e7] (S ++ [stO u beats]) := by
        simp [a0, htr, fldR_ok hS, fgetD, List.lookup]
      have b3 : execS P (run P (n + 4)) (.asg (.name 7) (.bin .Add (.var 4) (.tup [.cmp .Lt (.var 6) (.var 5)]))) [some (mch w b fd c), some (pgD pg), some (.ref S.length), some (wayD (nearF pg 0 pre)), some t.d, some (.int (ab (y - u.pl))), some (.int (ab (x - u.pl))), e7] (S ++ [stO u beats]) = .next [some (mch w b fd c), some (pgD pg), some (.ref S.length), some (wayD (nearF pg 0 pre)), some t.d, some (.int (ab (y - u.pl))), some (.int (ab (x - u.pl))), some (nearS pg (nearE pg 0 pre) t).d] (S ++ [stO u beats]) := by
        simp [a0']
      have b4 : execS P (run P (n + 4)) (.expr (.inv (.var 2) 0 [.var 0, .var 1, .var 7])) [some (mch w b fd c), some (pgD pg), some (.ref S.length), some (wayD (nearF pg 0 pre)), some t.d, some (.int (ab (y - u.pl))), some (.int (ab (x - u.pl))), some (nearS pg (nearE pg 0 pre) t).d] (S ++ [stO u beats]) = .next [some (mch w b fd c), some (pgD pg), some (.ref S.length), some (wayD (nearF pg 0 pre)), some t.d, some (.int (ab (y - u.pl))), some (.int (ab (x - u.pl))), some (nearS pg (nearE pg 0 pre) t).d] (S ++ [stO (stAf pg (nearS pg (nearE pg 0 pre) t)) (beats + stepC b fd c pg u (nearS pg (nearE pg 0 pre) t))]) := by
        simp [invR_ok hS H.d, hdo]
      have b5 : execS P (run P (n + 4)) (.asg (.name 3) (.bin .Add (.var 3) (.tup [.var 7]))) [some (mch w b fd c), some (pgD pg), some (.ref S.length), some (wayD (nearF pg 0 pre)), some t.d, some (.int (ab (y - u.pl))), some (.int (ab (x - u.pl))), some (nearS pg (nearE pg 0 pre) t).d] (S ++ [stO (stAf pg (nearS pg (nearE pg 0 pre) t)) (beats + stepC b fd c pg u (nearS pg (nearE pg 0 pre) t))]) = .next [some (mch w b fd c), some (pgD pg), some (.ref S.length), some (.tup ((nearF pg 0 pre).map Sp.d ++ [(nearS pg (nearE pg 0 pre) t).d])), some t.d, some (.int (ab (y - u.pl))), some (.int (ab (x - u.pl))), some (nearS pg (nearE pg 0 pre) t).d] (S ++ [stO (stAf pg (nearS pg (nearE pg 0 pre) t)) (beats + stepC b fd c pg u (nearS pg (nearE pg 0 pre) t))]) := by
        simp [hadd]
      rw [forT_n]
      exact (ex_one b1).trans ((ex_one b2).trans ((ex_one b3).trans ((ex_one b4).trans ((ex_one b5).trans ex_nil)))))
  obtain ⟨env', S', hl, u, beats, e4, e5, e6, e7, hu, rfl, rfl⟩ := loop
  have hmk := smk_ok H (n := n + 3) (S := S)
  have hio := in_order_ok H (n := n + 1) (S := S ++ [stO st0 0]) hO G
  refine run_gcs (G := [stO u beats]) hNe rfl (wayD_fl _).f ?_
  have a1 : execS P (run P (n + 4)) (.asg (.name 2) (.mk 1 [])) [some (mch w b fd c), some (pgD pg), none, none, none, none, none, none] S = .next [some (mch w b fd c), some (pgD pg), some (.ref S.length), none, none, none, none, none] (S ++ [stO st0 0]) := by simp [hmk]
  have a2 : execS P (run P (n + 4)) (.asg (.name 3) (.tup [])) [some (mch w b fd c), some (pgD pg), some (.ref S.length), none, none, none, none, none] (S ++ [stO st0 0]) = .next [some (mch w b fd c), some (pgD pg), some (.ref S.length), some (.tup []), none, none, none, none] (S ++ [stO st0 0]) := by simp
  have a3 : execS P (run P (n + 4)) (.for (.name 4) (.seq (.call iO [.var 1])) (bodyOf ((D_nearer iO iE).body.getD 2 .nope))) [some (mch w b fd c), some (pgD pg), some (.ref S.length), some (.tup []), none, none, none, none] (S ++ [stO st0 0]) = .next [some (mch w b fd c), some (pgD pg), some (.ref S.length), some (wayD (nearW pg)), e4, e5, e6, e7] (S ++ [stO u beats]) := by
    rw [ex_for, ev_seq, ev_call, ev_l1, ev_var, slot_s, slot_0, bind_ok, ev_l0, bind_ok, bind_ok, hio, bind_ok, seqR_lst, R.stm_ok]
    exact hl
  show endR (execs P (run P (n + 4)) [_, _, _, _] [some (mch w b fd c), some (pgD pg), none, none, none, none, none, none] S) = _
  rw [ex_one a1, ex_one a2]
  refine (congrArg endR (ex_one a3)).trans ?_
  simp
end
end HW
/-! Walks over ranges. -/
namespace HW
theorem rng_src {P : Prog} {call : Call} {e : X} {env : Env} {S : Sto} {k : Nat} (h : evalE P call e env S = .ok (.int (k : Int)) S) (hk : k ≤ 1000) : evalI P call (.rng1 e) env S = .ok ⟨rangeD 0 k, []⟩ S := by
  rw [ev_rng1, h, bind_ok, rngR_ok (by omega) (by omega)]
  rfl
theorem for_rng {P : Prog} {call : Call} {e : X} {env : Env} {S : Sto} {k : Nat} {tg : Tg} {body : List St} (h : evalE P call e env S = .ok (.int (k : Int)) S) (hk : k ≤ 1000) : execS P call (.for tg (.rng1 e) body) env S = forL [] (forT P call tg body) (rangeD 0 k) env S := by
  rw [ex_for, rng_src h hk, R.stm_ok]
theorem for_rng2 {P : Prog} {call : Call} {a b : X} {env : Env} {S : Sto} {i j : Int} {tg : Tg} {body : List St} (h1 : evalE P call a env S = .ok (.int i) S) (h2 : evalE P call b env S = .ok (.int j) S) (hi : -1000 ≤ i) (hi2 : i ≤ 1000) (hj : -1000 ≤ j) (hj2 : j ≤ 1000) :
    execS P call (.for tg (.rng2 a b) body) env S = forL [] (forT P call tg body) (rangeD i (j - i).toNat) env S := by
  rw [ex_for, ev_rng2, h1, bind_ok, h2, bind_ok, rng2R_ok (by omega) (by omega) (by omega) (by omega), R.stm_ok]
end HW
/-! The law's own signs and passes. -/
namespace HW
abbrev Key := List Nat × Int
abbrev kD (k : Key) : D := .tup [.str k.1, .int k.2]
/-- the columns met under a key -/
def colsK (ev : List (Key × Int)) (k : Key) : List Int := (ev.filter fun e => decide (e.1 = k)).map (·.2)
/-- the store of the law's dict of columns: behind S0, the dict first -/
structure ColsI (b : Nat) (ev : List (Key × Int)) (G : Sto) (ks : List (Key × Nat)) : Prop where
  d : G[0]? = some (.dct (ks.map fun e => (kD e.1, .ref (b + e.2))))
  l : ∀ e ∈ ks, 0 < e.2 ∧ G[e.2]? = some (.lst ((colsK ev e.1).map .int))
  n : (ks.map (·.1)).Nodup
  a : (ks.map (·.2)).Nodup
  m : ∀ k, k ∈ ks.map (·.1) ↔ colsK ev k ≠ []
theorem dget_map {b : Nat} : ∀ {ks : List (Key × Nat)} {k : Key} {a : Nat}, (ks.map (·.1)).Nodup → (k, a) ∈ ks → dget (ks.map fun e => (kD e.1, D.ref (b + e.2))) (kD k) = some (.ref (b + a))
  | [], k, a, _, h => by simp at h
  | e :: ks, k, a, hn, h => by
    simp only [List.map_cons, List.nodup_cons] at hn
    by_cases hk : e.1 = k
    · have : e = (k, a) := by
        rcases List.mem_cons.mp h with rfl | h
        · rfl
        · exact absurd (List.mem_map_of_mem (f := (·.1)) h) (by rw [hk] at hn; exact hn.1)
      subst this
      simp [dget]
    · have h' : (k, a) ∈ ks := by
        rcases List.mem_cons.mp h with rfl | h
        · exact absurd rfl hk
        · exact h
      have := dget_map (b := b) hn.2 h'
      have hne : ¬ kD e.1 = kD k := fun q => hk (by simp at q; exact Prod.ext q.1 q.2)
      simp only [dget, List.map_cons, List.find?_cons, hne, decide_false] at this ⊢
      exact this
theorem dget_none {b : Nat} : ∀ {ks : List (Key × Nat)} {k : Key}, k ∉ ks.map (·.1) → dget (ks.map fun e => (kD e.1, D.ref (b + e.2))) (kD k) = none
  | [], k, _ => rfl
  | e :: ks, k, h => by
    simp only [List.map_cons, List.mem_cons, not_or] at h
    have := dget_none (b := b) h.2
    have hne : ¬ kD e.1 = kD k := fun q => h.1 (by simp at q; exact (Prod.ext q.1 q.2).symm)
    simp only [dget, List.map_cons, List.find?_cons, hne, decide_false] at this ⊢
    exact this
theorem fit_map {b : Nat} (ks : List (Key × Nat)) (k : Key) : fitK (ks.map fun e => (kD e.1, D.ref (b + e.2))) (kD k) = true := by
  have hc : ∀ k : Key, (kD k).kcls = 2 := fun k => by simp [D.kcls, D.isKey0]
  cases ks with
  | nil => simp [fitK, hc]
  | cons e ks => simp only [List.map_cons, fitK, hc]; decide
theorem colsK_snoc (ev : List (Key × Int)) (k k' : Key) (c : Int) : colsK (ev ++ [(k, c)]) k' = if k = k' then colsK ev k' ++ [c] else colsK ev k' := by
  by_cases h : k = k' <;> simp [colsK, h]
theorem set_base {S G : Sto} (j : Nat) (x : Ob) : (S ++ G).set (S.length + j) x = S ++ G.set j x := by
  rw [List.set_append_right _ _ (by omega)]
  congr 2
  omega
theorem get_base {S G : Sto} (j : Nat) : (S ++ G)[S.length + j]? = G[j]? := by
  rw [List.getElem?_append_right (by omega)]
  congr 1
  omega
theorem nodup_inj {α β : Type} {f : α → β} : ∀ {l : List α}, (l.map f).Nodup → ∀ {x y : α}, x ∈ l → y ∈ l → f x = f y → x = y
  | [], _, x, y, hx, _, _ => by simp at hx
  | z :: l, hn, x, y, hx, hy, hxy => by
    simp only [List.map_cons, List.nodup_cons] at hn
    rcases List.mem_cons.mp hx with hx | hx <;> rcases List.mem_cons.mp hy with hy | hy
    · rw [hx, hy]
    · exact absurd (List.mem_map_of_mem (f := f) hy) (by rw [← hxy, hx]; exact hn.1)
    · exact absurd (List.mem_map_of_mem (f := f) hx) (by rw [hxy, hy]; exact hn.1)
    · exact nodup_inj hn.2 hx hy hxy
/-- one column more -/
theorem col_more {P : Prog} {call : Call} {S G : Sto} {ev : List (Key × Int)} {ks : List (Key × Nat)} (I : ColsI S.length ev G ks) (hks : ks.length ≤ 100) (hev : ev.length ≤ 1000) {f : List Nat} {t col : Int} {e0 e3 e5 e7 : Option D} :
    ∃ G' ks', ColsI S.length (ev ++ [((f, t), col)]) G' ks' ∧ ks'.length ≤ ks.length + 1 ∧
      execS P call (.expr (.mth .append (.mth .setdef (.var 1) [.tup [.var 4, .var 6], .newL []]) [.var 2])) [e0, some (.ref S.length), some (.int col), e3, some (.str f), e5, some (.int t), e7] (S ++ G)
        = .next [e0, some (.ref S.length), some (.int col), e3, some (.str f), e5, some (.int t), e7] (S ++ G') := by
  have hD : (S ++ (G ++ [Ob.lst []]))[S.length]? = some (.dct (ks.map fun e => (kD e.1, .ref (S.length + e.2)))) := by
    have h0 : 0 < G.length := (List.getElem?_eq_some_iff.mp I.d).1
    have : (S ++ (G ++ [Ob.lst []]))[S.length + 0]? = (G ++ [Ob.lst []])[0]? := get_base 0
    rw [Nat.add_zero] at this
    rw [this, List.getElem?_append_left h0]
    exact I.d
  have hD0 : (S ++ G)[S.length]? = some (.dct (ks.map fun e => (kD e.1, .ref (S.length + e.2)))) := by
    have : (S ++ G)[S.length + 0]? = G[0]? := get_base 0
    rw [Nat.add_zero] at this
    rw [this]
    exact I.d
  have hkc : ((kD (f, t)).kcls == 2) = true := by simp [D.kcls, D.isKey0]
  have hfit := fit_map (b := S.length) ks (f, t)
  have hkl : (ks.map fun e => (kD e.1, D.ref (S.length + e.2))).length < SZ := by
    rw [List.length_map]
    show _ < 16777216
    omega
  have hcl : ∀ k, (colsK ev k).length < SZ := fun k => by
    unfold colsK
    rw [List.length_map]
    have := List.length_filter_le (fun e : Key × Int => decide (e.1 = k)) ev
    show _ < 16777216
    omega
  -- how it goes once the list is known
  have fin : ∀ (G1 : Sto) (a : Nat) (xs : List D), bmR .setdef (.ref S.length) [kD (f, t), .ref (S.length + G.length)] (S ++ (G ++ [Ob.lst []])) = .ok (.ref (S.length + a)) (S ++ G1) → G1[a]? = some (.lst xs) → xs.length < SZ →
      execS P call (.expr (.mth .append (.mth .setdef (.var 1) [.tup [.var 4, .var 6], .newL []]) [.var 2])) [e0, some (.ref S.length), some (.int col), e3, some (.str f), e5, some (.int t), e7] (S ++ G)
        = .next [e0, some (.ref S.length), some (.int col), e3, some (.str f), e5, some (.int t), e7] (S ++ G1.set a (.lst (xs ++ [.int col]))) := by
    intro G1 a xs h1 h2 h3
    have h2' : (S ++ G1)[S.length + a]? = some (.lst xs) := by rw [get_base]; exact h2
    have hap := append_ok (S ++ G1) (.int col) h2' h3
    rw [set_base] at hap
    have hk1 := (kind_d (S ++ G) hD0).2
    have hk2 := (kind_l (S ++ G1) h2').1
    have e1 : evalL P call [.tup [.var 4, .var 6], .newL []] [e0, some (.ref S.length), some (.int col), e3, some (.str f), e5, some (.int t), e7] (S ++ G) = .ok [kD (f, t), .ref (S.length + G.length)] (S ++ (G ++ [Ob.lst []])) := by
      simp [List.append_assoc]
    have e2 : evalE P call (.mth .setdef (.var 1) [.tup [.var 4, .var 6], .newL []]) [e0, some (.ref S.length), some (.int col), e3, some (.str f), e5, some (.int t), e7] (S ++ G) = .ok (.ref (S.length + a)) (S ++ G1) := by
      rw [ev_mth, ev_var, slot_s, slot_0, bind_ok, if_pos hk1, e1, bind_ok, h1]
    rw [ex_expr, ev_mth, e2, bind_ok, if_pos hk2, ev_l1, ev_var, slot_s, slot_s, slot_0, bind_ok, ev_l0, bind_ok, bind_ok, hap, R.stm_ok]
  by_cases hk : (f, t) ∈ ks.map (·.1)
  · obtain ⟨⟨k0, a⟩, he, hk0⟩ := List.mem_map.mp hk
    simp only at hk0
    subst hk0
    have hdg := dget_map (b := S.length) I.n he
    have ha := I.l _ he
    have hal : a < G.length := (List.getElem?_eq_some_iff.mp ha.2).1
    have hsd : bmR .setdef (.ref S.length) [kD (f, t), .ref (S.length + G.length)] (S ++ (G ++ [Ob.lst []])) = .ok (.ref (S.length + a)) (S ++ (G ++ [Ob.lst []])) := by
      simp only [bmR, hD, hfit, hkc, Bool.and_self, if_true, hdg]
    have h2 : (G ++ [Ob.lst []])[a]? = some (.lst ((colsK ev (f, t)).map .int)) := by rw [List.getElem?_append_left hal]; exact ha.2
    refine ⟨(G ++ [Ob.lst []]).set a (.lst ((colsK ev (f, t)).map .int ++ [.int col])), ks, ⟨?_, ?_, I.n, I.a, ?_⟩, by omega, fin _ a _ hsd h2 (by rw [List.length_map]; exact hcl (f, t))⟩
    · rw [List.getElem?_set_ne (by have := ha.1; simp only at this; omega), List.getElem?_append_left (by omega)]
      exact I.d
    · rintro ⟨k', a'⟩ he'
      have ha' := I.l _ he'
      have hal' : a' < G.length := (List.getElem?_eq_some_iff.mp ha'.2).1
      refine ⟨ha'.1, ?_⟩
      by_cases hk' : (f, t) = k'
      · subst hk'
        have : a' = a := by
          have h1 := dget_map (b := S.length) I.n he'
          rw [hdg] at h1
          simp at h1
          omega
        subst this
        rw [List.getElem?_set_self (by simp; omega), colsK_snoc, if_pos rfl]
        simp
      · have hne : a ≠ a' := by
          intro q
          subst q
          have := nodup_inj I.a he he' rfl
          exact hk' (congrArg Prod.fst this)
        rw [List.getElem?_set_ne hne, List.getElem?_append_left hal', colsK_snoc, if_neg hk']
        exact ha'.2
    · intro k'
      rw [I.m k', colsK_snoc]
      by_cases hk' : (f, t) = k'
      · subst hk'
        have := (I.m (f, t)).mp hk
        simp [this]
      · rw [if_neg hk']
  · have hdg := dget_none (b := S.length) hk
    have h0 : 0 < G.length := (List.getElem?_eq_some_iff.mp I.d).1
    have hput : dput (ks.map fun e => (kD e.1, D.ref (S.length + e.2))) (kD (f, t)) (.ref (S.length + G.length)) = (ks ++ [((f, t), G.length)]).map fun e => (kD e.1, D.ref (S.length + e.2)) := by
      have hany : ((ks.map fun e => (kD e.1, D.ref (S.length + e.2))).any fun p => decide (p.1 = kD (f, t))) = false := by
        rw [List.any_eq_false]
        intro p hp
        obtain ⟨e, he, rfl⟩ := List.mem_map.mp hp
        simp only [decide_eq_true_eq]
        intro q
        refine hk (List.mem_map.mpr ⟨e, he, ?_⟩)
        simp at q
        exact Prod.ext q.1 q.2
      simp only [dput, hany, Bool.false_eq_true, if_false, List.map_append, List.map_cons, List.map_nil]
    have hsd : bmR .setdef (.ref S.length) [kD (f, t), .ref (S.length + G.length)] (S ++ (G ++ [Ob.lst []])) = .ok (.ref (S.length + G.length)) (S ++ (G ++ [Ob.lst []]).set 0 (.dct ((ks ++ [((f, t), G.length)]).map fun e => (kD e.1, D.ref (S.length + e.2))))) := by
      simp only [bmR, hD, hfit, hkc, Bool.and_self, if_true, hdg, hkl, hput]
      rw [show S.length = S.length + 0 from rfl, set_base]
    have hgl : ((G ++ [Ob.lst []]).set 0 (.dct ((ks ++ [((f, t), G.length)]).map fun e => (kD e.1, D.ref (S.length + e.2)))))[G.length]? = some (.lst []) := by
      rw [List.getElem?_set_ne (by omega)]
      simp
    have hc0 : colsK ev (f, t) = [] := by
      cases hc : colsK ev (f, t) with
      | nil => rfl
      | cons a r => exact absurd ((I.m (f, t)).mpr (by rw [hc]; simp)) hk
    refine ⟨_, ks ++ [((f, t), G.length)], ⟨?_, ?_, ?_, ?_, ?_⟩, by simp, fin _ _ [] hsd hgl (by decide)⟩
    · rw [List.getElem?_set_ne (by omega), List.getElem?_set_self (by simp)]
    · rintro ⟨k', a'⟩ he'
      rcases List.mem_append.mp he' with he' | he'
      · have ha' := I.l _ he'
        have hal' : a' < G.length := (List.getElem?_eq_some_iff.mp ha'.2).1
        have hne : (f, t) ≠ k' := fun q => hk (List.mem_map.mpr ⟨_, he', q.symm⟩)
        refine ⟨ha'.1, ?_⟩
        rw [List.getElem?_set_ne (by omega), List.getElem?_set_ne (by have := ha'.1; omega), List.getElem?_append_left hal', colsK_snoc, if_neg hne]
        exact ha'.2
      · simp only [List.mem_singleton, Prod.mk.injEq] at he'
        obtain ⟨rfl, rfl⟩ := he'
        refine ⟨h0, ?_⟩
        rw [List.getElem?_set_self (by simp), colsK_snoc, if_pos rfl, hc0]
        rfl
    · rw [List.map_append, List.nodup_append]
      refine ⟨I.n, by simp, fun a ha b hb => ?_⟩
      simp only [List.map_cons, List.map_nil, List.mem_singleton] at hb
      subst hb
      exact fun q => hk (q ▸ ha)
    · rw [List.map_append, List.nodup_append]
      refine ⟨I.a, by simp, fun a ha b hb => ?_⟩
      simp only [List.map_cons, List.map_nil, List.mem_singleton] at hb
      subst hb
      obtain ⟨e, he, rfl⟩ := List.mem_map.mp ha
      have := (List.getElem?_eq_some_iff.mp (I.l e he).2).1
      omega
    · intro k'
      rw [List.map_append, List.mem_append, I.m k', colsK_snoc]
      by_cases hk' : (f, t) = k'
      · subst hk'; simp
      · rw [if_neg hk']
        simp only [List.map_cons, List.map_nil, List.mem_singleton]
        constructor
        · rintro (h | h)
          · exact h
          · exact absurd h.symm hk'
        · exact fun h => .inl h
/-- what a sign tells -/
def evs (s : Sg) : List (Key × Int) := if s.tms = 1 then [((s.fnt, 1), s.col)] else [((s.fnt, 1), s.col), ((s.fnt, 2), s.col)]
abbrev inB : List St := [.expr (.mth .append (.mth .setdef (.var 1) [.tup [.var 4, .var 6], .newL []]) [.var 2])]
theorem sign_more {P : Prog} {call : Call} {S G : Sto} {ev : List (Key × Int)} {ks : List (Key × Nat)} (I : ColsI S.length ev G ks) (hks : ks.length ≤ 90) (hev : ev.length ≤ 900) (s : Sg) (ht : s.tms = 1 ∨ s.tms = 2) {e0 e2 e3 e4 e5 e6 e7 : Option D} :
    ∃ G' ks' e6', ColsI S.length (ev ++ evs s) G' ks' ∧ ks'.length ≤ ks.length + 2 ∧
      forT P call (.tup [.name 2, .name 3, .name 4, .name 5]) [.for (.name 6) (.rng2 (.lit (.int (1))) (.bin .Add (.var 5) (.lit (.int (1))))) inB] s.d [e0, some (.ref S.length), e2, e3, e4, e5, e6, e7] (S ++ G)
        = .next [e0, some (.ref S.length), some (.int s.col), some (.str [s.ch]), some (.str s.fnt), some (.int s.tms), e6', e7] (S ++ G') := by
  obtain ⟨G1, k1, I1, hk1, h1⟩ := col_more (P := P) (call := call) I (by omega) (by omega) (f := s.fnt) (t := 1) (col := s.col) (e0 := e0) (e3 := some (.str [s.ch])) (e5 := some (.int s.tms)) (e7 := e7)
  have ft : forT P call (.tup [.name 2, .name 3, .name 4, .name 5]) [.for (.name 6) (.rng2 (.lit (.int (1))) (.bin .Add (.var 5) (.lit (.int (1))))) inB] s.d [e0, some (.ref S.length), e2, e3, e4, e5, e6, e7] (S ++ G) = execs P call [.for (.name 6) (.rng2 (.lit (.int (1))) (.bin .Add (.var 5) (.lit (.int (1))))) inB] [e0, some (.ref S.length), some (.int s.col), some (.str [s.ch]), some (.str s.fnt), some (.int s.tms), e6, e7] (S ++ G) := by
    simp [setTg, setTgs]
  rcases ht with ht | ht
  · refine ⟨G1, k1, some (.int 1), by simpa [evs, ht] using I1, by omega, ?_⟩
    have a1 : execS P call (.for (.name 6) (.rng2 (.lit (.int (1))) (.bin .Add (.var 5) (.lit (.int (1))))) inB) [e0, some (.ref S.length), some (.int s.col), some (.str [s.ch]), some (.str s.fnt), some (.int s.tms), e6, e7] (S ++ G) = forL [] (forT P call (.name 6) inB) [.int 1] [e0, some (.ref S.length), some (.int s.col), some (.str [s.ch]), some (.str s.fnt), some (.int s.tms), e6, e7] (S ++ G) := by
      refine (for_rng2 (i := 1) (j := s.tms + 1) (by rw [ev_lit]) (by simp) (by omega) (by omega) (by omega) (by omega)).trans ?_
      rw [ht]
      rfl
    have a2 : forT P call (.name 6) inB (.int 1) [e0, some (.ref S.length), some (.int s.col), some (.str [s.ch]), some (.str s.fnt), some (.int s.tms), e6, e7] (S ++ G) = .next [e0, some (.ref S.length), some (.int s.col), some (.str [s.ch]), some (.str s.fnt), some (.int s.tms), some (.int 1), e7] (S ++ G1) := by
      rw [forT_n]
      exact (ex_one h1).trans ex_nil
    rw [ft]
    refine (ex_one ?_).trans ex_nil
    rw [a1]
    simp only [forL, stay_nil, if_true, a2]
  · obtain ⟨G2, k2, I2, hk2, h2⟩ := col_more (P := P) (call := call) I1 (by omega) (by simp; omega) (f := s.fnt) (t := 2) (col := s.col) (e0 := e0) (e3 := some (.str [s.ch])) (e5 := some (.int s.tms)) (e7 := e7)
    refine ⟨G2, k2, some (.int 2), by simpa [evs, ht] using I2, by omega, ?_⟩
    have a1 : execS P call (.for (.name 6) (.rng2 (.lit (.int (1))) (.bin .Add (.var 5) (.lit (.int (1))))) inB) [e0, some (.ref S.length), some (.int s.col), some (.str [s.ch]), some (.str s.fnt), some (.int s.tms), e6, e7] (S ++ G) = forL [] (forT P call (.name 6) inB) [.int 1, .int 2] [e0, some (.ref S.length), some (.int s.col), some (.str [s.ch]), some (.str s.fnt), some (.int s.tms), e6, e7] (S ++ G) := by
      refine (for_rng2 (i := 1) (j := s.tms + 1) (by rw [ev_lit]) (by simp) (by omega) (by omega) (by omega) (by omega)).trans ?_
      rw [ht]
      rfl
    have a2 : forT P call (.name 6) inB (.int 1) [e0, some (.ref S.length), some (.int s.col), some (.str [s.ch]), some (.str s.fnt), some (.int s.tms), e6, e7] (S ++ G) = .next [e0, some (.ref S.length), some (.int s.col), some (.str [s.ch]), some (.str s.fnt), some (.int s.tms), some (.int 1), e7] (S ++ G1) := by
      rw [forT_n]
      exact (ex_one h1).trans ex_nil
    have a3 : forT P call (.name 6) inB (.int 2) [e0, some (.ref S.length), some (.int s.col), some (.str [s.ch]), some (.str s.fnt), some (.int s.tms), some (.int 1), e7] (S ++ G1) = .next [e0, some (.ref S.length), some (.int s.col), some (.str [s.ch]), some (.str s.fnt), some (.int s.tms), some (.int 2), e7] (S ++ G2) := by
      rw [forT_n]
      exact (ex_one h2).trans ex_nil
    rw [ft]
    refine (ex_one ?_).trans ex_nil
    rw [a1]
    simp only [forL, stay_nil, if_true, a2, a3]
/-- the columns of keys are those of the program's own reckoning -/
theorem colsK_signs : ∀ {sg : List Sg}, (∀ s ∈ sg, s.tms = 1 ∨ s.tms = 2) → ∀ (f : List Nat) (t : Int), (t = 1 ∨ t = 2) → colsK (sg.flatMap evs) (f, t) = colsOf sg f t
  | [], _, f, t, _ => rfl
  | s :: sg, h, f, t, ht => by
    have ih := colsK_signs (sg := sg) (fun x hx => h x (by simp [hx])) f t ht
    have h1 := h s (by simp)
    have e : colsK ((s :: sg).flatMap evs) (f, t) = colsK (evs s) (f, t) ++ colsK (sg.flatMap evs) (f, t) := by simp [colsK]
    have e2 : colsOf (s :: sg) f t = colsOf [s] f t ++ colsOf sg f t := by
      simp only [colsOf, List.filter_cons]
      split <;> simp
    rw [e, e2, ih]
    congr 1
    simp only [colsK, colsOf, evs, List.filter_cons, List.filter_nil]
    by_cases hf : s.fnt = f
    · rcases h1 with h1 | h1 <;> rcases ht with rfl | rfl <;> simp [h1, hf]
    · rcases h1 with h1 | h1 <;> rcases ht with rfl | rfl <;> simp [h1, hf]
theorem colsK_key {sg : List Sg} (h : ∀ s ∈ sg, (s.fnt = [97] ∨ s.fnt = [98] ∨ s.fnt = [99]) ∧ (s.tms = 1 ∨ s.tms = 2)) {k : Key} (hk : colsK (sg.flatMap evs) k ≠ []) : k ∈ keys6 := by
  have : ∃ e ∈ sg.flatMap evs, e.1 = k := by
    cases hl : (sg.flatMap evs).filter (fun e => decide (e.1 = k)) with
    | nil => exact absurd (by simp [colsK, hl]) hk
    | cons a r =>
      have ha : a ∈ (sg.flatMap evs).filter (fun e => decide (e.1 = k)) := by rw [hl]; simp
      have := List.mem_filter.mp ha
      exact ⟨a, this.1, by simpa using this.2⟩
  obtain ⟨e, he, rfl⟩ := this
  obtain ⟨s, hs, hes⟩ := List.mem_flatMap.mp he
  obtain ⟨h1, h2⟩ := h s hs
  unfold evs at hes
  split at hes
  · simp only [List.mem_singleton] at hes
    subst hes
    rcases h1 with h1 | h1 | h1 <;> simp [h1]
  · simp only [List.mem_cons, List.not_mem_nil, or_false] at hes
    rcases hes with rfl | rfl <;> rcases h1 with h1 | h1 | h1 <;> simp [h1]
end HW
/-! The law's own signs, passes, steps, ways. -/
namespace HW
section
variable {P : Prog} {iG iQ iZ iY iDr n : Nat} {S : Sto}
abbrev sgB : List St := [.asg (.name 1) (.bin .Add (.var 1) (.tup [.tup [.bin .Add (.var 2) (.var 6), .var 7, .var 4, .var 5]]))]
theorem sg_turn {call : Call} {acc : List D} {col : Int} {f : List Nat} {t : Int} {p : Nat × Nat} {e0 e3 e6 e7 : Option D} (hl : acc.length + 1 ≤ SZ) :
    forT P call (.tup [.name 6, .name 7]) sgB (.tup [.int (p.2 : Int), .str [p.1]]) [e0, some (.tup acc), some (.int col), e3, some (.str f), some (.int t), e6, e7] S
      = .next [e0, some (.tup (acc ++ [.tup [.int (col + (p.2 : Int)), .str [p.1], .str f, .int t]])), some (.int col), e3, some (.str f), some (.int t), some (.int (p.2 : Int)), some (.str [p.1])] S := by
  simp [setTgs, setTg, add_tup (show acc.length + [D.tup [.int (col + (p.2 : Int)), .str [p.1], .str f, .int t]].length ≤ SZ from hl)]
theorem sg_run {call : Call} {acc : List D} {r : Rn} {e0 e2 e3 e4 e5 e6 e7 : Option D} (hl : acc.length + r.txt.length ≤ 1000) :
    ∃ e6' e7', forT P call (.tup [.name 2, .name 3, .name 4, .name 5]) [.for (.tup [.name 6, .name 7]) (.enum (.var 3)) sgB] r.d [e0, some (.tup acc), e2, e3, e4, e5, e6, e7] S
      = .next [e0, some (.tup (acc ++ r.sgs.map Sg.d)), some (.int r.col), some (.str r.txt), some (.str r.fnt), some (.int r.tms), e6', e7'] S := by
  have loop := for_pre (own := []) (xs := r.txt.zipIdx 0) (enc := fun p => D.tup [.int (p.2 : Int), .str [p.1]]) (turn := forT P call (.tup [.name 6, .name 7]) sgB) (env := [e0, some (.tup acc), some (.int r.col), some (.str r.txt), some (.str r.fnt), some (.int r.tms), e6, e7]) (S := S)
    (fun pre env S' => S' = S ∧ ∃ e6 e7, env = [e0, some (.tup (acc ++ pre.map fun p => D.tup [.int (r.col + (p.2 : Int)), .str [p.1], .str r.fnt, .int r.tms])), some (.int r.col), some (.str r.txt), some (.str r.fnt), some (.int r.tms), e6, e7]) (fun _ _ _ _ => rfl) ⟨rfl, e6, e7, by simp⟩ (by
      rintro pre p post env S' e ⟨rfl, e6, e7, rfl⟩
      have hlen : r.txt.length = pre.length + (post.length + 1) := by
        have := congrArg List.length e
        simpa using this
      refine ⟨_, _, sg_turn (by simp only [List.length_append, List.length_map]; show _ ≤ 16777216; omega), rfl, some (.int (p.2 : Int)), some (.str [p.1]), ?_⟩
      rw [List.map_append, ← List.append_assoc]
      rfl)
  obtain ⟨env', S', hl2, rfl, e6', e7', rfl⟩ := loop
  refine ⟨e6', e7', ?_⟩
  have hz := sgs_zip r.fnt r.tms r.col r.txt 0
  simp only [Int.natCast_zero, Int.add_zero] at hz
  rw [hz] at hl2
  have ft : forT P call (.tup [.name 2, .name 3, .name 4, .name 5]) [.for (.tup [.name 6, .name 7]) (.enum (.var 3)) sgB] r.d [e0, some (.tup acc), e2, e3, e4, e5, e6, e7] S' = execs P call [.for (.tup [.name 6, .name 7]) (.enum (.var 3)) sgB] [e0, some (.tup acc), some (.int r.col), some (.str r.txt), some (.str r.fnt), some (.int r.tms), e6, e7] S' := by
    simp [setTg, setTgs]
  rw [ft]
  refine (ex_one ?_).trans ex_nil
  rw [ex_for, ev_enum, ev_var, slot_s, slot_s, slot_s, slot_0, bind_ok, enumR_str, R.stm_ok]
  exact hl2
theorem law_signs_ok (h : P.defs[iG]? = some D__law_signs) {row : Row} (RS : Small row) : run P (n + 1) iG [rowD row] S = .ok (.tup ((signs row).map Sg.d)) S := by
  have loop := for_pre (own := []) (xs := row) (enc := Rn.d) (turn := forT P (run P n) (.tup [.name 2, .name 3, .name 4, .name 5]) [.for (.tup [.name 6, .name 7]) (.enum (.var 3)) sgB]) (env := [some (rowD row), some (.tup []), none, none, none, none, none, none]) (S := S)
    (fun pre env S' => S' = S ∧ ∃ e2 e3 e4 e5 e6 e7, env = [some (rowD row), some (.tup ((signs pre).map Sg.d)), e2, e3, e4, e5, e6, e7]) (fun _ _ _ _ => rfl) ⟨rfl, _, _, _, _, _, _, rfl⟩ (by
      rintro pre r post env S' e ⟨rfl, e2, e3, e4, e5, e6, e7, rfl⟩
      have hlen : (signs pre).length + r.txt.length ≤ 1000 := by
        have := Small.len RS.t
        rw [e] at this
        simp only [signs_app, signs_cons, List.length_append, sgs_len, List.length_cons] at this
        have := RS.l
        rw [e] at this
        simp only [List.length_append, List.length_cons] at this
        omega
      obtain ⟨e6', e7', hx⟩ := sg_run (P := P) (call := run P n) (S := S') (acc := (signs pre).map Sg.d) (r := r) (e0 := some (rowD row)) (e2 := e2) (e3 := e3) (e4 := e4) (e5 := e5) (e6 := e6) (e7 := e7) (by rw [List.length_map]; exact hlen)
      refine ⟨_, _, hx, rfl, some (.int r.col), some (.str r.txt), some (.str r.fnt), some (.int r.tms), e6', e7', ?_⟩
      rw [← List.map_append]
      have : signs pre ++ r.sgs = signs (pre ++ [r]) := by simp
      rw [this])
  obtain ⟨env', S', hl, rfl, e2, e3, e4, e5, e6, e7, rfl⟩ := loop
  have a1 : execS P (run P n) (.asg (.name 1) (.tup [])) [some (rowD row), none, none, none, none, none, none, none] S' = .next [some (rowD row), some (.tup []), none, none, none, none, none, none] S' := by simp
  have a2 : execS P (run P n) (.for (.tup [.name 2, .name 3, .name 4, .name 5]) (.seq (.var 0)) [.for (.tup [.name 6, .name 7]) (.enum (.var 3)) sgB]) [some (rowD row), some (.tup []), none, none, none, none, none, none] S' = .next [some (rowD row), some (.tup ((signs row).map Sg.d)), e2, e3, e4, e5, e6, e7] S' := by
    rw [ex_for, ev_seq, ev_var]
    exact hl
  rw [run_of h rfl]
  show endR (execs P (run P n) [_, _, _] [some (rowD row), none, none, none, none, none, none, none] S') = _
  rw [ex_one a1]
  refine (congrArg endR (ex_one a2)).trans ?_
  simp
abbrev psB : List St := [.for (.name 6) (.rng2 (.lit (.int (1))) (.bin .Add (.var 5) (.lit (.int (1))))) inB]
abbrev psE : X := .bin .Add (.var 7) (.tup [.blt .minL [.idx (.var 1) (.var 7)], .blt .maxL [.idx (.var 1) (.var 7)]])
theorem min_ref {l : List Int} {a : Nat} (h : S[a]? = some (.lst (l.map D.int))) (hl : l ≠ []) : bfD S .minL [.ref a] = some (.int (mnL l)) := by
  have : bfD S .minL [.ref a] = bfD S .minL [.lst (l.map D.int)] := by simp only [bfD, listD, vw, h]
  rw [this, minL_map S hl]
theorem max_ref {l : List Int} {a : Nat} (h : S[a]? = some (.lst (l.map D.int))) (hl : l ≠ []) : bfD S .maxL [.ref a] = some (.int (mxL l)) := by
  have : bfD S .maxL [.ref a] = bfD S .maxL [.lst (l.map D.int)] := by simp only [bfD, listD, vw, h]
  rw [this, maxL_map S hl]
theorem ps_turn {call : Call} {q a : Nat} {k : Key} {x y : Int} {e0 e2 e3 e4 e5 e6 e7 : Option D} (h1 : idxD S (.ref q) (kD k) = some (.ref a)) (h2 : bfD S .minL [.ref a] = some (.int x)) (h3 : bfD S .maxL [.ref a] = some (.int y)) :
    compT P call psE (.name 7) [] [7] [e0, some (.ref q), e2, e3, e4, e5, e6, e7] (kD k) S = .ok (some (Ps.d ⟨k.1, k.2, x, y⟩)) S := by
  have ha := add_tup (x := [D.str k.1, .int k.2]) (y := [.int x, .int y]) (by show 4 ≤ 16777216; decide)
  simp [compT, setTg, wipeE, h1, h2, h3, ha]
theorem ps_end {call : Call} {q : Nat} {ds es : List D} {e0 e2 e3 e4 e5 e6 e7 : Option D} (h1 : sortedD S (.ref q) = some (.lst ds)) (h2 : compR P call psE (.name 7) [] [7] [e0, some (.ref q), e2, e3, e4, e5, e6, e7] ⟨ds, []⟩ S = .ok (.lst es) S) :
    endR (execs P call [.ret (.blt .tuple [.comp psE (.name 7) (.seq (.blt .sorted [.var 1])) [] [7]])] [e0, some (.ref q), e2, e3, e4, e5, e6, e7] S) = .ok (.tup es) S := by
  simp [h1, h2]
theorem law_passes_ok (hG : P.defs[iG]? = some D__law_signs) (hQ : P.defs[iQ]? = some (D__law_passes iG)) {w : Int} {row : Row} (R0 : RowOk w row) : run P (n + 2) iQ [rowD row] S = .ok (.tup ((passes row).map Ps.d)) S := by
  have hsl : (signs row).length ≤ 40 := by have := signs_len R0.r; have := R0.l; omega
  have hk : ∀ s ∈ signs row, (s.fnt = [97] ∨ s.fnt = [98] ∨ s.fnt = [99]) ∧ (s.tms = 1 ∨ s.tms = 2) := fun s hs => signs_key R0 hs
  have evl : ∀ l : List Sg, (l.flatMap evs).length ≤ 2 * l.length := by
    intro l
    induction l with
    | nil => simp
    | cons s l ih =>
      have : (evs s).length ≤ 2 := by unfold evs; split <;> simp
      simp only [List.flatMap_cons, List.length_append, List.length_cons]
      omega
  have loop := for_pre (own := []) (xs := signs row) (enc := Sg.d) (turn := forT P (run P (n + 1)) (.tup [.name 2, .name 3, .name 4, .name 5]) psB) (env := [some (rowD row), some (.ref S.length), none, none, none, none, none, none]) (S := S ++ [.dct []])
    (fun pre env S' => ∃ G ks e2 e3 e4 e5 e6 e7, S' = S ++ G ∧ ColsI S.length (pre.flatMap evs) G ks ∧ ks.length ≤ 2 * pre.length ∧ env = [some (rowD row), some (.ref S.length), e2, e3, e4, e5, e6, e7]) (fun _ _ _ _ => rfl)
    ⟨[.dct []], [], none, none, none, none, none, none, rfl, ⟨rfl, by simp, by simp, by simp, fun k => by simp [colsK]⟩, by simp, rfl⟩ (by
      rintro pre s post env S' e ⟨G, ks, e2, e3, e4, e5, e6, e7, rfl, I, hks, rfl⟩
      have hlen : (signs row).length = pre.length + (post.length + 1) := by rw [e]; simp
      have hs : s ∈ signs row := by rw [e]; simp
      obtain ⟨G', ks', e6', I', hk', hx⟩ := sign_more (P := P) (call := run P (n + 1)) I (by omega) (by have := evl pre; omega) s (hk s hs).2 (e0 := some (rowD row)) (e2 := e2) (e3 := e3) (e4 := e4) (e5 := e5) (e6 := e6) (e7 := e7)
      refine ⟨_, _, hx, G', ks', some (.int s.col), some (.str [s.ch]), some (.str s.fnt), some (.int s.tms), e6', e7, rfl, by simpa using I', by simp; omega, rfl⟩)
  obtain ⟨env', S', hl, G, ks, e2, e3, e4, e5, e6, e7, rfl, I, hks, rfl⟩ := loop
  have hD : (S ++ G)[S.length]? = some (.dct (ks.map fun e => (kD e.1, .ref (S.length + e.2)))) := by
    have : (S ++ G)[S.length + 0]? = G[0]? := get_base 0
    rw [Nat.add_zero] at this
    rw [this]
    exact I.d
  -- the keys, sorted
  have hc : ∀ k : Key, k ∈ keys6 → colsK ((signs row).flatMap evs) k = colsOf (signs row) k.1 k.2 := by
    intro k hk6
    refine colsK_signs (fun s hs => (hk s hs).2) k.1 k.2 ?_
    simp only [keys6, List.mem_cons, List.not_mem_nil, or_false] at hk6
    rcases hk6 with rfl | rfl | rfl | rfl | rfl | rfl <;> simp
  have hnd : (keys6.filter fun k => decide (colsOf (signs row) k.1 k.2 ≠ [])).Nodup := (keys6_pw.imp fun h => h.2).filter _
  have hperm : (ks.map (·.1)).Perm (keys6.filter fun k => decide (colsOf (signs row) k.1 k.2 ≠ [])) := by
    rw [List.perm_ext_iff_of_nodup I.n hnd]
    intro k
    rw [I.m k, List.mem_filter]
    constructor
    · intro h
      have h6 := colsK_key hk h
      rw [hc k h6] at h
      exact ⟨h6, by simpa using h⟩
    · rintro ⟨h6, h⟩
      rw [hc k h6]
      simpa using h
  have hat : ∀ k ∈ ks.map (·.1), kD k = .tup (([.c (k.1.headD 0), .i k.2] : List At).map At.d) ∧ ([.c (k.1.headD 0), .i k.2] : List At).map At.k = [1, 0] := by
    intro k hkm
    have h6 := colsK_key hk ((I.m k).mp hkm)
    simp only [keys6, List.mem_cons, List.not_mem_nil, or_false] at h6
    rcases h6 with rfl | rfl | rfl | rfl | rfl | rfl <;> simp [At.d, At.k]
  have hkl : (ks.map (·.1)).length ≤ 1000 := by rw [List.length_map]; omega
  have sb := sortable_at (fun k : Key => [.c (k.1.headD 0), .i k.2]) [1, 0] hat (by simp) (by show _ ≤ 16777216; omega)
  have so : sortD ((ks.map (·.1)).map kD) = (keys6.filter fun k => decide (colsOf (signs row) k.1 k.2 ≠ [])).map kD := by
    refine sortD_at (fun k : Key => [.c (k.1.headD 0), .i k.2]) [1, 0] hat (fun a ha b hb h => ?_) hperm ?_
    · have ha6 := colsK_key hk ((I.m a).mp ha)
      have hb6 := colsK_key hk ((I.m b).mp hb)
      obtain ⟨a1, a2⟩ := a
      obtain ⟨b1, b2⟩ := b
      have hs1 : ∀ (x : List Nat) (t : Int), (x, t) ∈ keys6 → ∃ c, x = [c] := by
        intro x t hx
        simp only [keys6, List.mem_cons, Prod.mk.injEq, List.not_mem_nil, or_false] at hx
        rcases hx with h | h | h | h | h | h <;> exact ⟨_, h.1⟩
      obtain ⟨x, rfl⟩ := hs1 _ _ ha6
      obtain ⟨y, rfl⟩ := hs1 _ _ hb6
      simp [At.v] at h
      simp
      omega
    · refine (keys6_pw.filter _).imp fun {a b} h => ?_
      simpa [kcode, fc, At.v] using h.1
  have srt : sortedD (S ++ G) (.ref S.length) = some (.lst ((keys6.filter fun k => decide (colsOf (signs row) k.1 k.2 ≠ [])).map kD)) := by
    rw [sorted_dct hD]
    have e : (ks.map fun e => (kD e.1, D.ref (S.length + e.2))).map (·.1) = (ks.map (·.1)).map kD := by simp [Function.comp_def]
    rw [e, if_pos sb, so]
  -- each key's pass
  have hcomp := comp_map (P := P) (call := run P (n + 1)) (elt := psE) (tg := .name 7) (ifs := []) (vs := [7]) (env := [some (rowD row), some (.ref S.length), e2, e3, e4, e5, e6, e7]) (S := S ++ G) (own := []) (xs := keys6.filter fun k => decide (colsOf (signs row) k.1 k.2 ≠ [])) (enc := kD)
    (fun k => Ps.d ⟨k.1, k.2, mnL (colsOf (signs row) k.1 k.2), mxL (colsOf (signs row) k.1 k.2)⟩) (fun k hkm => by
      have hkm' := hperm.mem_iff.mpr hkm
      have h6 := (List.mem_filter.mp hkm).1
      have hne : colsOf (signs row) k.1 k.2 ≠ [] := by simpa using (List.mem_filter.mp hkm).2
      obtain ⟨⟨k0, a⟩, he, hk0⟩ := List.mem_map.mp hkm'
      simp only at hk0
      subst hk0
      have hg : (S ++ G)[S.length + a]? = some (.lst ((colsOf (signs row) k0.1 k0.2).map D.int)) := by
        rw [get_base, (I.l _ he).2, hc k0 h6]
      have h1 : idxD (S ++ G) (.ref S.length) (kD k0) = some (.ref (S.length + a)) := by
        rw [idx_rd _ _ hD, if_pos (fit_map ks k0), dget_map I.n he]
      exact ps_turn h1 (min_ref hg hne) (max_ref hg hne)) rfl (Nat.le_trans (List.length_filter_le _ _) (by show 6 ≤ 16777216; decide))
  have hps : (keys6.filter fun k => decide (colsOf (signs row) k.1 k.2 ≠ [])).map (fun k => Ps.d ⟨k.1, k.2, mnL (colsOf (signs row) k.1 k.2), mxL (colsOf (signs row) k.1 k.2)⟩) = (passes row).map Ps.d := by
    unfold passes
    generalize keys6 = l
    induction l with
    | nil => rfl
    | cons k l ih =>
      by_cases hh : colsOf (signs row) k.1 k.2 = []
      · simp only [List.filter_cons, hh, ne_eq, not_true_eq_false, decide_false, Bool.false_eq_true, if_false, List.filterMap_cons, passAt, if_true]
        exact ih
      · simp only [List.filter_cons, hh, ne_eq, not_false_eq_true, decide_true, if_true, List.filterMap_cons, passAt, if_false, List.map_cons]
        congr 1
  rw [hps] at hcomp
  have hsg := law_signs_ok (n := n) (S := S ++ [.dct []]) hG R0.small
  refine run_gcs (G := G) hQ rfl (by simpa [D.flat] using flat_map (fun x => (Ps.fl x).1) _) ?_
  have a1 : execS P (run P (n + 1)) (.asg (.name 1) (.newD [])) [some (rowD row), none, none, none, none, none, none, none] S = .next [some (rowD row), some (.ref S.length), none, none, none, none, none, none] (S ++ [.dct []]) := by simp
  have a2 : execS P (run P (n + 1)) (.for (.tup [.name 2, .name 3, .name 4, .name 5]) (.seq (.call iG [.var 0])) psB) [some (rowD row), some (.ref S.length), none, none, none, none, none, none] (S ++ [.dct []]) = .next [some (rowD row), some (.ref S.length), e2, e3, e4, e5, e6, e7] (S ++ G) := by
    rw [ex_for, ev_seq, ev_call, ev_l1, ev_var, slot_0, bind_ok, ev_l0, bind_ok, bind_ok, hsg, bind_ok, seqR_tup, R.stm_ok]
    exact hl
  show endR (execs P (run P (n + 1)) [_, _, _] [some (rowD row), none, none, none, none, none, none, none] S) = _
  rw [ex_one a1]
  refine (congrArg endR (ex_one a2)).trans ?_
  exact ps_end srt hcomp
end
end HW
/-! The law's own steps and ways. -/
namespace HW
theorem way_snoc : ∀ {k : Nat} {a : Pg} {pre : List Sp} {row : Row} {ss : List Sp}, WayFrom k a pre → (ss.map Sp.tri).Perm (rowDue (k + a.length) row) → WayFrom k (a ++ [row]) (pre ++ ss)
  | k, _, _, row, ss, .nil, h => by
    have := WayFrom.cons (k := k) (row := row) (ss := ss) (by simpa using h) .nil
    simpa using this
  | k, _, _, row, ss, .cons (row := r) (rows := rows) (ss := ss0) (way := way) h0 hw, h => by
    have := way_snoc hw (row := row) (ss := ss) (by
      have e : k + 1 + rows.length = k + (r :: rows).length := by simp; omega
      rw [e]
      exact h)
    have := WayFrom.cons h0 this
    simpa using this
theorem perm_erase {α : Type} : ∀ (l : List α) (i : Nat) (x : α), l[i]? = some x → l.Perm (x :: l.eraseIdx i)
  | [], i, x, h => by simp at h
  | a :: l, 0, x, h => by simp at h; subst h; simp
  | a :: l, i + 1, x, h => by
    have := perm_erase l i x (by simpa using h)
    simp only [List.eraseIdx_cons_succ]
    exact (this.cons a).trans (.swap _ _ _)
theorem erase_map {α β : Type} (f : α → β) : ∀ (l : List α) (i : Nat), (l.map f).eraseIdx i = (l.eraseIdx i).map f
  | [], i => by simp
  | a :: l, 0 => by simp
  | a :: l, i + 1 => by simp [erase_map f l i]
theorem due_filter : ∀ (pg : Pg) (j k : Nat) (hk : k < pg.length), (dueFrom j pg).filter (fun t => decide (t.row = j + k)) = rowDue (j + k) pg[k]
  | [], j, k, hk => by simp at hk
  | r :: rs, j, 0, hk => by
    simp only [dueFrom, List.filter_append]
    have h1 : (rowDue j r).filter (fun t => decide (t.row = j + 0)) = rowDue j r := by
      rw [List.filter_eq_self]
      intro t ht
      obtain ⟨p, _, rfl⟩ := List.mem_map.mp ht
      simp
    have h2 : (dueFrom (j + 1) rs).filter (fun t => decide (t.row = j + 0)) = [] := by
      rw [List.filter_eq_nil_iff]
      intro t ht
      have := (due_mem ht).1
      simp; omega
    rw [h1, h2]
    simp
  | r :: rs, j, k + 1, hk => by
    simp only [dueFrom, List.filter_append]
    have h1 : (rowDue j r).filter (fun t => decide (t.row = j + (k + 1))) = [] := by
      rw [List.filter_eq_nil_iff]
      intro t ht
      obtain ⟨p, _, rfl⟩ := List.mem_map.mp ht
      simp
    have e : j + (k + 1) = j + 1 + k := by omega
    have h2 := due_filter rs (j + 1) k (by simpa using hk)
    rw [h1, e, h2]
    simp
section
variable {P : Prog} {iG iQ iZ iY iDr n : Nat} {S : Sto}
theorem st_turn {call : Call} {acc ds : List D} {i : Int} {d : D} {e0 e4 e5 e6 e7 : Option D} {ps : List Ps} {e2 e3 : Option D} (hl : acc.length + ps.length ≤ 1000) (h : call iQ [d] S = .ok (.tup (ps.map Ps.d)) S) :
    forT P call (.tup [.name 2, .name 3]) [.asg (.name 1) (.bin .Add (.var 1) (.comp (.tup [.var 2, .var 4, .var 5]) (.tup [.name 4, .name 5, .name 6, .name 7]) (.seq (.call iQ [.var 3])) [] [4, 5, 6, 7]))] (.tup [.int i, d]) [e0, some (.lst acc), e2, e3, e4, e5, e6, e7] S
      = .next [e0, some (.lst (acc ++ ps.map fun p => .tup [.int i, .str p.fnt, .int p.trn])), some (.int i), some d, e4, e5, e6, e7] S := by
  have hc := comp_map (P := P) (call := call) (elt := .tup [.var 2, .var 4, .var 5]) (tg := .tup [.name 4, .name 5, .name 6, .name 7]) (ifs := []) (vs := [4, 5, 6, 7]) (env := [e0, some (.lst acc), some (.int i), some d, e4, e5, e6, e7]) (S := S) (own := []) (xs := ps) (enc := Ps.d) (fun p => D.tup [.int i, .str p.fnt, .int p.trn]) (fun p _ => by simp [compT, setTg, setTgs, wipeE]) rfl (by show _ ≤ 16777216; omega)
  have ha := add_lst (x := acc) (y := ps.map fun p => D.tup [.int i, .str p.fnt, .int p.trn]) (by rw [List.length_map]; show _ ≤ 16777216; omega)
  simp [setTgs, setTg, h, hc, ha]
theorem law_steps_ok (hG : P.defs[iG]? = some D__law_signs) (hQ : P.defs[iQ]? = some (D__law_passes iG)) (hZ : P.defs[iZ]? = some (D__law_steps iQ)) {w : Int} {pg : Pg} (G : PgOk w pg) : run P (n + 3) iZ [pgD pg] S = .ok (.lst ((due pg).map Tr.d)) S := by
  have loop := forL_inv (turn := forT P (run P (n + 2)) (.tup [.name 2, .name 3]) [.asg (.name 1) (.bin .Add (.var 1) (.comp (.tup [.var 2, .var 4, .var 5]) (.tup [.name 4, .name 5, .name 6, .name 7]) (.seq (.call iQ [.var 3])) [] [4, 5, 6, 7]))]) (items := (pg.zipIdx 0).map fun p => D.tup [.int (p.2 : Int), rowD p.1]) (env := [some (pgD pg), some (.lst []), none, none, none, none, none, none]) (S := S)
    (fun i env S' => S' = S ∧ ∃ e2 e3, env = [some (pgD pg), some (.lst ((dueFrom 0 (pg.take i)).map Tr.d)), e2, e3, none, none, none, none]) ⟨rfl, none, none, by simp [dueFrom]⟩ (by
      rintro i d env S' hd ⟨rfl, e2, e3, rfl⟩
      have hi : i < pg.length := by
        have := (List.getElem?_eq_some_iff.mp hd).1
        simpa using this
      have hdi : d = .tup [.int (i : Int), rowD pg[i]] := by
        simp [hi] at hd
        exact hd.symm
      subst hdi
      have hlp := law_passes_ok (n := n) (S := S') hG hQ (G.r pg[i] (List.getElem_mem hi))
      have hlen : ((dueFrom 0 (pg.take i)).map Tr.d).length + (passes pg[i]).length ≤ 1000 := by
        have h1 := due_len (pg.take i) 0
        have h2 := passes_len pg[i]
        have h3 := G.l
        simp only [List.length_map, List.length_take] at *
        omega
      have ht := st_turn (P := P) (iQ := iQ) (call := run P (n + 2)) (S := S') (acc := (dueFrom 0 (pg.take i)).map Tr.d) (ds := []) (i := (i : Int)) (d := rowD pg[i]) (e0 := some (pgD pg)) (e2 := e2) (e3 := e3) (e4 := none) (e5 := none) (e6 := none) (e7 := none) (ps := passes pg[i]) hlen hlp
      refine ⟨_, _, ht, rfl, some (.int (i : Int)), some (rowD pg[i]), ?_⟩
      have e : (passes pg[i]).map (fun p => D.tup [.int (i : Int), .str p.fnt, .int p.trn]) = (rowDue i pg[i]).map Tr.d := by simp [rowDue]
      have e3 : dueFrom 0 (pg.take i) ++ rowDue i pg[i] = dueFrom 0 (pg.take (i + 1)) := by
        rw [List.take_succ_eq_append_getElem hi, due_snoc]
        simp [Nat.min_eq_left (Nat.le_of_lt hi)]
      rw [e, ← List.map_append, e3])
  obtain ⟨env', S', hl, rfl, e2, e3, rfl⟩ := loop
  have hlz : ((pg.zipIdx 0).map fun p => D.tup [.int (p.2 : Int), rowD p.1]).length = pg.length := by simp
  rw [hlz, List.take_length] at hl
  have a1 : execS P (run P (n + 2)) (.asg (.name 1) (.lst [])) [some (pgD pg), none, none, none, none, none, none, none] S' = .next [some (pgD pg), some (.lst []), none, none, none, none, none, none] S' := by simp
  have a2 : execS P (run P (n + 2)) (.for (.tup [.name 2, .name 3]) (.enum (.var 0)) [.asg (.name 1) (.bin .Add (.var 1) (.comp (.tup [.var 2, .var 4, .var 5]) (.tup [.name 4, .name 5, .name 6, .name 7]) (.seq (.call iQ [.var 3])) [] [4, 5, 6, 7]))]) [some (pgD pg), some (.lst []), none, none, none, none, none, none] S' = .next [some (pgD pg), some (.lst ((due pg).map Tr.d)), e2, e3, none, none, none, none] S' := by
    rw [ex_for, ev_enum, ev_var, slot_0, bind_ok, enumR_tup, R.stm_ok]
    exact hl
  rw [run_of hZ rfl]
  show endR (execs P (run P (n + 2)) [_, _, _] [some (pgD pg), none, none, none, none, none, none, none] S') = _
  rw [ex_one a1]
  refine (congrArg endR (ex_one a2)).trans ?_
  simp
theorem tru_rl {a : Nat} {ds : List D} (h : S[a]? = some (.lst ds)) : truD S (.ref a) = some !ds.isEmpty := by simp only [truD, h]
abbrev wyB (iDr : Nat) : List St := [.asg (.name 6) (.mth .popAt (.var 5) [.call iDr [.var 0, .var 1, .blt .len [.var 5]]]), .asg (.name 3) (.bin .Add (.var 3) (.tup [.bin .Add (.var 6) (.tup [.cmp .Eq (.call iDr [.var 0, .var 1, .lit (.int (2))]) (.lit (.int (0)))])]))]
/-- one step is taken -/
theorem wy1 {call : Call} {S1 S2 S3 : Sto} {sc : D} {p : Nat} {ds ds' : List D} {d : D} {r : Int} {e2 e3 e4 e6 : Option D} (h1 : S1[p]? = some (.lst ds)) (h2 : call iDr [sc, .ref 0, .int ds.length] S1 = .ok (.int r) S2) (h3 : bmR .popAt (.ref p) [.int r] S2 = .ok d S3) :
    execS P call (.asg (.name 6) (.mth .popAt (.var 5) [.call iDr [.var 0, .var 1, .blt .len [.var 5]]])) [some sc, some (.ref 0), e2, e3, e4, some (.ref p), e6] S1 = .next [some sc, some (.ref 0), e2, e3, e4, some (.ref p), some d] S3 := by
  have hk := (kind_l S1 h1).2.2.2
  simp only [ex_asgN, ev_mth, ev_var, slot_s, slot_0, bind_ok, hk, if_true, ev_l1, ev_l0, ev_call, ev_blt _ _ (show Bf.len ≠ .dict by simp), len_rl S1 h1, R.of_some, h2, h3, R.stm_ok, List.set_cons_succ, List.set_cons_zero]
theorem wy2 {call : Call} {S1 S2 : Sto} {sc : D} {acc : List D} {t : Tr} {r : Int} {e2 e4 e5 : Option D} (hl : acc.length ≤ 1000) (h2 : call iDr [sc, .ref 0, .int 2] S1 = .ok (.int r) S2) :
    execS P call (.asg (.name 3) (.bin .Add (.var 3) (.tup [.bin .Add (.var 6) (.tup [.cmp .Eq (.call iDr [.var 0, .var 1, .lit (.int (2))]) (.lit (.int (0)))])]))) [some sc, some (.ref 0), e2, some (.tup acc), e4, e5, some t.d] S1
      = .next [some sc, some (.ref 0), e2, some (.tup (acc ++ [(t.sp (decide (r = 0))).d])), e4, e5, some t.d] S2 := by
  have ha := add_tup (x := [D.int t.row, .str t.fnt, .int t.trn]) (y := [.bl (decide (r = 0))]) (by show 4 ≤ 16777216; decide)
  have hb := add_tup (x := acc) (y := [(t.sp (decide (r = 0))).d]) (by show _ + 1 ≤ 16777216; omega)
  simp [h2, ha, hb]
theorem at_end {t x : Ob} {A : Sto} : (t :: (A ++ [x]))[A.length + 1]? = some x := by simp
theorem set_end {t x y : Ob} {A : Sto} : (t :: (A ++ [x])).set (A.length + 1) y = t :: (A ++ [y]) := by simp
/-- one row's steps are taken -/
theorem row_steps (hi : P.defs[iDr]? = some dDraw) (ns : List Int) {A : Sto} {m k : Nat} {row : Row} {pre : List Sp} (hpre : pre.length ≤ 100) (hm : m + 100 < SZ) {e2 e6 : Option D} :
    ∃ ss m' e6', (ss.map Sp.tri).Perm (rowDue k row) ∧ m' ≤ m + 12 ∧
      execS P (run P (n + 1)) (.while (.val (.var 5)) (wyB iDr)) [some (.lst (ns.map .int)), some (.ref 0), e2, some (wayD pre), some (.int (k : Int)), some (.ref (A.length + 1)), e6] (Tn m :: (A ++ [.lst ((rowDue k row).map Tr.d)]))
        = .next [some (.lst (ns.map .int)), some (.ref 0), e2, some (wayD (pre ++ ss)), some (.int (k : Int)), some (.ref (A.length + 1)), e6'] (Tn m' :: (A ++ [.lst []])) := by
  have hrl : (rowDue k row).length ≤ 6 := by have := passes_len row; simpa [rowDue] using this
  have w := while_inv (test := evalT P (run P (n + 1)) (.val (.var 5))) (body := execs P (run P (n + 1)) (wyB iDr))
    (fun i env S => ∃ left ss m' e6, left.length = i ∧ (ss.map Sp.tri ++ left).Perm (rowDue k row) ∧ m' + 2 * i ≤ m + 12 ∧ env = [some (.lst (ns.map .int)), some (.ref 0), e2, some (wayD (pre ++ ss)), some (.int (k : Int)), some (.ref (A.length + 1)), e6] ∧ S = Tn m' :: (A ++ [.lst (left.map Tr.d)]))
    (by
      rintro env S ⟨left, ss, m', e6, hlen, _, _, rfl, rfl⟩
      have : left = [] := List.eq_nil_of_length_eq_zero hlen
      subst this
      rw [ev_tval, ev_var]
      simp only [slot_s, slot_0, bind_ok, tru_rl at_end, List.map_nil, List.isEmpty_nil, Bool.not_true, R.of_some])
    (by
      rintro i env S ⟨left, ss, m', e6, hlen, hperm, hmm, rfl, rfl⟩
      have hpl : ss.length + left.length = (rowDue k row).length := by
        have := hperm.length_eq
        simpa using this
      have hne : (left.map Tr.d).isEmpty = false := by
        cases left with
        | nil => simp at hlen
        | cons a b => rfl
      refine ⟨?_, ?_⟩
      · rw [ev_tval, ev_var]
        simp only [slot_s, slot_0, bind_ok, tru_rl at_end, hne, Bool.not_false, R.of_some]
      · obtain ⟨r, r0, r1, hr⟩ := draw_ok (n := n) hi ns m' (A ++ [.lst (left.map Tr.d)]) ((left.map Tr.d).length : Nat) (by omega) (by rw [List.length_map]; omega)
        rw [List.length_map] at r1
        have hrl2 : r.toNat < left.length := by omega
        obtain ⟨b, b0, b1, hb⟩ := draw_ok (n := n) hi ns (m' + 1) (A ++ [.lst ((left.eraseIdx r.toNat).map Tr.d)]) 2 (by omega) (by decide)
        have hp := popAt_ok (Tn (m' + 1) :: (A ++ [.lst (left.map Tr.d)])) (i := r) (x := (left[r.toNat]).d) at_end r0 (by omega) (by simp [hrl2])
        rw [set_end] at hp
        have he : (left.map Tr.d).eraseIdx r.toNat = (left.eraseIdx r.toNat).map Tr.d := erase_map _ _ _
        rw [he] at hp
        have s1 := wy1 (P := P) (iDr := iDr) (call := run P (n + 1)) (sc := .lst (ns.map .int)) (ds' := []) (e2 := e2) (e3 := some (wayD (pre ++ ss))) (e4 := some (.int (k : Int))) (e6 := e6) at_end hr hp
        have s2 := wy2 (P := P) (iDr := iDr) (call := run P (n + 1)) (sc := .lst (ns.map .int)) (acc := (pre ++ ss).map Sp.d) (t := left[r.toNat]) (e2 := e2) (e4 := some (.int (k : Int))) (e5 := some (.ref (A.length + 1))) (by simp only [List.length_map, List.length_append]; omega) hb
        refine ⟨_, _, (ex_one s1).trans ((ex_one s2).trans ex_nil), left.eraseIdx r.toNat, ss ++ [(left[r.toNat]).sp (decide (b = 0))], m' + 2, some (left[r.toNat]).d, ?_, ?_, by omega, ?_, rfl⟩
        · rw [List.length_eraseIdx_of_lt hrl2]
          omega
        · have h1 := perm_erase left r.toNat left[r.toNat] (by simp [hrl2])
          refine List.Perm.trans ?_ hperm
          simp only [List.map_append, List.map_cons, List.map_nil, List.append_assoc]
          exact List.Perm.append_left _ h1.symm
        · rw [← List.append_assoc, wayD]
          simp only [List.map_append, List.map_cons, List.map_nil])
    (rowDue k row).length 100000 [some (.lst (ns.map .int)), some (.ref 0), e2, some (wayD pre), some (.int (k : Int)), some (.ref (A.length + 1)), e6] (Tn m :: (A ++ [.lst ((rowDue k row).map Tr.d)])) (by omega) ⟨rowDue k row, [], m, e6, rfl, by simp, by omega, by simp, rfl⟩
  obtain ⟨env', S', hw, left, ss, m', e6', hlen, hperm, hmm, rfl, rfl⟩ := w
  have : left = [] := List.eq_nil_of_length_eq_zero hlen
  subst this
  refine ⟨ss, m', e6', by simpa using hperm, by omega, ?_⟩
  rw [ex_while]
  exact hw
theorem wy0 {call : Call} {S : Sto} {pg : Pg} {k : Nat} (hk : k < pg.length) (hd : (due pg).length ≤ 1000) {e0 e1 e3 e5 e6 : Option D} (h : call iZ [pgD pg] S = .ok (.lst ((due pg).map Tr.d)) S) :
    execS P call (.asg (.name 5) (.newC (.var 6) (.name 6) (.seq (.call iZ [.var 2])) [.val (.cmp .Eq (.idx (.var 6) (.lit (.int (0)))) (.var 4))] [6])) [e0, e1, some (pgD pg), e3, some (.int (k : Int)), e5, e6] S
      = .next [e0, e1, some (pgD pg), e3, some (.int (k : Int)), some (.ref S.length), e6] (S ++ [.lst ((rowDue k pg[k]).map Tr.d)]) := by
  have hc := compL_map (own := []) (turn := compT P call (.var 6) (.name 6) [.val (.cmp .Eq (.idx (.var 6) (.lit (.int (0)))) (.var 4))] [6] [e0, e1, some (pgD pg), e3, some (.int (k : Int)), e5, e6]) (S := S) rfl (xs := due pg) (enc := Tr.d) (fun t => if t.row = k then some t.d else none) (fun t _ => by
    by_cases ht : t.row = k
    · have : ((t.row : Int) = (k : Int)) := by omega
      simp [compT, setTg, wipeE, ht]
    · have : ¬ ((t.row : Int) = (k : Int)) := by omega
      simp [compT, setTg, wipeE, ht, this]) []
  have hf : (due pg).filterMap (fun t => if t.row = k then some t.d else none) = (rowDue k pg[k]).map Tr.d := by
    have e := due_filter pg 0 k hk
    simp only [Nat.zero_add] at e
    rw [← e]
    show (dueFrom 0 pg).filterMap _ = _
    generalize dueFrom 0 pg = l
    induction l with
    | nil => rfl
    | cons a l ih => by_cases ha : a.row = k <;> simp [ha, ih]
  rw [hf, List.nil_append] at hc
  have hl : ((rowDue k pg[k]).map Tr.d).length ≤ SZ := by
    have := passes_len pg[k]
    simp only [rowDue, List.length_map]
    show _ ≤ 16777216
    omega
  have hn : newCR P call (.var 6) (.name 6) [.val (.cmp .Eq (.idx (.var 6) (.lit (.int (0)))) (.var 4))] [6] [e0, e1, some (pgD pg), e3, some (.int (k : Int)), e5, e6] ⟨(due pg).map Tr.d, []⟩ S = .ok (.ref S.length) (S ++ [.lst ((rowDue k pg[k]).map Tr.d)]) := by
    simp only [newCR, hc, hl, if_true]
  rw [ex_asgN, ev_newC, ev_seq, ev_call, ev_l1, ev_var, slot_s, slot_s, slot_0, bind_ok, ev_l0, bind_ok, bind_ok, h, bind_ok, seqR_lst, bind_ok, hn, R.stm_ok]
  rfl
theorem law_way_ok (hi : P.defs[iDr]? = some dDraw) (hG : P.defs[iG]? = some D__law_signs) (hQ : P.defs[iQ]? = some (D__law_passes iG)) (hZ : P.defs[iZ]? = some (D__law_steps iQ)) (hY : P.defs[iY]? = some (D__law_way iZ iDr)) (ns : List Int) {m : Nat} {Z : Sto} (hm : m + 300 < SZ) {w : Int} {pg : Pg} (G0 : PgOk w pg) :
    ∃ way m', WayFrom 0 pg way ∧ m' ≤ m + 100 ∧ run P (n + 4) iY [.lst (ns.map .int), .ref 0, pgD pg] (Tn m :: Z) = .ok (wayD way) (Tn m' :: Z) := by
  have hd : (due pg).length ≤ 1000 := by have h1 : (due pg).length ≤ 6 * pg.length := due_len pg 0; have := G0.l; omega
  have loop := forL_inv (turn := forT P (run P (n + 3)) (.name 4) [.asg (.name 5) (.newC (.var 6) (.name 6) (.seq (.call iZ [.var 2])) [.val (.cmp .Eq (.idx (.var 6) (.lit (.int (0)))) (.var 4))] [6]), .while (.val (.var 5)) (wyB iDr)]) (items := rangeD 0 pg.length) (env := [some (.lst (ns.map .int)), some (.ref 0), some (pgD pg), some (.tup []), none, none, none]) (S := Tn m :: Z)
    (fun i env S' => ∃ G pre m' e4 e5 e6, WayFrom 0 (pg.take i) pre ∧ m' ≤ m + 12 * i ∧ env = [some (.lst (ns.map .int)), some (.ref 0), some (pgD pg), some (wayD pre), e4, e5, e6] ∧ S' = Tn m' :: (Z ++ G))
    ⟨[], [], m, none, none, none, .nil, by omega, rfl, by simp⟩ (by
      rintro k d env S' hd' ⟨G, pre, m', e4, e5, e6, W, hm', rfl, rfl⟩
      have hk : k < pg.length := by
        have := (List.getElem?_eq_some_iff.mp hd').1
        rw [rangeD_len] at this
        exact this
      have hdi : d = .int (k : Int) := by
        rw [range_map] at hd'
        simp [hk] at hd'
        exact hd'.symm
      subst hdi
      have hpl := G0.l
      have hwl : pre.length ≤ 36 := by have := way_len W; rw [List.length_take] at this; omega
      have s0 := wy0 (P := P) (iZ := iZ) (call := run P (n + 3)) (S := Tn m' :: (Z ++ G)) hk hd (e0 := some (.lst (ns.map .int))) (e1 := some (.ref 0)) (e3 := some (wayD pre)) (e5 := e5) (e6 := e6) (law_steps_ok (n := n) hG hQ hZ G0)
      obtain ⟨ss, m'', e6', hp, hm'', s1⟩ := row_steps (P := P) (n := n + 2) hi ns (A := Z ++ G) (m := m') (k := k) (row := pg[k]) (pre := pre) (by omega) (by omega) (e2 := some (pgD pg)) (e6 := e6)
      refine ⟨_, Tn m'' :: ((Z ++ G) ++ [.lst []]), ?_, G ++ [.lst []], pre ++ ss, m'', some (.int (k : Int)), some (.ref ((Z ++ G).length + 1)), e6', ?_, by omega, rfl, ?_⟩
      · rw [forT_n]
        exact (ex_one s0).trans ((ex_one s1).trans ex_nil)
      · rw [List.take_succ_eq_append_getElem hk]
        refine way_snoc W ?_
        have : 0 + (pg.take k).length = k := by rw [List.length_take]; omega
        rw [this]
        exact hp
      · rw [List.append_assoc])
  obtain ⟨env', S', hl, G, way, m', e4, e5, e6, W, hm', rfl, rfl⟩ := loop
  rw [rangeD_len] at hm' W
  rw [List.take_length] at W
  have hpl := G0.l
  refine ⟨way, m', W, by omega, ?_⟩
  refine run_gct (G := G) hY rfl (wayD_fl _).f ?_
  have a1 : execS P (run P (n + 3)) (.asg (.name 3) (.tup [])) [some (.lst (ns.map .int)), some (.ref 0), some (pgD pg), none, none, none, none] (Tn m :: Z) = .next [some (.lst (ns.map .int)), some (.ref 0), some (pgD pg), some (.tup []), none, none, none] (Tn m :: Z) := by simp
  have a2 : execS P (run P (n + 3)) (.for (.name 4) (.rng1 (.blt .len [.var 2])) [.asg (.name 5) (.newC (.var 6) (.name 6) (.seq (.call iZ [.var 2])) [.val (.cmp .Eq (.idx (.var 6) (.lit (.int (0)))) (.var 4))] [6]), .while (.val (.var 5)) (wyB iDr)]) [some (.lst (ns.map .int)), some (.ref 0), some (pgD pg), some (.tup []), none, none, none] (Tn m :: Z) = .next [some (.lst (ns.map .int)), some (.ref 0), some (pgD pg), some (wayD way), e4, e5, e6] (Tn m' :: (Z ++ G)) := (for_len (xs := pg) (enc := rowD) rfl (by omega)).trans hl
  show endR (execs P (run P (n + 3)) [_, _, _] [some (.lst (ns.map .int)), some (.ref 0), some (pgD pg), none, none, none, none] (Tn m :: Z)) = _
  rw [ex_one a1]
  refine (congrArg endR (ex_one a2)).trans ?_
  simp
end
end HW
/-! Small facts for laws about passes and times. -/
namespace HW
@[simp] theorem cut_2 {α : Type} (a b c d : α) : cut [a, b, c, d] none (some 2) = [a, b] := cut_len [a, b, c, d] 2
@[simp] theorem cut_2n {α : Type} (a b c d : α) : cut [a, b, c, d] (some 2) none = [c, d] := rfl
@[simp] theorem cut_13 {α : Type} (a b c d : α) : cut [a, b, c, d] (some 1) (some 3) = [b, c] := rfl
theorem cut_m1 {α : Type} (xs : List α) : cut xs none (some (-1)) = xs.dropLast := by
  have e1 : HT.sIx xs.length 0 none = 0 := by simp [HT.sIx]
  have e2 : HT.sIx xs.length xs.length (some (-1)) = xs.length - 1 := by
    simp only [HT.sIx]
    rw [if_pos (by omega)]
    omega
  unfold cut
  rw [e1, e2]
  simp [List.dropLast_eq_take]
theorem abs_max (to place : Int) : mx to place - mn to place = ab (to - place) := by
  unfold mx mn ab
  split <;> split <;> split <;> omega
theorem ab_sym (a b : Int) : ab (a - b) = ab (b - a) := by
  unfold ab
  split <;> split <;> omega
theorem filter_pass {row : Row} {p : Ps} (h : p ∈ passes row) : (passes row).filter (fun q => decide (q.fnt = p.fnt) && decide (q.trn = p.trn)) = [p] := by
  have hp := passes_pw row
  generalize passes row = l at *
  induction l with
  | nil => simp at h
  | cons a l ih =>
    have hp' := List.pairwise_cons.mp hp
    rcases List.mem_cons.mp h with rfl | h'
    · have : l.filter (fun q => decide (q.fnt = p.fnt) && decide (q.trn = p.trn)) = [] := by
        rw [List.filter_eq_nil_iff]
        intro q hq hh
        simp at hh
        exact (hp'.1 q hq).2 (by simp [Ps.key, hh])
      simp [List.filter_cons, this]
    · have hn : ¬ (a.fnt = p.fnt ∧ a.trn = p.trn) := fun hh => (hp'.1 p h').2 (by simp [Ps.key, hh])
      have hn' : (decide (a.fnt = p.fnt) && decide (a.trn = p.trn)) = false := by
        cases hh : (decide (a.fnt = p.fnt) && decide (a.trn = p.trn)) with
        | false => rfl
        | true => simp at hh; exact absurd hh hn
      rw [List.filter_cons, hn']
      exact ih h' hp'.2
theorem take_ok {w : Int} {pg : Pg} (G : PgOk w pg) (j : Nat) : PgOk w (pg.take j) := ⟨by have := G.l; rw [List.length_take]; omega, fun r hr => G.r r (List.mem_of_mem_take hr)⟩
theorem ifne {P : Prog} {call : Call} {env : Env} {S : Sto} {x y : X} {d : D} {ss : List St} (A : evalE P call x env S = .ok d S) (B : evalE P call y env S = .ok d S) (fl : Fl d) : execS P call (.ite (.val (.cmp .NotEq x y)) ss []) env S = .next env S := by
  simp only [ex_ite, ev_tval, ev_cmp, A, B, bind_ok, ne_self S fl, Option.map_some, R.of_some, tru_bl, R.stm_ok, Bool.false_eq_true, if_false, ex_nil]
theorem ifne2 {P : Prog} {call : Call} {env : Env} {S : Sto} {x y x' y' : X} {d d' : D} {ss : List St} (A : evalE P call x env S = .ok d S) (B : evalE P call y env S = .ok d S) (fl : Fl d) (A' : evalE P call x' env S = .ok d' S) (B' : evalE P call y' env S = .ok d' S) (fl' : Fl d') :
    execS P call (.ite (.or (.val (.cmp .NotEq x y)) (.val (.cmp .NotEq x' y'))) ss []) env S = .next env S := by
  simp only [ex_ite, ev_tor, ev_tval, ev_cmp, A, B, A', B', bind_ok, ne_self S fl, ne_self S fl', Option.map_some, R.of_some, tru_bl, R.stm_ok, Bool.false_eq_true, if_false, ex_nil]
theorem fl_int (i : Int) : Fl (.int i) := ⟨rfl, by simp [D.dep]⟩
theorem fl_bl (i : Bool) : Fl (.bl i) := ⟨rfl, by simp [D.dep]⟩
theorem fl_ints (l : List Int) : Fl (.lst (l.map D.int)) := fl_lst (k := 0) (fun x => rfl) (fun x => by simp [D.dep]) (by decide) _
theorem fl_intt (l : List Int) : Fl (.tup (l.map D.int)) := fl_tup (k := 0) (fun x => rfl) (fun x => by simp [D.dep]) (by decide) _
end HW
/-! Walking through code: tactics. -/
namespace HW
/-- a statement's outcome, then the rest -/
def seqO (P : Prog) (call : Call) (o : O) (ss : List St) : O := o.andThen fun env S => execs P call ss env S
section
variable {P : Prog} {call : Call} {env : Env} {S : Sto}
theorem xs_cons (s : St) (ss : List St) : execs P call (s :: ss) env S = seqO P call (execS P call s env S) ss := ex_cons s ss
theorem seq_next (ss : List St) : seqO P call (.next env S) ss = execs P call ss env S := by
  have h : seqO P call (.next env S) ss = execs P call ss env S := rfl
  exact h
theorem seq_ret (d : D) (ss : List St) : seqO P call (.ret d S) ss = .ret d S := by
  have h : seqO P call (.ret d S) ss = .ret d S := rfl
  exact h
theorem seq_brk (ss : List St) : seqO P call (.brk env S) ss = .brk env S := by
  have h : seqO P call (.brk env S) ss = .brk env S := rfl
  exact h
theorem seq_cont (ss : List St) : seqO P call (.cont env S) ss = .cont env S := by
  have h : seqO P call (.cont env S) ss = .cont env S := rfl
  exact h
theorem seq_exc (c : Nat) (ss : List St) : seqO P call (.exc c env S) ss = .exc c env S := by
  have h : seqO P call (.exc c env S) ss = .exc c env S := rfl
  exact h
theorem ex_wipe (vs : List Nat) : execS P call (.wipe vs) env S = .next (wipeE env vs) S := by simp only [execS]
theorem wipeE_nil : wipeE env [] = env := rfl
theorem wipeE_cons (v : Nat) (vs : List Nat) : wipeE env (v :: vs) = (wipeE env vs).set v none := rfl
theorem seq_ite {c : Prop} [Decidable c] (a b : O) (ss : List St) : seqO P call (if c then a else b) ss = if c then seqO P call a ss else seqO P call b ss := by split <;> rfl
theorem ite_ok {α : Type} {c : Prop} [Decidable c] (a b : α) : (if c then R.ok a S else R.ok b S) = R.ok (if c then a else b) S := by split <;> rfl
theorem ite_int {c : Prop} [Decidable c] (a b : Int) : (if c then D.int a else D.int b) = D.int (if c then a else b) := by split <;> rfl
theorem ite_bl {c : Prop} [Decidable c] (a b : Bool) : (if c then D.bl a else D.bl b) = D.bl (if c then a else b) := by split <;> rfl
theorem ite_tup {c : Prop} [Decidable c] (a b : List D) : (if c then D.tup a else D.tup b) = D.tup (if c then a else b) := by split <;> rfl
theorem ite_str {c : Prop} [Decidable c] (a b : List Nat) : (if c then D.str a else D.str b) = D.str (if c then a else b) := by split <;> rfl
end
theorem ite_tf {c : Prop} [Decidable c] : ((if c then true else false) = true) = c := by by_cases h : c <;> simp [h]
theorem ite_ft {c : Prop} [Decidable c] : ((if c then false else true) = true) = ¬c := by by_cases h : c <;> simp [h]
theorem ite_bf {c : Prop} [Decidable c] {b : Bool} : ((if c then b else false) = true) = (c ∧ b = true) := by by_cases h : c <;> simp [h]
theorem ite_tb {c : Prop} [Decidable c] {b : Bool} : ((if c then true else b) = true) = (c ∨ b = true) := by by_cases h : c <;> simp [h]
theorem bindN {α β : Type} (a : α) (S : Sto) (f : α → Sto → R β) : (R.ok a S).bind f = f a S := by
  have h : (R.ok a S).bind f = f a S := rfl
  exact h
theorem stmN {α : Type} (a : α) (S : Sto) (env : Env) (f : α → Sto → O) : (R.ok a S).stm env f = f a S := by
  have h : (R.ok a S).stm env f = f a S := rfl
  exact h
theorem tru_if (b : Bool) : (if b then 1 else (0 : Int)) = if b = true then 1 else 0 := rfl
theorem mul_l {i j : Int} (h : 0 ≤ i ∧ i ≤ 5000) : binD .Mult (.int i) (.int j) = some (.int (i * j)) := mul_int (mulOk_l (by omega) (by omega))
theorem mul_r {i j : Int} (h : 0 ≤ j ∧ j ≤ 5000) : binD .Mult (.int i) (.int j) = some (.int (i * j)) := mul_int (mulOk_r (by omega) (by omega))
/-! ### flat data -/
theorem flatL_iff {α : Type} {f : α → D} {xs : List α} : D.flatL (xs.map f) = true ↔ ∀ x ∈ xs, (f x).flat = true := by
  induction xs with
  | nil => simp [D.flatL]
  | cons x xs ih => simp [D.flatL, ih]
theorem depL_iff {α : Type} {f : α → D} {xs : List α} {k : Nat} : D.depL (xs.map f) ≤ k ↔ ∀ x ∈ xs, (f x).dep ≤ k := by
  induction xs with
  | nil => simp [D.depL]
  | cons x xs ih => simp [D.depL, ih, Nat.max_le]
theorem flatL_app {a b : List D} : D.flatL (a ++ b) = true ↔ D.flatL a = true ∧ D.flatL b = true := by
  induction a with
  | nil => simp [D.flatL]
  | cons x xs ih => simp [D.flatL, ih, and_assoc]
theorem depL_app {a b : List D} {k : Nat} : D.depL (a ++ b) ≤ k ↔ D.depL a ≤ k ∧ D.depL b ≤ k := by
  induction a with
  | nil => simp [D.depL]
  | cons x xs ih => simp [D.depL, ih, Nat.max_le, and_assoc]
theorem depL_cons {d : D} {ds : List D} {k : Nat} : D.depL (d :: ds) ≤ k ↔ d.dep ≤ k ∧ D.depL ds ≤ k := by simp [D.depL, Nat.max_le]
theorem dep_tup {ds : List D} {k : Nat} : (D.tup ds).dep ≤ k + 1 ↔ D.depL ds ≤ k := by simp [D.dep]
theorem dep_lst {ds : List D} {k : Nat} : (D.lst ds).dep ≤ k + 1 ↔ D.depL ds ≤ k := by simp [D.dep]
theorem dep_int (i : Int) (k : Nat) : ((D.int i).dep ≤ k) = True := by simp [D.dep]
theorem dep_str (i : List Nat) (k : Nat) : ((D.str i).dep ≤ k) = True := by simp [D.dep]
theorem dep_bl (i : Bool) (k : Nat) : ((D.bl i).dep ≤ k) = True := by simp [D.dep]
theorem dep_non (k : Nat) : (D.non.dep ≤ k) = True := by simp [D.dep]
theorem depL_nil (k : Nat) : (D.depL [] ≤ k) = True := by simp [D.depL]
theorem flat_ite {c : Prop} [Decidable c] (a b : D) : ((if c then a else b).flat = true) = (if c then a.flat = true else b.flat = true) := by split <;> rfl
theorem dep_ite {c : Prop} [Decidable c] (a b : D) (k : Nat) : ((if c then a else b).dep ≤ k) = (if c then a.dep ≤ k else b.dep ≤ k) := by split <;> rfl
section
variable {S : Sto}
theorem szk_le {k : Nat} (h : k ≤ 5000) : k ≤ SZ := by show k ≤ 16777216; omega
theorem szk_lt {k : Nat} (h : k ≤ 5000) : k < SZ := by show k < 16777216; omega
theorem rng_le {k : Int} (h : -5000 ≤ k ∧ k ≤ 5000) : rngR (.int k) S = .ok ⟨rangeD 0 k.toNat, []⟩ S := rngR_ok (by omega) (by omega)
theorem rng2_le {i j : Int} (h : -5000 ≤ i ∧ i ≤ 5000 ∧ -5000 ≤ j ∧ j ≤ 5000) : rng2R (.int i) (.int j) S = .ok ⟨rangeD i (j - i).toNat, []⟩ S := rng2R_ok (by omega) (by omega) (by omega) (by omega)
end
/-! ### loops -/
section
variable {α : Type} {P : Prog} {call : Call} {tg : Tg} {B : List St} {xs : List α} {enc : α → D} {env : Env} {S : Sto}
/-- a walk that changes what is known step by step -/
theorem for_st (E : List α → Env) (F : List α → Sto) (h0 : env = E []) (h1 : S = F []) (h : ∀ pre x post, xs = pre ++ x :: post → forT P call tg B (enc x) (E pre) (F pre) = .next (E (pre ++ [x])) (F (pre ++ [x]))) :
    forL [] (forT P call tg B) (xs.map enc) env S = .next (E xs) (F xs) := by
  subst h0 h1
  obtain ⟨env', S', h, rfl, rfl⟩ := for_pre (own := []) (xs := xs) (enc := enc) (turn := forT P call tg B) (env := E []) (S := F []) (fun pre env S => env = E pre ∧ S = F pre) (fun _ _ _ _ => rfl) ⟨rfl, rfl⟩ fun pre x post env S e ⟨h1, h2⟩ => by
    subst h1 h2
    exact ⟨_, _, h pre x post e, rfl, rfl⟩
  exact h
/-- a walk that looks alone -/
theorem for_look (h : ∀ x ∈ xs, forT P call tg B (enc x) env S = .next env S) : forL [] (forT P call tg B) (xs.map enc) env S = .next env S :=
  for_st (fun _ => env) (fun _ => S) rfl rfl fun pre x post e => h x (by rw [e]; simp)
/-- a walk with an invariant -/
theorem for_ex (I : List α → Env → Sto → Prop) (h0 : I [] env S) (h : ∀ pre x post env S, xs = pre ++ x :: post → I pre env S → ∃ env' S', forT P call tg B (enc x) env S = .next env' S' ∧ I (pre ++ [x]) env' S') :
    ∃ env' S', forL [] (forT P call tg B) (xs.map enc) env S = .next env' S' ∧ I xs env' S' := for_pre (own := []) I (fun _ _ _ _ => rfl) h0 h
/-- a walk over so many numbers -/
theorem for_rn {k : Nat} (I : Nat → Sto → Prop) (h0 : I 0 S) (h : ∀ (i : Nat) S, i < k → I i S → ∃ S', forT P call tg B (.int i) env S = .next env S' ∧ I (i + 1) S') :
    ∃ S', forL [] (forT P call tg B) (rangeD 0 k) env S = .next env S' ∧ I k S' := by
  rw [range_map]
  obtain ⟨env', S', h1, rfl, h2⟩ := for_ex (P := P) (call := call) (tg := tg) (B := B) (xs := List.range k) (enc := fun i : Nat => D.int (0 + (i : Int))) (env := env) (S := S) (fun pre env' S' => env' = env ∧ I pre.length S') ⟨rfl, h0⟩ fun pre x post env' S' e ⟨h1, h2⟩ => by
    subst h1
    have hx : x = pre.length := by
      have := congrArg (fun l => l[pre.length]?) e
      simp at this
      rw [List.getElem?_range] at this
      · simpa using this.symm
      · have := congrArg List.length e
        simp at this
        omega
    subst hx
    have hl : pre.length < k := by
      have := congrArg List.length e
      simp at this
      omega
    obtain ⟨S'', q1, q2⟩ := h pre.length S' hl h2
    exact ⟨_, S'', by simpa using q1, rfl, by simpa using q2⟩
  exact ⟨S', h1, by simpa using h2⟩
/-- one more look over so many numbers -/
theorem for_rl {k : Nat} (h : ∀ (i : Nat), i < k → forT P call tg B (.int i) env S = .next env S) : forL [] (forT P call tg B) (rangeD 0 k) env S = .next env S := by
  obtain ⟨S', h1, rfl⟩ := for_rn (P := P) (call := call) (tg := tg) (B := B) (env := env) (S := S) (k := k) (fun _ S' => S' = S) rfl fun i S' hi e => by
    subst e
    exact ⟨_, h i hi, rfl⟩
  exact h1
end
/-! ### comprehensions -/
def R.val : R (Option D) → Option D
  | .ok o _ => o
  | _ => none
def R.okAt {α : Type} (S : Sto) : R α → Prop
  | .ok _ S' => S' = S
  | _ => False
theorem okAt_ok {α : Type} (S : Sto) (a : α) : R.okAt S (.ok a S) = True := by simp [R.okAt]
theorem val_ok (S : Sto) (a : Option D) : R.val (.ok a S) = a := rfl
section
variable {α : Type} {P : Prog} {call : Call} {elt : X} {tg : Tg} {ifs : List T} {vs : List Nat} {xs : List α} {enc : α → D} {own : List (Nat × List D)} {env : Env} {S : Sto}
theorem comp_auto (hl : xs.length ≤ SZ) (hs : stay own S = true) (h : ∀ x ∈ xs, R.okAt S (compT P call elt tg ifs vs env (enc x) S)) :
    compR P call elt tg ifs vs env ⟨xs.map enc, own⟩ S = .ok (.lst (xs.filterMap fun x => (compT P call elt tg ifs vs env (enc x) S).val)) S := by
  simp only [compR]
  rw [compL_map hs (fun x => (compT P call elt tg ifs vs env (enc x) S).val) fun x hx => ?_]
  · have : (xs.filterMap fun x => (compT P call elt tg ifs vs env (enc x) S).val).length ≤ SZ := Nat.le_trans (List.length_filterMap_le _ _) hl
    simp [this]
  · have := h x hx
    cases hc : compT P call elt tg ifs vs env (enc x) S with
    | ok a S' => rw [hc] at this; simp only [R.okAt] at this; subst this; rfl
    | exc c S' => rw [hc] at this; exact this.elim
    | bad => rw [hc] at this; exact this.elim
theorem compT_n (i : Nat) (d : D) : compT P call elt (.name i) ifs vs env d S = (evalTs P call ifs ((wipeE env vs).set i (some d)) S).bind fun k S => if k then (evalE P call elt ((wipeE env vs).set i (some d)) S).bind fun x S => .ok (some x) S else .ok none S := by simp only [compT, setTg]
def inR (o : Option Env) (k : Env → R (Option D)) : R (Option D) := match o with
  | some env' => k env'
  | none => .bad
theorem inR_some (e : Env) (k : Env → R (Option D)) : inR (some e) k = k e := by
  have h : inR (some e) k = k e := rfl
  exact h
theorem compT_t (ts : List Tg) (ds : List D) : compT P call elt (.tup ts) ifs vs env (.tup ds) S = inR (setTgs ts ds (wipeE env vs)) fun env' => (evalTs P call ifs env' S).bind fun k S => if k then (evalE P call elt env' S).bind fun x S => .ok (some x) S else .ok none S := by simp only [compT, setTg]; rfl
end
theorem fm_some {α β : Type} (g : α → β) (xs : List α) : xs.filterMap (fun x => some (g x)) = xs.map g := by simp
theorem fm_if {α β : Type} (p : α → Prop) [DecidablePred p] (g : α → β) (xs : List α) : xs.filterMap (fun x => if p x then some (g x) else none) = (xs.filter fun x => decide (p x)).map g := by
  induction xs with
  | nil => rfl
  | cons x xs ih => by_cases hp : p x <;> simp [hp, ih]
theorem setTgs_nil (e : Env) : setTgs [] [] e = some e := by simp only [setTgs]
theorem setTgs_n (i : Nat) (ts : List Tg) (d : D) (ds : List D) (e : Env) : setTgs (.name i :: ts) (d :: ds) e = setTgs ts ds (e.set i (some d)) := by simp only [setTgs, setTg]
def inO (o : Option Env) (k : Env → Option Env) : Option Env := match o with
  | some env' => k env'
  | none => none
theorem inO_some (e : Env) (k : Env → Option Env) : inO (some e) k = k e := by
  have h : inO (some e) k = k e := rfl
  exact h
theorem inE_N (e : Env) (k : Env → O) : inE (some e) k = k e := by
  have h : inE (some e) k = k e := rfl
  exact h
theorem setTgs_t (us : List Tg) (ts : List Tg) (es : List D) (ds : List D) (e : Env) : setTgs (.tup us :: ts) (.tup es :: ds) e = inO (setTgs us es e) fun e' => setTgs ts ds e' := by
  simp only [setTgs, setTg]
  cases setTgs us es e <;> rfl
theorem asgR_t (ts : List Tg) (ds : List D) (env : Env) (S : Sto) : asgR ts env (.tup ds) S = inE (setTgs ts ds env) fun env' => .next env' S := by simp only [asgR, setTg]; rfl
theorem endR_ite {c : Prop} [Decidable c] (a b : O) : endR (if c then a else b) = if c then endR a else endR b := by split <;> rfl
theorem sorted_tint {xs ys : List Int} (S : Sto) (hl : xs.length ≤ SZ) (hp : xs.Perm ys) (hs : ys.Pairwise (· ≤ ·)) : sortedD S (.tup (xs.map D.int)) = some (.lst (ys.map D.int)) := by
  have := sortable_int (fun x => x) (xs := xs) hl
  simp only [sortedD, vw]
  rw [if_pos this, sortD_int hp hs]
theorem sorted_lint {xs ys : List Int} (S : Sto) (hl : xs.length ≤ SZ) (hp : xs.Perm ys) (hs : ys.Pairwise (· ≤ ·)) : sortedD S (.lst (xs.map D.int)) = some (.lst (ys.map D.int)) := by
  have := sortable_int (fun x => x) (xs := xs) hl
  simp only [sortedD, vw]
  rw [if_pos this, sortD_int hp hs]
/-- the usual form of a law: so many turns -/
theorem law_loop {P : Prog} {n f q K T : Nat} {B : List St} (hd : P.defs[f]? = some ⟨1, q + 2, [.asg (.name 1) (.newL []), .for (.name 2) (.rng1 (.lit (.int (K : Int)))) B, .ret (.lit (.bl true))], false⟩) (hK : K ≤ 100) (ns : List Int)
    (body : ∀ (i m : Nat) (Z : Sto), m ≤ T * i → i < K → ∃ m' Z', m' ≤ m + T ∧ forT P (run P n) (.name 2) B (.int (i : Int)) (some (.lst (ns.map .int)) :: some (.ref 0) :: List.replicate q none) (Tn m :: Z) = .next (some (.lst (ns.map .int)) :: some (.ref 0) :: List.replicate q none) (Tn m' :: Z')) :
    ∃ S, run P (n + 1) f [.lst (ns.map D.int)] [] = .ok (.bl true) S := by
  obtain ⟨S', h, m, Z, _, rfl⟩ := for_rn (P := P) (call := run P n) (tg := .name 2) (B := B) (env := some (.lst (ns.map .int)) :: some (.ref 0) :: List.replicate q none) (S := [Tn 0]) (k := K)
    (fun i S => ∃ m Z, m ≤ T * i ∧ S = Tn m :: Z) ⟨0, [], by omega, rfl⟩ (by
      rintro i S hi ⟨m, Z, hm, rfl⟩
      obtain ⟨m', Z', h1, h2⟩ := body i m Z hm hi
      exact ⟨_, h2, m', Z', by rw [Nat.mul_succ]; omega, rfl⟩)
  refine ⟨Tn m :: Z, ?_⟩
  rw [run_of hd rfl]
  have e : (List.map some [D.lst (ns.map D.int)] ++ List.replicate (q + 2 - 1) none) = some (.lst (ns.map .int)) :: none :: List.replicate q none := by
    rw [show q + 2 - 1 = q + 1 by omega, List.replicate_succ]
    rfl
  rw [e]
  have h' : forL [] (forT P (run P n) (Tg.name 2) B) (rangeD 0 K) (some (.lst (ns.map .int)) :: some (.ref 0) :: List.replicate q none) [Ob.lst []] = _ := h
  generalize run P n = call at *
  (simp (disch := (first | assumption | (intro h; cases h; done) | omega | ((first | refine szk_le ?_ | refine szk_lt ?_ | skip) <;> (try simp only [List.length_map, List.length_append, List.length_cons, List.length_nil, List.length_reverse, List.length_zipIdx, List.length_range, List.length_singleton, List.length_dropLast, List.length_take, List.length_drop, rangeD_len, sums_len, costs_len]) <;> omega) | (refine Fl.mk ?_ ?_ <;> simp only [D.flat, D.flatL, flatL_iff, flatL_app, dep_tup, dep_lst, depL_cons, depL_nil, dep_int, dep_str, dep_bl, dep_non, depL_iff, depL_app, flat_ite, dep_ite, implies_true, and_true, true_and, Bool.and_true, Bool.true_and, Bool.and_eq_true, ite_self]) | (refine szk_le ?_; omega) | decide)) only [xs_cons, seq_next, seq_ret, seq_brk, seq_cont, seq_exc, seq_ite, ex_wipe, wipeE_nil, wipeE_cons, ite_ok, ite_int, ite_bl, ite_tup, ite_str, bindN, bind_exc, R.of_some, stmN, R.stm_exc, slot_0, slot_s, ev_var, ev_lit, ev_tup, ev_lst, ev_newL, ev_newD, mkD_nil, ev_bin, negR_int, ev_neg, ev_not, ev_and, ev_or, ev_ife, ev_cmp, ev_chn, ev_idx, ev_slc, ev_rev, ev_call, ev_blt, ev_mth, ev_fld, ev_inv, ev_mk, ev_comp, compR_nil, ev_tval, ev_tnot, ev_tand, ev_tor, ev_tife, ev_ts0, ev_ts1, ev_l0, ev_l1, ev_o0, ev_o1, optR_int, seqR_tup, seqR_lst, seqR_str, ev_seq, ev_rng1, ev_rng2, ev_enum, enumR_str, enumR_tup, enumR_lst, ev_zip, zipR_tup, zipR_lst, ev_newC, ex_nil, ex_expr, ex_asgN, ex_asgT, asgR_t, ex_sub, ex_fld, ex_ret, ex_retN, ex_ite, ex_for, ex_while, forT_n, forT_t, inE_N, inR_some, inO_some, setTgs_nil, setTgs_n, setTgs_t, forL_nil, ex_pass, ex_cont, ex_brk, ex_raise, tru_non, tru_bl, tru_int, tru_str, tru_tup, tru_lst, add_int, sub_int, mul_l, mul_r, mod_int, fdiv_int, add_tup, add_lst, add_str, idx_tup, idx_lst, idx_str, len_str, len_tup, len_lst, abs_int, max2_int, min2_int, min3_int, maxL_eq, minL_eq, sum_eq, all_eq, any_eq, int_int, int_bl, sorted_eq, tuple_lst, tuple_tup, list_lst, list_tup, kind_join, cmp_eq_int, cmp_ne_int, cmp_eq_str, cmp_ne_str, cmp_eq_bl, cmp_ne_bl, cmp_lt_int, cmp_le_int, cmp_gt_int, cmp_ge_int, cmp_in_tup, ne_self, eq_self, isT_tup, isI_int, isB_int, isB_bl, isS_str, slc_tup, slc_lst, slc_str, atI_0, atI_1, atI_2, atI_3, cut_2, cut_2n, cut_13, cut_3, ints_map, intsOf_nil, blsOf_nil, rng_le, rng2_le, Int.toNat_natCast, Int.toNat_natCast_add_one, Int.reduceToNat, endR_ret, endR_next, endR_exc, endR_ite, compT_n, compT_t, okAt_ok, val_ok, fm_some, fm_if, List.set_cons_succ, List.set_cons_zero, List.map_cons, List.map_nil, List.length_cons, List.length_nil, List.length_map, List.append_nil, List.nil_append, List.cons_append, Option.map_some, Option.bind_some, Bool.not_true, Bool.not_false, Bool.true_and, Bool.and_true, Bool.false_and, Bool.and_false, Bool.or_true, Bool.true_or, Bool.false_or, Bool.or_false, if_true, if_false, Bool.false_eq_true, decide_eq_true_eq, decide_true, decide_false, not_true_eq_false, not_false_eq_true, Bool.not_eq_true', decide_eq_false_iff_not, Bool.and_eq_true, Bool.or_eq_true, ne_eq, reduceCtorEq, implies_true, ite_tf, ite_ft, ite_bf, ite_tb, and_true, true_and, or_true, true_or, and_false, false_and, or_false, false_or, le_SZ, Nat.reduceSub, List.reduceReplicate, h'])
end HW
namespace HW.K15
open PySem L2
def top (i : Nat) : Stmt := PySem.Challenge.pw_headways_k15_whole_steps_done.main.body.getD i (.Pass ⟨0, 0, 0, 0⟩)
def r0 : FRow := ⟨"row_of", "row_of", (top 6), ["page", "number"], 2, [], false⟩
def r1 : FRow := ⟨"signs_of", "signs_of", (top 7), ["row", "found", "column", "text", "font", "times", "at", "sign"], 1, [], false⟩
def r2 : FRow := ⟨"passes_of", "passes_of", (top 9), ["page", "number", "found", "signs", "font", "turn", "columns", "sign"], 2, [], false⟩
def r3 : FRow := ⟨"is_way", "is_way", (top 10), ["page", "thing", "step", "due", "number", "font", "turn", "first", "last", "rows"], 2, ["due"], true⟩
def r4 : FRow := ⟨"ends_of", "ends_of", (top 11), ["page", "step", "number", "font", "turn", "is_left", "name", "stroke", "first", "last"], 2, [], false⟩
def r5 : FRow := ⟨"__init__", "Stand.__init__", (inClass (top 12) 0), ["self"], 1, [], false⟩
def r6 : FRow := ⟨"do", "Stand.do", (inClass (top 12) 1), ["self", "machine", "page", "step", "begin", "end"], 4, [], false⟩
def r7 : FRow := ⟨"need_way", "need_way", (top 13), ["page", "way"], 2, [], false⟩
def r8 : FRow := ⟨"times_of", "times_of", (top 14), ["machine", "page", "way", "stand", "found", "step"], 3, [], true⟩
def r9 : FRow := ⟨"time_of", "time_of", (top 15), ["machine", "page", "way"], 3, [], false⟩
def r10 : FRow := ⟨"_law_draw", "_law_draw", (top 17), ["script", "town", "many", "k", "cell", "number", "more"], 3, [], false⟩
def r11 : FRow := ⟨"_law_pick", "_law_pick", (top 18), ["script", "town", "some"], 3, [], false⟩
def r12 : FRow := ⟨"_law_machine", "_law_machine", (top 19), ["script", "town", "width"], 2, [], false⟩
def r13 : FRow := ⟨"_law_page", "_law_page", (top 20), ["script", "town", "width", "high", "page", "k", "row", "end", "fonts", "j", "left", "column", "many", "text", "i", "font"], 4, [], false⟩
def r14 : FRow := ⟨"_law_signs", "_law_signs", (top 21), ["row", "got", "column", "text", "font", "times", "at", "sign"], 1, [], false⟩
def r15 : FRow := ⟨"_law_passes", "_law_passes", (top 22), ["row", "columns", "column", "sign", "font", "times", "stroke", "key"], 1, [], true⟩
def r16 : FRow := ⟨"_law_steps", "_law_steps", (top 23), ["page", "got", "number", "row", "font", "stroke", "first", "last"], 1, [], false⟩
def r17 : FRow := ⟨"_law_way", "_law_way", (top 24), ["script", "town", "page", "got", "number", "left", "step"], 3, ["left"], true⟩
def r18 : FRow := ⟨"_law_costs", "_law_costs", (top 25), ["machine", "page", "way", "found", "place", "row", "font", "step", "begin", "end", "gap", "cost"], 3, ["found"], true⟩
def r19 : FRow := ⟨"law", "law", (top 26), ["script", "town", "k", "machine", "page", "way", "step", "begin", "end", "first", "last", "one", "times", "costs", "two", "rows", "some"], 1, ["town"], false⟩
def rows : List FRow := [r0, r1, r2, r3, r4, r5, r6, r7, r8, r9, r10, r11, r12, r13, r14, r15, r16, r17, r18, r19]
def gc0 : GCfg := ⟨[(("row_of" : Str), 0), (("signs_of" : Str), 1), (("passes_of" : Str), 2), (("is_way" : Str), 3), (("ends_of" : Str), 4), (("need_way" : Str), 7), (("times_of" : Str), 8), (("time_of" : Str), 9), (("_law_draw" : Str), 10), (("_law_pick" : Str), 11), (("_law_machine" : Str), 12), (("_law_page" : Str), 13), (("_law_signs" : Str), 14), (("_law_passes" : Str), 15), (("_law_steps" : Str), 16), (("_law_way" : Str), 17), (("_law_costs" : Str), 18), (("law" : Str), 19)], [("Stand", 1)], [("HeadError", 0), ("BadWay", 1), ("NoRow", 3)], [("FONTS", .str [97, 98, 99])], ["machine", "place", "row", "font", "beats", "fed", "struck"], ["do", "go", "settle", "strike", "stand", "time", "sheet"], ["len", "tuple", "enumerate", "min", "max", "range", "isinstance", "sorted", "bool", "int", "str", "abs", "sum", "zip"]⟩
/-- row_of -/
def d0 : Def := ⟨2, 2, [.ite (.not (.val (.chn .LtE .Lt (.lit (.int (0))) (.var 1) (.blt .len [.var 0])))) [.raise 3] [], .ret (.idx (.var 0) (.var 1))], false⟩
/-- signs_of -/
def d1 : Def := ⟨1, 8, [.asg (.name 1) (.tup []), .for (.tup [.name 2, .name 3, .name 4, .name 5]) (.seq (.var 0)) [.asg (.name 1) (.bin .Add (.var 1) (.blt .tuple [.comp (.tup [.bin .Add (.var 2) (.var 6), .var 7, .var 4, .var 5]) (.tup [.name 6, .name 7]) (.enum (.var 3)) [] [6, 7]]))], .ret (.var 1)], false⟩
/-- passes_of -/
def d2 : Def := ⟨2, 8, [.asg (.name 2) (.tup []), .asg (.name 3) (.call 1 [.call 0 [.var 0, .var 1]]), .for (.name 4) (.seq (.lit (.str [97, 98, 99]))) [.for (.name 5) (.seq (.tup [.lit (.int (1)), .lit (.int (2))])) [.asg (.name 6) (.comp (.idx (.var 7) (.lit (.int (0)))) (.name 7) (.seq (.var 3)) [.and (.val (.cmp .Eq (.idx (.var 7) (.lit (.int (2)))) (.var 4))) (.val (.cmp .GtE (.idx (.var 7) (.lit (.int (3)))) (.var 5)))] [7]), .ite (.val (.var 6)) [.asg (.name 2) (.bin .Add (.var 2) (.tup [.tup [.var 4, .var 5, .blt .minL [.var 6], .blt .maxL [.var 6]]]))] []]], .ret (.var 2)], false⟩
/-- is_way -/
def d3 : Def := ⟨2, 10, [.ite (.not (.val (.blt .isTuple [.var 1]))) [.ret (.lit (.bl false))] [], .for (.name 2) (.seq (.var 1)) [.ite (.or (.not (.val (.blt .isTuple [.var 2]))) (.or (.val (.cmp .NotEq (.blt .len [.var 2]) (.lit (.int (4))))) (.or (.not (.val (.blt .isInt [.idx (.var 2) (.lit (.int (0)))]))) (.val (.blt .isBool [.idx (.var 2) (.lit (.int (0)))]))))) [.ret (.lit (.bl false))] [], .ite (.or (.not (.val (.blt .isStr [.idx (.var 2) (.lit (.int (1)))]))) (.or (.not (.val (.blt .isInt [.idx (.var 2) (.lit (.int (2)))]))) (.val (.blt .isBool [.idx (.var 2) (.lit (.int (2)))])))) [.ret (.lit (.bl false))] [], .ite (.not (.val (.blt .isBool [.idx (.var 2) (.lit (.int (3)))]))) [.ret (.lit (.bl false))] []], .asg (.name 3) (.newL []), .for (.name 4) (.rng1 (.blt .len [.var 0])) [.expr (.mth .extend (.var 3) [.comp (.tup [.var 4, .var 5, .var 6]) (.tup [.name 5, .name 6, .name 7, .name 8]) (.seq (.call 2 [.var 0, .var 4])) [] [5, 6, 7, 8]])], .ite (.val (.cmp .NotEq (.blt .sorted [.comp (.slc (.var 2) none (some (.lit (.int (3))))) (.name 2) (.seq (.var 1)) [] [2]]) (.var 3))) [.ret (.lit (.bl false))] [], .asg (.name 9) (.comp (.idx (.var 2) (.lit (.int (0)))) (.name 2) (.seq (.var 1)) [] [2]), .ret (.cmp .Eq (.var 9) (.blt .sorted [.var 9]))], true⟩
/-- ends_of -/
def d4 : Def := ⟨2, 10, [.asg (.tup [.name 2, .name 3, .name 4, .name 5]) (.var 1), .for (.tup [.name 6, .name 7, .name 8, .name 9]) (.seq (.call 2 [.var 0, .var 2])) [.ite (.val (.cmp .Eq (.tup [.var 6, .var 7]) (.tup [.var 3, .var 4]))) [.ite (.val (.var 5)) [.ret (.tup [.bin .Add (.var 9) (.lit (.int (1))), .var 8])] [], .ret (.tup [.var 8, .bin .Add (.var 9) (.lit (.int (1)))])] []], .raise 1], false⟩
/-- Stand.__init__ -/
def d5 : Def := ⟨1, 1, [.fld (.var 0) 1 (.lit (.int (0))), .fld (.var 0) 2 (.lit (.int (0))), .fld (.var 0) 3 (.lit (.str [97])), .fld (.var 0) 4 (.lit (.int (0)))], false⟩
/-- Stand.do -/
def d6 : Def := ⟨4, 6, [.asg (.tup [.name 4, .name 5]) (.call 4 [.var 2, .var 3]), .fld (.var 0) 4 (.bin .Add (.fld (.var 0) 4) (.blt .max2 [.blt .abs [.bin .Sub (.var 4) (.fld (.var 0) 1)], .bin .Mult (.idx (.var 1) (.lit (.int (2)))) (.bin .Sub (.idx (.var 3) (.lit (.int (0)))) (.fld (.var 0) 2))])), .ite (.val (.cmp .NotEq (.idx (.var 3) (.lit (.int (1)))) (.fld (.var 0) 3))) [.fld (.var 0) 4 (.bin .Add (.fld (.var 0) 4) (.idx (.var 1) (.lit (.int (3)))))] [], .fld (.var 0) 4 (.bin .Add (.fld (.var 0) 4) (.bin .Mult (.idx (.var 1) (.lit (.int (1)))) (.blt .abs [.bin .Sub (.var 5) (.var 4)]))), .fld (.var 0) 1 (.var 5), .fld (.var 0) 2 (.idx (.var 3) (.lit (.int (0)))), .fld (.var 0) 3 (.idx (.var 3) (.lit (.int (1))))], false⟩
/-- need_way -/
def d7 : Def := ⟨2, 2, [.ite (.not (.val (.call 3 [.var 0, .var 1]))) [.raise 1] []], false⟩
/-- times_of -/
def d8 : Def := ⟨3, 6, [.expr (.call 7 [.var 1, .var 2]), .asg (.name 3) (.mk 1 []), .asg (.name 4) (.tup []), .for (.name 5) (.seq (.var 2)) [.expr (.inv (.var 3) 0 [.var 0, .var 1, .var 5]), .asg (.name 4) (.bin .Add (.var 4) (.tup [.fld (.var 3) 4]))], .ret (.var 4)], true⟩
/-- time_of -/
def d9 : Def := ⟨3, 3, [.ret (.idx (.bin .Add (.tup [.lit (.int (0))]) (.call 8 [.var 0, .var 1, .var 2])) (.neg (.lit (.int (1)))))], false⟩
/-- _law_draw -/
def d10 : Def := ⟨3, 7, [.expr (.mth .append (.var 1) [.lit (.int (0))]), .asg (.name 3) (.blt .len [.var 1]), .asg (.name 4) (.lit (.int (0))), .ite (.val (.var 0)) [.asg (.name 4) (.idx (.var 0) (.bin .Mod (.var 3) (.blt .len [.var 0])))] [], .asg (.name 5) (.bin .Mod (.bin .Add (.var 4) (.bin .Mult (.lit (.int (104729))) (.var 3))) (.lit (.int (4294967291)))), .asg (.name 5) (.bin .Mod (.bin .Mult (.bin .Mod (.bin .Mult (.var 5) (.var 5)) (.lit (.int (4294967279)))) (.lit (.int (48271)))) (.lit (.int (4294967291)))), .asg (.name 6) (.bin .Mod (.bin .Mult (.bin .Mod (.bin .Mult (.var 5) (.var 5)) (.lit (.int (4294967279)))) (.lit (.int (69621)))) (.lit (.int (4294967291)))), .ret (.bin .Mod (.bin .Add (.bin .Mult (.bin .FloorDiv (.var 5) (.lit (.int (64)))) (.lit (.int (67108864)))) (.bin .FloorDiv (.var 6) (.lit (.int (64))))) (.var 2))], false⟩
/-- _law_pick -/
def d11 : Def := ⟨3, 3, [.ret (.idx (.var 2) (.call 10 [.var 0, .var 1, .blt .len [.var 2]]))], false⟩
/-- _law_machine -/
def d12 : Def := ⟨2, 3, [.asg (.name 2) (.bin .Add (.lit (.int (4))) (.call 10 [.var 0, .var 1, .lit (.int (37))])), .ret (.tup [.var 2, .bin .Add (.lit (.int (1))) (.call 10 [.var 0, .var 1, .lit (.int (4))]), .call 10 [.var 0, .var 1, .lit (.int (10))], .call 10 [.var 0, .var 1, .lit (.int (21))]])], false⟩
/-- _law_page -/
def d13 : Def := ⟨4, 16, [.asg (.name 4) (.tup []), .for (.name 5) (.rng1 (.call 10 [.var 0, .var 1, .bin .Add (.var 3) (.lit (.int (1)))])) [.asg (.tup [.name 6, .name 7]) (.tup [.tup [], .lit (.int (0))]), .asg (.name 8) (.call 11 [.var 0, .var 1, .lst [.lit (.str [97]), .lit (.str [98]), .lit (.str [97, 98]), .lit (.str [97, 98, 99])]]), .for (.name 9) (.rng1 (.call 10 [.var 0, .var 1, .lit (.int (5))])) [.asg (.name 10) (.bin .Sub (.var 2) (.var 7)), .ite (.val (.cmp .Gt (.var 10) (.lit (.int (0))))) [.asg (.name 11) (.bin .Add (.var 7) (.call 10 [.var 0, .var 1, .ife (.val (.cmp .Gt (.var 10) (.lit (.int (2))))) (.call 11 [.var 0, .var 1, .lst [.lit (.int (1)), .lit (.int (3)), .var 10]]) (.lit (.int (1)))])), .asg (.name 12) (.bin .Add (.lit (.int (1))) (.call 10 [.var 0, .var 1, .blt .min3 [.lit (.int (10)), .bin .Sub (.var 2) (.var 11), .bin .Add (.lit (.int (1))) (.call 10 [.var 0, .var 1, .lit (.int (10))])]])), .asg (.name 13) (.mth .join (.lit (.str [])) [.comp (.call 11 [.var 0, .var 1, .lit (.str [120, 121, 122, 33, 126, 48])]) (.name 14) (.rng1 (.var 12)) [] [14]]), .asg (.name 15) (.call 11 [.var 0, .var 1, .var 8]), .asg (.name 6) (.bin .Add (.var 6) (.tup [.tup [.var 11, .var 13, .var 15, .bin .Add (.lit (.int (1))) (.call 10 [.var 0, .var 1, .lit (.int (2))])]])), .asg (.name 7) (.bin .Add (.var 11) (.var 12))] []], .asg (.name 4) (.bin .Add (.var 4) (.tup [.var 6]))], .ret (.var 4)], false⟩
/-- _law_signs -/
def d14 : Def := ⟨1, 8, [.asg (.name 1) (.tup []), .for (.tup [.name 2, .name 3, .name 4, .name 5]) (.seq (.var 0)) [.for (.tup [.name 6, .name 7]) (.enum (.var 3)) [.asg (.name 1) (.bin .Add (.var 1) (.tup [.tup [.bin .Add (.var 2) (.var 6), .var 7, .var 4, .var 5]]))]], .ret (.var 1)], false⟩
/-- _law_passes -/
def d15 : Def := ⟨1, 8, [.asg (.name 1) (.newD []), .for (.tup [.name 2, .name 3, .name 4, .name 5]) (.seq (.call 14 [.var 0])) [.for (.name 6) (.rng2 (.lit (.int (1))) (.bin .Add (.var 5) (.lit (.int (1))))) [.expr (.mth .append (.mth .setdef (.var 1) [.tup [.var 4, .var 6], .newL []]) [.var 2])]], .ret (.blt .tuple [.comp (.bin .Add (.var 7) (.tup [.blt .minL [.idx (.var 1) (.var 7)], .blt .maxL [.idx (.var 1) (.var 7)]])) (.name 7) (.seq (.blt .sorted [.var 1])) [] [7]])], true⟩
/-- _law_steps -/
def d16 : Def := ⟨1, 8, [.asg (.name 1) (.lst []), .for (.tup [.name 2, .name 3]) (.enum (.var 0)) [.asg (.name 1) (.bin .Add (.var 1) (.comp (.tup [.var 2, .var 4, .var 5]) (.tup [.name 4, .name 5, .name 6, .name 7]) (.seq (.call 15 [.var 3])) [] [4, 5, 6, 7]))], .ret (.var 1)], false⟩
/-- _law_way -/
def d17 : Def := ⟨3, 7, [.asg (.name 3) (.tup []), .for (.name 4) (.rng1 (.blt .len [.var 2])) [.asg (.name 5) (.newC (.var 6) (.name 6) (.seq (.call 16 [.var 2])) [.val (.cmp .Eq (.idx (.var 6) (.lit (.int (0)))) (.var 4))] [6]), .while (.val (.var 5)) [.asg (.name 6) (.mth .popAt (.var 5) [.call 10 [.var 0, .var 1, .blt .len [.var 5]]]), .asg (.name 3) (.bin .Add (.var 3) (.tup [.bin .Add (.var 6) (.tup [.cmp .Eq (.call 10 [.var 0, .var 1, .lit (.int (2))]) (.lit (.int (0)))])]))]], .ret (.var 3)], true⟩
/-- _law_costs -/
def d18 : Def := ⟨3, 12, [.asg (.tup [.name 3, .name 4, .name 5, .name 6]) (.tup [.newL [], .lit (.int (0)), .lit (.int (0)), .lit (.str [97])]), .for (.name 7) (.seq (.var 2)) [.asg (.tup [.name 8, .name 9]) (.call 4 [.var 1, .var 7]), .asg (.name 10) (.bin .Sub (.blt .max2 [.var 8, .var 4]) (.blt .min2 [.var 8, .var 4])), .asg (.name 11) (.bin .Add (.blt .max2 [.var 10, .bin .Mult (.idx (.var 0) (.lit (.int (2)))) (.bin .Sub (.idx (.var 7) (.lit (.int (0)))) (.var 5))]) (.bin .Mult (.idx (.var 0) (.lit (.int (1)))) (.bin .Sub (.blt .max2 [.var 8, .var 9]) (.blt .min2 [.var 8, .var 9])))), .expr (.mth .append (.var 3) [.bin .Add (.var 11) (.ife (.val (.cmp .NotEq (.idx (.var 7) (.lit (.int (1)))) (.var 6))) (.idx (.var 0) (.lit (.int (3)))) (.lit (.int (0))))]), .asg (.tup [.name 4, .name 5, .name 6]) (.tup [.var 9, .idx (.var 7) (.lit (.int (0))), .idx (.var 7) (.lit (.int (1)))])], .ret (.var 3)], true⟩
/-- law -/
def d19 : Def := ⟨1, 17, [.asg (.name 1) (.newL []), .for (.name 2) (.rng1 (.lit (.int (8)))) [.asg (.name 3) (.call 12 [.var 0, .var 1]), .asg (.name 4) (.call 13 [.var 0, .var 1, .idx (.var 3) (.lit (.int (0))), .lit (.int (6))]), .asg (.name 5) (.call 17 [.var 0, .var 1, .var 4]), .for (.name 6) (.seq (.var 5)) [.asg (.tup [.name 7, .name 8]) (.call 4 [.var 4, .var 6]), .ite (.or (.val (.cmp .NotEq (.call 4 [.var 4, .bin .Add (.slc (.var 6) none (some (.lit (.int (3))))) (.tup [.not (.idx (.var 6) (.lit (.int (3))))])]) (.tup [.var 8, .var 7]))) (.val (.cmp .NotEq (.cmp .Gt (.var 7) (.var 8)) (.idx (.var 6) (.lit (.int (3))))))) [.ret (.lit (.bl false))] [], .asg (.tup [.name 9, .name 10]) (.idx (.comp (.slc (.var 11) (some (.lit (.int (2)))) none) (.name 11) (.seq (.call 2 [.var 4, .idx (.var 6) (.lit (.int (0)))])) [.val (.cmp .Eq (.slc (.var 11) none (some (.lit (.int (2))))) (.slc (.var 6) (some (.lit (.int (1)))) (some (.lit (.int (3))))))] [11]) (.lit (.int (0)))), .ite (.val (.cmp .NotEq (.blt .sorted [.tup [.var 7, .var 8]]) (.lst [.var 9, .bin .Add (.var 10) (.lit (.int (1)))]))) [.ret (.lit (.bl false))] []], .asg (.tup [.name 12, .name 13]) (.tup [.call 8 [.var 3, .var 4, .var 5], .call 18 [.var 3, .var 4, .var 5]]), .ite (.or (.val (.cmp .NotEq (.blt .len [.var 12]) (.blt .len [.var 5]))) (.val (.cmp .NotEq (.call 9 [.var 3, .var 4, .var 5]) (.blt .sum [.var 13])))) [.ret (.lit (.bl false))] [], .ite (.val (.cmp .NotEq (.comp (.bin .Sub (.var 14) (.var 11)) (.tup [.name 11, .name 14]) (.zip (.bin .Add (.tup [.lit (.int (0))]) (.slc (.var 12) none (some (.neg (.lit (.int (1))))))) (.var 12)) [] [11, 14]) (.var 13))) [.ret (.lit (.bl false))] [], .for (.name 15) (.rng1 (.bin .Add (.blt .len [.var 4]) (.lit (.int (1))))) [.asg (.name 16) (.blt .tuple [.comp (.var 6) (.name 6) (.seq (.var 5)) [.val (.cmp .Lt (.idx (.var 6) (.lit (.int (0)))) (.var 15))] [6]]), .ite (.val (.cmp .NotEq (.call 8 [.var 3, .slc (.var 4) none (some (.var 15)), .var 16]) (.slc (.var 12) none (some (.blt .len [.var 16]))))) [.ret (.lit (.bl false))] [], .ite (.val (.cmp .NotEq (.call 9 [.var 3, .slc (.var 4) none (some (.var 15)), .var 16]) (.blt .sum [.slc (.var 13) none (some (.blt .len [.var 16]))]))) [.ret (.lit (.bl false))] []], .ite (.or (.val (.cmp .NotEq (.call 9 [.var 3, .tup [], .tup []]) (.lit (.int (0))))) (.val (.cmp .NotEq (.call 8 [.var 3, .tup [.tup [], .tup []], .tup []]) (.tup [])))) [.ret (.lit (.bl false))] []], .ret (.lit (.bl true))], false⟩
def P : Prog := ⟨[d0, d1, d2, d3, d4, d5, d6, d7, d8, d9, d10, d11, d12, d13, d14, d15, d16, d17, d18, d19], [((1, 0), 6)], [(1, 5)], [(1, 0), (3, 0)], [0, 1, 3]⟩
def w18_b1 : List St := [.asg (.tup [.name 8, .name 9]) (.call 4 [.var 1, .var 7]), .asg (.name 10) (.bin .Sub (.blt .max2 [.var 8, .var 4]) (.blt .min2 [.var 8, .var 4])), .asg (.name 11) (.bin .Add (.blt .max2 [.var 10, .bin .Mult (.idx (.var 0) (.lit (.int 2))) (.bin .Sub (.idx (.var 7) (.lit (.int 0))) (.var 5))]) (.bin .Mult (.idx (.var 0) (.lit (.int 1))) (.bin .Sub (.blt .max2 [.var 8, .var 9]) (.blt .min2 [.var 8, .var 9])))), .expr (.mth .append (.var 3) [.bin .Add (.var 11) (.ife (.val (.cmp .NotEq (.idx (.var 7) (.lit (.int 1))) (.var 6))) (.idx (.var 0) (.lit (.int 3))) (.lit (.int 0)))]), .asg (.tup [.name 4, .name 5, .name 6]) (.tup [.var 9, .idx (.var 7) (.lit (.int 0)), .idx (.var 7) (.lit (.int 1))]), .wipe [7, 8, 9, 10, 11]]
def w18 : Def := ⟨3, 12, [.asg (.tup [.name 3, .name 4, .name 5, .name 6]) (.tup [.newL [], .lit (.int 0), .lit (.int 0), .lit (.str [97])]), .for (.name 7) (.seq (.var 2)) w18_b1, .wipe [4, 5, 6], .ret (.var 3)], true⟩
def w19_b2 : List St := [.asg (.tup [.name 7, .name 8]) (.call 4 [.var 4, .var 6]), .ite (.or (.val (.cmp .NotEq (.call 4 [.var 4, .bin .Add (.slc (.var 6) none (some (.lit (.int 3)))) (.tup [.not (.idx (.var 6) (.lit (.int 3)))])]) (.tup [.var 8, .var 7]))) (.val (.cmp .NotEq (.cmp .Gt (.var 7) (.var 8)) (.idx (.var 6) (.lit (.int 3)))))) [.ret (.lit (.bl false))] [], .asg (.tup [.name 9, .name 10]) (.idx (.comp (.slc (.var 11) (some (.lit (.int 2))) none) (.name 11) (.seq (.call 2 [.var 4, .idx (.var 6) (.lit (.int 0))])) [.val (.cmp .Eq (.slc (.var 11) none (some (.lit (.int 2)))) (.slc (.var 6) (some (.lit (.int 1))) (some (.lit (.int 3)))))] [11]) (.lit (.int 0))), .ite (.val (.cmp .NotEq (.blt .sorted [.tup [.var 7, .var 8]]) (.lst [.var 9, .bin .Add (.var 10) (.lit (.int 1))]))) [.ret (.lit (.bl false))] [], .wipe [6, 7, 8, 9, 10]]
def w19_b3 : List St := [.asg (.name 16) (.blt .tuple [.comp (.var 6) (.name 6) (.seq (.var 5)) [.val (.cmp .Lt (.idx (.var 6) (.lit (.int 0))) (.var 15))] [6]]), .ite (.val (.cmp .NotEq (.call 8 [.var 3, .slc (.var 4) none (some (.var 15)), .var 16]) (.slc (.var 12) none (some (.blt .len [.var 16]))))) [.ret (.lit (.bl false))] [], .ite (.val (.cmp .NotEq (.call 9 [.var 3, .slc (.var 4) none (some (.var 15)), .var 16]) (.blt .sum [.slc (.var 13) none (some (.blt .len [.var 16]))]))) [.ret (.lit (.bl false))] [], .wipe [15, 16]]
def w19_b1 : List St := [.asg (.name 3) (.call 12 [.var 0, .var 1]), .asg (.name 4) (.call 13 [.var 0, .var 1, .idx (.var 3) (.lit (.int 0)), .lit (.int 6)]), .asg (.name 5) (.call 17 [.var 0, .var 1, .var 4]), .for (.name 6) (.seq (.var 5)) w19_b2, .asg (.tup [.name 12, .name 13]) (.tup [.call 8 [.var 3, .var 4, .var 5], .call 18 [.var 3, .var 4, .var 5]]), .ite (.or (.val (.cmp .NotEq (.blt .len [.var 12]) (.blt .len [.var 5]))) (.val (.cmp .NotEq (.call 9 [.var 3, .var 4, .var 5]) (.blt .sum [.var 13])))) [.ret (.lit (.bl false))] [], .ite (.val (.cmp .NotEq (.comp (.bin .Sub (.var 14) (.var 11)) (.tup [.name 11, .name 14]) (.zip (.bin .Add (.tup [.lit (.int 0)]) (.slc (.var 12) none (some (.neg (.lit (.int 1)))))) (.var 12)) [] [11, 14]) (.var 13))) [.ret (.lit (.bl false))] [], .for (.name 15) (.rng1 (.bin .Add (.blt .len [.var 4]) (.lit (.int 1)))) w19_b3, .ite (.or (.val (.cmp .NotEq (.call 9 [.var 3, .tup [], .tup []]) (.lit (.int 0)))) (.val (.cmp .NotEq (.call 8 [.var 3, .tup [.tup [], .tup []], .tup []]) (.tup [])))) [.ret (.lit (.bl false))] [], .wipe [2, 3, 4, 5, 6, 7, 8, 9, 10, 12, 13, 15, 16]]
def w19 : Def := ⟨1, 17, [.asg (.name 1) (.newL []), .for (.name 2) (.rng1 (.lit (.int 8))) w19_b1, .ret (.lit (.bl true))], false⟩
/-- the program, with what is forgotten -/
def Q : Prog := ⟨[(D_row_of), (D_signs_of), (D_passes_of 1 0), (D_is_way 2), (D_ends_of 2), (D_Stand_init), (D_Stand_do 4), (D_need_way 3), (D_times_of 7), (D_time_of 8), (dDraw), (dPick 10), (dMachine 10), (D__law_page 10 11), (D__law_signs), (D__law_passes 14), (D__law_steps 15), (D__law_way 16 10), w18, w19], [((1, 0), 6)], [(1, 5)], [(1, 0), (3, 0)], [0, 1, 3]⟩
theorem q0 : d0 = stripD (D_row_of) := by kernel_rfl
theorem q1 : d1 = stripD (D_signs_of) := by kernel_rfl
theorem q2 : d2 = stripD (D_passes_of 1 0) := by kernel_rfl
theorem q3 : d3 = stripD (D_is_way 2) := by kernel_rfl
theorem q4 : d4 = stripD (D_ends_of 2) := by kernel_rfl
theorem q5 : d5 = stripD (D_Stand_init) := by kernel_rfl
theorem q6 : d6 = stripD (D_Stand_do 4) := by kernel_rfl
theorem q7 : d7 = stripD (D_need_way 3) := by kernel_rfl
theorem q8 : d8 = stripD (D_times_of 7) := by kernel_rfl
theorem q9 : d9 = stripD (D_time_of 8) := by kernel_rfl
theorem q10 : d10 = stripD (dDraw) := by kernel_rfl
theorem q11 : d11 = stripD (dPick 10) := by kernel_rfl
theorem q12 : d12 = stripD (dMachine 10) := by kernel_rfl
theorem q13 : d13 = stripD (D__law_page 10 11) := by kernel_rfl
theorem q14 : d14 = stripD (D__law_signs) := by kernel_rfl
theorem q15 : d15 = stripD (D__law_passes 14) := by kernel_rfl
theorem q16 : d16 = stripD (D__law_steps 15) := by kernel_rfl
theorem q17 : d17 = stripD (D__law_way 16 10) := by kernel_rfl
theorem q18 : d18 = stripD w18 := by kernel_rfl
theorem q19 : d19 = stripD w19 := by kernel_rfl
theorem q_ok : P.defs = Q.defs.map stripD := by
  show [d0, d1, d2, d3, d4, d5, d6, d7, d8, d9, d10, d11, d12, d13, d14, d15, d16, d17, d18, d19] = [stripD (D_row_of), stripD (D_signs_of), stripD (D_passes_of 1 0), stripD (D_is_way 2), stripD (D_ends_of 2), stripD (D_Stand_init), stripD (D_Stand_do 4), stripD (D_need_way 3), stripD (D_times_of 7), stripD (D_time_of 8), stripD (dDraw), stripD (dPick 10), stripD (dMachine 10), stripD (D__law_page 10 11), stripD (D__law_signs), stripD (D__law_passes 14), stripD (D__law_steps 15), stripD (D__law_way 16 10), stripD w18, stripD w19]
  rw [q0, q1, q2, q3, q4, q5, q6, q7, q8, q9, q10, q11, q12, q13, q14, q15, q16, q17, q18, q19]
theorem of_Q {k : Nat} (h : ∀ ns : List Int, ns.length ≤ 63 → ∃ S, run Q k 19 [.lst (ns.map D.int)] [] = .ok (.bl true) S) : ∀ ns : List Int, ns.length ≤ 63 → ∃ S, run P k 19 [.lst (ns.map D.int)] [] = .ok (.bl true) S := fun ns hn => (h ns hn).imp fun _ hh => run_wiped q_ok rfl rfl rfl rfl hh
theorem e0 : trDef gc0 r0 = d0 := by kernel_rfl
theorem e1 : trDef gc0 r1 = d1 := by kernel_rfl
theorem e2 : trDef gc0 r2 = d2 := by kernel_rfl
theorem e3 : trDef gc0 r3 = d3 := by kernel_rfl
theorem e4 : trDef gc0 r4 = d4 := by kernel_rfl
theorem e5 : trDef gc0 r5 = d5 := by kernel_rfl
theorem e6 : trDef gc0 r6 = d6 := by kernel_rfl
theorem e7 : trDef gc0 r7 = d7 := by kernel_rfl
theorem e8 : trDef gc0 r8 = d8 := by kernel_rfl
theorem e9 : trDef gc0 r9 = d9 := by kernel_rfl
theorem e10 : trDef gc0 r10 = d10 := by kernel_rfl
theorem e11 : trDef gc0 r11 = d11 := by kernel_rfl
theorem e12 : trDef gc0 r12 = d12 := by kernel_rfl
theorem e13 : trDef gc0 r13 = d13 := by kernel_rfl
theorem e14 : trDef gc0 r14 = d14 := by kernel_rfl
theorem e15 : trDef gc0 r15 = d15 := by kernel_rfl
theorem e16 : trDef gc0 r16 = d16 := by kernel_rfl
theorem e17 : trDef gc0 r17 = d17 := by kernel_rfl
theorem e18 : trDef gc0 r18 = d18 := by kernel_rfl
theorem e19 : trDef gc0 r19 = d19 := by kernel_rfl
theorem defs_ok : P.defs = rows.map (trDef gc0) := by
  show [d0, d1, d2, d3, d4, d5, d6, d7, d8, d9, d10, d11, d12, d13, d14, d15, d16, d17, d18, d19] = [trDef gc0 r0, trDef gc0 r1, trDef gc0 r2, trDef gc0 r3, trDef gc0 r4, trDef gc0 r5, trDef gc0 r6, trDef gc0 r7, trDef gc0 r8, trDef gc0 r9, trDef gc0 r10, trDef gc0 r11, trDef gc0 r12, trDef gc0 r13, trDef gc0 r14, trDef gc0 r15, trDef gc0 r16, trDef gc0 r17, trDef gc0 r18, trDef gc0 r19]
  rw [e0, e1, e2, e3, e4, e5, e6, e7, e8, e9, e10, e11, e12, e13, e14, e15, e16, e17, e18, e19]
theorem sc0 : FnScope r0.N (r0.N.take r0.np) (defScope r0.st) := ⟨rfl, rfl, rfl, by decide +kernel, rfl, by decide +kernel, by decide +kernel⟩
theorem sc1 : FnScope r1.N (r1.N.take r1.np) (defScope r1.st) := ⟨rfl, rfl, rfl, by decide +kernel, rfl, by decide +kernel, by decide +kernel⟩
theorem sc2 : FnScope r2.N (r2.N.take r2.np) (defScope r2.st) := ⟨rfl, rfl, rfl, by decide +kernel, rfl, by decide +kernel, by decide +kernel⟩
theorem sc3 : FnScope r3.N (r3.N.take r3.np) (defScope r3.st) := ⟨rfl, rfl, rfl, by decide +kernel, rfl, by decide +kernel, by decide +kernel⟩
theorem sc4 : FnScope r4.N (r4.N.take r4.np) (defScope r4.st) := ⟨rfl, rfl, rfl, by decide +kernel, rfl, by decide +kernel, by decide +kernel⟩
theorem sc5 : FnScope r5.N (r5.N.take r5.np) (defScope r5.st) := ⟨rfl, rfl, rfl, by decide +kernel, rfl, by decide +kernel, by decide +kernel⟩
theorem sc6 : FnScope r6.N (r6.N.take r6.np) (defScope r6.st) := ⟨rfl, rfl, rfl, by decide +kernel, rfl, by decide +kernel, by decide +kernel⟩
theorem sc7 : FnScope r7.N (r7.N.take r7.np) (defScope r7.st) := ⟨rfl, rfl, rfl, by decide +kernel, rfl, by decide +kernel, by decide +kernel⟩
theorem sc8 : FnScope r8.N (r8.N.take r8.np) (defScope r8.st) := ⟨rfl, rfl, rfl, by decide +kernel, rfl, by decide +kernel, by decide +kernel⟩
theorem sc9 : FnScope r9.N (r9.N.take r9.np) (defScope r9.st) := ⟨rfl, rfl, rfl, by decide +kernel, rfl, by decide +kernel, by decide +kernel⟩
theorem sc10 : FnScope r10.N (r10.N.take r10.np) (defScope r10.st) := ⟨rfl, rfl, rfl, by decide +kernel, rfl, by decide +kernel, by decide +kernel⟩
theorem sc11 : FnScope r11.N (r11.N.take r11.np) (defScope r11.st) := ⟨rfl, rfl, rfl, by decide +kernel, rfl, by decide +kernel, by decide +kernel⟩
theorem sc12 : FnScope r12.N (r12.N.take r12.np) (defScope r12.st) := ⟨rfl, rfl, rfl, by decide +kernel, rfl, by decide +kernel, by decide +kernel⟩
theorem sc13 : FnScope r13.N (r13.N.take r13.np) (defScope r13.st) := ⟨rfl, rfl, rfl, by decide +kernel, rfl, by decide +kernel, by decide +kernel⟩
theorem sc14 : FnScope r14.N (r14.N.take r14.np) (defScope r14.st) := ⟨rfl, rfl, rfl, by decide +kernel, rfl, by decide +kernel, by decide +kernel⟩
theorem sc15 : FnScope r15.N (r15.N.take r15.np) (defScope r15.st) := ⟨rfl, rfl, rfl, by decide +kernel, rfl, by decide +kernel, by decide +kernel⟩
theorem sc16 : FnScope r16.N (r16.N.take r16.np) (defScope r16.st) := ⟨rfl, rfl, rfl, by decide +kernel, rfl, by decide +kernel, by decide +kernel⟩
theorem sc17 : FnScope r17.N (r17.N.take r17.np) (defScope r17.st) := ⟨rfl, rfl, rfl, by decide +kernel, rfl, by decide +kernel, by decide +kernel⟩
theorem sc18 : FnScope r18.N (r18.N.take r18.np) (defScope r18.st) := ⟨rfl, rfl, rfl, by decide +kernel, rfl, by decide +kernel, by decide +kernel⟩
theorem sc19 : FnScope r19.N (r19.N.take r19.np) (defScope r19.st) := ⟨rfl, rfl, rfl, by decide +kernel, rfl, by decide +kernel, by decide +kernel⟩
theorem all_mk {n : Nat} {l : PySem.W.OpenLaw} {w : World} {K : PySem.W.Frag} {h : Heap} {mg : Str → Option Value} {fa C1 X0 X1 X3 f0 f1 f2 f3 f4 f5 f6 f7 f8 f9 f10 f11 f12 f13 f14 f15 f16 f17 f18 f19 : Addr} (X : K.In h) (G : h.Ns mainGlobals mg) (hfa : mg "law" = some (.ref fa))
    (hlaw : ∀ ns : List Int, ns.length ≤ 63 → ∃ S, run P n 19 [.lst (ns.map D.int)] [] = .ok (.bl true) S)
    {od0 an0 : Option Addr} {sl0 : Array (Option Value)} {oc0 kV0 dc0 pm0 cd0 ct0 : Value}
    {od1 an1 : Option Addr} {sl1 : Array (Option Value)} {oc1 kV1 dc1 pm1 cd1 ct1 : Value}
    {od2 an2 : Option Addr} {sl2 : Array (Option Value)} {oc2 kV2 dc2 pm2 cd2 ct2 : Value}
    {od3 an3 : Option Addr} {sl3 : Array (Option Value)} {oc3 kV3 dc3 pm3 cd3 ct3 : Value}
    {od4 an4 : Option Addr} {sl4 : Array (Option Value)} {oc4 kV4 dc4 pm4 cd4 ct4 : Value}
    {od5 an5 : Option Addr} {sl5 : Array (Option Value)} {oc5 kV5 dc5 pm5 cd5 ct5 : Value}
    {od6 an6 : Option Addr} {sl6 : Array (Option Value)} {oc6 kV6 dc6 pm6 cd6 ct6 : Value}
    {od7 an7 : Option Addr} {sl7 : Array (Option Value)} {oc7 kV7 dc7 pm7 cd7 ct7 : Value}
    {od8 an8 : Option Addr} {sl8 : Array (Option Value)} {oc8 kV8 dc8 pm8 cd8 ct8 : Value}
    {od9 an9 : Option Addr} {sl9 : Array (Option Value)} {oc9 kV9 dc9 pm9 cd9 ct9 : Value}
    {od10 an10 : Option Addr} {sl10 : Array (Option Value)} {oc10 kV10 dc10 pm10 cd10 ct10 : Value}
    {od11 an11 : Option Addr} {sl11 : Array (Option Value)} {oc11 kV11 dc11 pm11 cd11 ct11 : Value}
    {od12 an12 : Option Addr} {sl12 : Array (Option Value)} {oc12 kV12 dc12 pm12 cd12 ct12 : Value}
    {od13 an13 : Option Addr} {sl13 : Array (Option Value)} {oc13 kV13 dc13 pm13 cd13 ct13 : Value}
    {od14 an14 : Option Addr} {sl14 : Array (Option Value)} {oc14 kV14 dc14 pm14 cd14 ct14 : Value}
    {od15 an15 : Option Addr} {sl15 : Array (Option Value)} {oc15 kV15 dc15 pm15 cd15 ct15 : Value}
    {od16 an16 : Option Addr} {sl16 : Array (Option Value)} {oc16 kV16 dc16 pm16 cd16 ct16 : Value}
    {od17 an17 : Option Addr} {sl17 : Array (Option Value)} {oc17 kV17 dc17 pm17 cd17 ct17 : Value}
    {od18 an18 : Option Addr} {sl18 : Array (Option Value)} {oc18 kV18 dc18 pm18 cd18 ct18 : Value}
    {od19 an19 : Option Addr} {sl19 : Array (Option Value)} {oc19 kV19 dc19 pm19 cd19 ct19 : Value}
    {u0 : Value}
    (aC1 : PySem.W.nsIn K mainGlobals "Stand" = some (some (.ref C1)))
    (aX0 : PySem.W.nsIn K mainGlobals "HeadError" = some (some (.ref X0)))
    (aX1 : PySem.W.nsIn K mainGlobals "BadWay" = some (some (.ref X1)))
    (aX3 : PySem.W.nsIn K mainGlobals "NoRow" = some (some (.ref X3)))
    (a0 : PySem.W.nsIn K mainGlobals "row_of" = some (some (.ref f0)))
    (l0 : K.lookup f0 = some ⟨oc0, od0, .func (PySem.W.fnOf "row_of" "row_of" (defArgs (top 6)) (defBody (top 6)) (defScope (top 6)) .none kV0 dc0 pm0 an0 cd0 ct0), sl0⟩)
    (c0 : PySem.W.codeIn K cd0 "row_of" = true)
    (k0 : PySem.W.keepIn K (.ref f0) = true)
    (a1 : PySem.W.nsIn K mainGlobals "signs_of" = some (some (.ref f1)))
    (l1 : K.lookup f1 = some ⟨oc1, od1, .func (PySem.W.fnOf "signs_of" "signs_of" (defArgs (top 7)) (defBody (top 7)) (defScope (top 7)) .none kV1 dc1 pm1 an1 cd1 ct1), sl1⟩)
    (c1 : PySem.W.codeIn K cd1 "signs_of" = true)
    (k1 : PySem.W.keepIn K (.ref f1) = true)
    (a2 : PySem.W.nsIn K mainGlobals "passes_of" = some (some (.ref f2)))
    (l2 : K.lookup f2 = some ⟨oc2, od2, .func (PySem.W.fnOf "passes_of" "passes_of" (defArgs (top 9)) (defBody (top 9)) (defScope (top 9)) .none kV2 dc2 pm2 an2 cd2 ct2), sl2⟩)
    (c2 : PySem.W.codeIn K cd2 "passes_of" = true)
    (k2 : PySem.W.keepIn K (.ref f2) = true)
    (a3 : PySem.W.nsIn K mainGlobals "is_way" = some (some (.ref f3)))
    (l3 : K.lookup f3 = some ⟨oc3, od3, .func (PySem.W.fnOf "is_way" "is_way" (defArgs (top 10)) (defBody (top 10)) (defScope (top 10)) .none kV3 dc3 pm3 an3 cd3 ct3), sl3⟩)
    (c3 : PySem.W.codeIn K cd3 "is_way" = true)
    (k3 : PySem.W.keepIn K (.ref f3) = true)
    (a4 : PySem.W.nsIn K mainGlobals "ends_of" = some (some (.ref f4)))
    (l4 : K.lookup f4 = some ⟨oc4, od4, .func (PySem.W.fnOf "ends_of" "ends_of" (defArgs (top 11)) (defBody (top 11)) (defScope (top 11)) .none kV4 dc4 pm4 an4 cd4 ct4), sl4⟩)
    (c4 : PySem.W.codeIn K cd4 "ends_of" = true)
    (k4 : PySem.W.keepIn K (.ref f4) = true)
    (a5 : PySem.W.findIn K (.ref C1) "__init__" = some (some (.ref f5)))
    (i5 : PySem.W.isFn K (.ref f5) = true)
    (l5 : K.lookup f5 = some ⟨oc5, od5, .func (PySem.W.fnOf "__init__" "Stand.__init__" (defArgs (inClass (top 12) 0)) (defBody (inClass (top 12) 0)) (defScope (inClass (top 12) 0)) .none kV5 dc5 pm5 an5 cd5 ct5), sl5⟩)
    (c5 : PySem.W.codeIn K cd5 "Stand.__init__" = true)
    (k5 : PySem.W.keepIn K (.ref f5) = true)
    (a6 : PySem.W.findIn K (.ref C1) "do" = some (some (.ref f6)))
    (i6 : PySem.W.isFn K (.ref f6) = true)
    (l6 : K.lookup f6 = some ⟨oc6, od6, .func (PySem.W.fnOf "do" "Stand.do" (defArgs (inClass (top 12) 1)) (defBody (inClass (top 12) 1)) (defScope (inClass (top 12) 1)) .none kV6 dc6 pm6 an6 cd6 ct6), sl6⟩)
    (c6 : PySem.W.codeIn K cd6 "Stand.do" = true)
    (k6 : PySem.W.keepIn K (.ref f6) = true)
    (a7 : PySem.W.nsIn K mainGlobals "need_way" = some (some (.ref f7)))
    (l7 : K.lookup f7 = some ⟨oc7, od7, .func (PySem.W.fnOf "need_way" "need_way" (defArgs (top 13)) (defBody (top 13)) (defScope (top 13)) .none kV7 dc7 pm7 an7 cd7 ct7), sl7⟩)
    (c7 : PySem.W.codeIn K cd7 "need_way" = true)
    (k7 : PySem.W.keepIn K (.ref f7) = true)
    (a8 : PySem.W.nsIn K mainGlobals "times_of" = some (some (.ref f8)))
    (l8 : K.lookup f8 = some ⟨oc8, od8, .func (PySem.W.fnOf "times_of" "times_of" (defArgs (top 14)) (defBody (top 14)) (defScope (top 14)) .none kV8 dc8 pm8 an8 cd8 ct8), sl8⟩)
    (c8 : PySem.W.codeIn K cd8 "times_of" = true)
    (k8 : PySem.W.keepIn K (.ref f8) = true)
    (a9 : PySem.W.nsIn K mainGlobals "time_of" = some (some (.ref f9)))
    (l9 : K.lookup f9 = some ⟨oc9, od9, .func (PySem.W.fnOf "time_of" "time_of" (defArgs (top 15)) (defBody (top 15)) (defScope (top 15)) .none kV9 dc9 pm9 an9 cd9 ct9), sl9⟩)
    (c9 : PySem.W.codeIn K cd9 "time_of" = true)
    (k9 : PySem.W.keepIn K (.ref f9) = true)
    (a10 : PySem.W.nsIn K mainGlobals "_law_draw" = some (some (.ref f10)))
    (l10 : K.lookup f10 = some ⟨oc10, od10, .func (PySem.W.fnOf "_law_draw" "_law_draw" (defArgs (top 17)) (defBody (top 17)) (defScope (top 17)) .none kV10 dc10 pm10 an10 cd10 ct10), sl10⟩)
    (c10 : PySem.W.codeIn K cd10 "_law_draw" = true)
    (k10 : PySem.W.keepIn K (.ref f10) = true)
    (a11 : PySem.W.nsIn K mainGlobals "_law_pick" = some (some (.ref f11)))
    (l11 : K.lookup f11 = some ⟨oc11, od11, .func (PySem.W.fnOf "_law_pick" "_law_pick" (defArgs (top 18)) (defBody (top 18)) (defScope (top 18)) .none kV11 dc11 pm11 an11 cd11 ct11), sl11⟩)
    (c11 : PySem.W.codeIn K cd11 "_law_pick" = true)
    (k11 : PySem.W.keepIn K (.ref f11) = true)
    (a12 : PySem.W.nsIn K mainGlobals "_law_machine" = some (some (.ref f12)))
    (l12 : K.lookup f12 = some ⟨oc12, od12, .func (PySem.W.fnOf "_law_machine" "_law_machine" (defArgs (top 19)) (defBody (top 19)) (defScope (top 19)) .none kV12 dc12 pm12 an12 cd12 ct12), sl12⟩)
    (c12 : PySem.W.codeIn K cd12 "_law_machine" = true)
    (k12 : PySem.W.keepIn K (.ref f12) = true)
    (a13 : PySem.W.nsIn K mainGlobals "_law_page" = some (some (.ref f13)))
    (l13 : K.lookup f13 = some ⟨oc13, od13, .func (PySem.W.fnOf "_law_page" "_law_page" (defArgs (top 20)) (defBody (top 20)) (defScope (top 20)) .none kV13 dc13 pm13 an13 cd13 ct13), sl13⟩)
    (c13 : PySem.W.codeIn K cd13 "_law_page" = true)
    (k13 : PySem.W.keepIn K (.ref f13) = true)
    (a14 : PySem.W.nsIn K mainGlobals "_law_signs" = some (some (.ref f14)))
    (l14 : K.lookup f14 = some ⟨oc14, od14, .func (PySem.W.fnOf "_law_signs" "_law_signs" (defArgs (top 21)) (defBody (top 21)) (defScope (top 21)) .none kV14 dc14 pm14 an14 cd14 ct14), sl14⟩)
    (c14 : PySem.W.codeIn K cd14 "_law_signs" = true)
    (k14 : PySem.W.keepIn K (.ref f14) = true)
    (a15 : PySem.W.nsIn K mainGlobals "_law_passes" = some (some (.ref f15)))
    (l15 : K.lookup f15 = some ⟨oc15, od15, .func (PySem.W.fnOf "_law_passes" "_law_passes" (defArgs (top 22)) (defBody (top 22)) (defScope (top 22)) .none kV15 dc15 pm15 an15 cd15 ct15), sl15⟩)
    (c15 : PySem.W.codeIn K cd15 "_law_passes" = true)
    (k15 : PySem.W.keepIn K (.ref f15) = true)
    (a16 : PySem.W.nsIn K mainGlobals "_law_steps" = some (some (.ref f16)))
    (l16 : K.lookup f16 = some ⟨oc16, od16, .func (PySem.W.fnOf "_law_steps" "_law_steps" (defArgs (top 23)) (defBody (top 23)) (defScope (top 23)) .none kV16 dc16 pm16 an16 cd16 ct16), sl16⟩)
    (c16 : PySem.W.codeIn K cd16 "_law_steps" = true)
    (k16 : PySem.W.keepIn K (.ref f16) = true)
    (a17 : PySem.W.nsIn K mainGlobals "_law_way" = some (some (.ref f17)))
    (l17 : K.lookup f17 = some ⟨oc17, od17, .func (PySem.W.fnOf "_law_way" "_law_way" (defArgs (top 24)) (defBody (top 24)) (defScope (top 24)) .none kV17 dc17 pm17 an17 cd17 ct17), sl17⟩)
    (c17 : PySem.W.codeIn K cd17 "_law_way" = true)
    (k17 : PySem.W.keepIn K (.ref f17) = true)
    (a18 : PySem.W.nsIn K mainGlobals "_law_costs" = some (some (.ref f18)))
    (l18 : K.lookup f18 = some ⟨oc18, od18, .func (PySem.W.fnOf "_law_costs" "_law_costs" (defArgs (top 25)) (defBody (top 25)) (defScope (top 25)) .none kV18 dc18 pm18 an18 cd18 ct18), sl18⟩)
    (c18 : PySem.W.codeIn K cd18 "_law_costs" = true)
    (k18 : PySem.W.keepIn K (.ref f18) = true)
    (a19 : PySem.W.nsIn K mainGlobals "law" = some (some (.ref f19)))
    (l19 : K.lookup f19 = some ⟨oc19, od19, .func (PySem.W.fnOf "law" "law" (defArgs (top 26)) (defBody (top 26)) (defScope (top 26)) .none kV19 dc19 pm19 an19 cd19 ct19), sl19⟩)
    (c19 : PySem.W.codeIn K cd19 "law" = true)
    (k19 : PySem.W.keepIn K (.ref f19) = true)
    (pg1 : PySem.W.plainGet K C1 Str.empty = true)
    (hd1 : PySem.W.hasDictIn K C1 = true)
    (po1 : PySem.W.plainOver K C1 = true)
    (sa1 : PySem.W.findIn K (.ref C1) "__setattr__" = some (some (.builtin "object.__setattr__")))
    (mk1 : PySem.W.makesIn K C1 = true)
    (kc1 : PySem.W.keepIn K (.ref C1) = true)
    (n1_0 : PySem.W.findIn K (.ref C1) "machine" = some none)
    (n1_1 : PySem.W.findIn K (.ref C1) "place" = some none)
    (n1_2 : PySem.W.findIn K (.ref C1) "row" = some none)
    (n1_3 : PySem.W.findIn K (.ref C1) "font" = some none)
    (n1_4 : PySem.W.findIn K (.ref C1) "beats" = some none)
    (n1_5 : PySem.W.findIn K (.ref C1) "fed" = some none)
    (n1_6 : PySem.W.findIn K (.ref C1) "struck" = some none)
    (xi0 : PySem.W.excIn K X0 [.type "ValueError", .type "Exception", .type "BaseException", .type "object"] "ValueError.__new__" = true)
    (xk0 : PySem.W.keepIn K (.ref X0) = true)
    (xb0 : PySem.W.subIn K (.ref X0) (.type "BaseException") = some true)
    (xt0 : PySem.W.typeIn K (.ref X0) = some (.type "type"))
    (xc0 : PySem.W.isClsIn K X0 = true)
    (xs0_0 : PySem.W.subIn K (.ref X0) (.ref X0) = some true)
    (xs0_1 : PySem.W.subIn K (.ref X0) (.ref X1) = some false)
    (xs0_3 : PySem.W.subIn K (.ref X0) (.ref X3) = some false)
    (xi1 : PySem.W.excIn K X1 [.type "ValueError", .type "Exception", .type "BaseException", .type "object"] "ValueError.__new__" = true)
    (xk1 : PySem.W.keepIn K (.ref X1) = true)
    (xb1 : PySem.W.subIn K (.ref X1) (.type "BaseException") = some true)
    (xt1 : PySem.W.typeIn K (.ref X1) = some (.type "type"))
    (xc1 : PySem.W.isClsIn K X1 = true)
    (xs1_0 : PySem.W.subIn K (.ref X1) (.ref X0) = some true)
    (xs1_1 : PySem.W.subIn K (.ref X1) (.ref X1) = some true)
    (xs1_3 : PySem.W.subIn K (.ref X1) (.ref X3) = some false)
    (xi3 : PySem.W.excIn K X3 [.type "ValueError", .type "Exception", .type "BaseException", .type "object"] "ValueError.__new__" = true)
    (xk3 : PySem.W.keepIn K (.ref X3) = true)
    (xb3 : PySem.W.subIn K (.ref X3) (.type "BaseException") = some true)
    (xt3 : PySem.W.typeIn K (.ref X3) = some (.type "type"))
    (xc3 : PySem.W.isClsIn K X3 = true)
    (xs3_0 : PySem.W.subIn K (.ref X3) (.ref X0) = some true)
    (xs3_1 : PySem.W.subIn K (.ref X3) (.ref X1) = some false)
    (xs3_3 : PySem.W.subIn K (.ref X3) (.ref X3) = some true)
    (z0 : PySem.W.nsIn K mainGlobals "len" = some none)
    (z1 : PySem.W.nsIn K mainGlobals "tuple" = some none)
    (z2 : PySem.W.nsIn K mainGlobals "enumerate" = some none)
    (z3 : PySem.W.nsIn K mainGlobals "min" = some none)
    (z4 : PySem.W.nsIn K mainGlobals "max" = some none)
    (z5 : PySem.W.nsIn K mainGlobals "range" = some none)
    (z6 : PySem.W.nsIn K mainGlobals "isinstance" = some none)
    (z7 : PySem.W.nsIn K mainGlobals "sorted" = some none)
    (z8 : PySem.W.nsIn K mainGlobals "bool" = some none)
    (z9 : PySem.W.nsIn K mainGlobals "int" = some none)
    (z10 : PySem.W.nsIn K mainGlobals "str" = some none)
    (z11 : PySem.W.nsIn K mainGlobals "abs" = some none)
    (z12 : PySem.W.nsIn K mainGlobals "sum" = some none)
    (z13 : PySem.W.nsIn K mainGlobals "zip" = some none)
    (w0 : PySem.W.nsIn K mainGlobals "FONTS" = some (some u0))
    (v0 : RelV (.str (sOf [97, 98, 99])) u0) :
    ∃ fd : FuncData, (∀ (s : Shared) (v : Value), BindsTo s fd ⟨[v], []⟩ [("script", v)]) ∧ ∀ base : Heap, K.In base → base.Ns mainGlobals mg → FnOk l.prog w K mg base (L2.CX l.prog w) (2 * n) fa fd ["script"] spLaw := by
  have e := hfa.symm.trans (PySem.W.mg_of X G a19)
  cases e
  have F0 := fun_mk (st := (top 6)) l0 c0 k0
  have b0 := F0.binds (ps := ["page", "number"]) fun _ _ _ _ _ _ us hl => match us, hl with | [_, _], _ => rfl
  have F1 := fun_mk (st := (top 7)) l1 c1 k1
  have b1 := F1.binds (ps := ["row"]) fun _ _ _ _ _ _ us hl => match us, hl with | [_], _ => rfl
  have F2 := fun_mk (st := (top 9)) l2 c2 k2
  have b2 := F2.binds (ps := ["page", "number"]) fun _ _ _ _ _ _ us hl => match us, hl with | [_, _], _ => rfl
  have F3 := fun_mk (st := (top 10)) l3 c3 k3
  have b3 := F3.binds (ps := ["page", "thing"]) fun _ _ _ _ _ _ us hl => match us, hl with | [_, _], _ => rfl
  have F4 := fun_mk (st := (top 11)) l4 c4 k4
  have b4 := F4.binds (ps := ["page", "step"]) fun _ _ _ _ _ _ us hl => match us, hl with | [_, _], _ => rfl
  have F5 := fun_mk (st := (inClass (top 12) 0)) l5 c5 k5
  have b5 := F5.binds (ps := ["self"]) fun _ _ _ _ _ _ us hl => match us, hl with | [_], _ => rfl
  have F6 := fun_mk (st := (inClass (top 12) 1)) l6 c6 k6
  have b6 := F6.binds (ps := ["self", "machine", "page", "step"]) fun _ _ _ _ _ _ us hl => match us, hl with | [_, _, _, _], _ => rfl
  have F7 := fun_mk (st := (top 13)) l7 c7 k7
  have b7 := F7.binds (ps := ["page", "way"]) fun _ _ _ _ _ _ us hl => match us, hl with | [_, _], _ => rfl
  have F8 := fun_mk (st := (top 14)) l8 c8 k8
  have b8 := F8.binds (ps := ["machine", "page", "way"]) fun _ _ _ _ _ _ us hl => match us, hl with | [_, _, _], _ => rfl
  have F9 := fun_mk (st := (top 15)) l9 c9 k9
  have b9 := F9.binds (ps := ["machine", "page", "way"]) fun _ _ _ _ _ _ us hl => match us, hl with | [_, _, _], _ => rfl
  have F10 := fun_mk (st := (top 17)) l10 c10 k10
  have b10 := F10.binds (ps := ["script", "town", "many"]) fun _ _ _ _ _ _ us hl => match us, hl with | [_, _, _], _ => rfl
  have F11 := fun_mk (st := (top 18)) l11 c11 k11
  have b11 := F11.binds (ps := ["script", "town", "some"]) fun _ _ _ _ _ _ us hl => match us, hl with | [_, _, _], _ => rfl
  have F12 := fun_mk (st := (top 19)) l12 c12 k12
  have b12 := F12.binds (ps := ["script", "town"]) fun _ _ _ _ _ _ us hl => match us, hl with | [_, _], _ => rfl
  have F13 := fun_mk (st := (top 20)) l13 c13 k13
  have b13 := F13.binds (ps := ["script", "town", "width", "high"]) fun _ _ _ _ _ _ us hl => match us, hl with | [_, _, _, _], _ => rfl
  have F14 := fun_mk (st := (top 21)) l14 c14 k14
  have b14 := F14.binds (ps := ["row"]) fun _ _ _ _ _ _ us hl => match us, hl with | [_], _ => rfl
  have F15 := fun_mk (st := (top 22)) l15 c15 k15
  have b15 := F15.binds (ps := ["row"]) fun _ _ _ _ _ _ us hl => match us, hl with | [_], _ => rfl
  have F16 := fun_mk (st := (top 23)) l16 c16 k16
  have b16 := F16.binds (ps := ["page"]) fun _ _ _ _ _ _ us hl => match us, hl with | [_], _ => rfl
  have F17 := fun_mk (st := (top 24)) l17 c17 k17
  have b17 := F17.binds (ps := ["script", "town", "page"]) fun _ _ _ _ _ _ us hl => match us, hl with | [_, _, _], _ => rfl
  have F18 := fun_mk (st := (top 25)) l18 c18 k18
  have b18 := F18.binds (ps := ["machine", "page", "way"]) fun _ _ _ _ _ _ us hl => match us, hl with | [_, _, _], _ => rfl
  have F19 := fun_mk (st := (top 26)) l19 c19 k19
  have b19 := F19.binds (ps := ["script"]) fun _ _ _ _ _ _ us hl => match us, hl with | [_], _ => rfl
  let L : List (Addr × FuncData) := [(f0, PySem.W.fnOf "row_of" "row_of" (defArgs (top 6)) (defBody (top 6)) (defScope (top 6)) .none kV0 dc0 pm0 an0 cd0 ct0), (f1, PySem.W.fnOf "signs_of" "signs_of" (defArgs (top 7)) (defBody (top 7)) (defScope (top 7)) .none kV1 dc1 pm1 an1 cd1 ct1), (f2, PySem.W.fnOf "passes_of" "passes_of" (defArgs (top 9)) (defBody (top 9)) (defScope (top 9)) .none kV2 dc2 pm2 an2 cd2 ct2), (f3, PySem.W.fnOf "is_way" "is_way" (defArgs (top 10)) (defBody (top 10)) (defScope (top 10)) .none kV3 dc3 pm3 an3 cd3 ct3), (f4, PySem.W.fnOf "ends_of" "ends_of" (defArgs (top 11)) (defBody (top 11)) (defScope (top 11)) .none kV4 dc4 pm4 an4 cd4 ct4), (f5, PySem.W.fnOf "__init__" "Stand.__init__" (defArgs (inClass (top 12) 0)) (defBody (inClass (top 12) 0)) (defScope (inClass (top 12) 0)) .none kV5 dc5 pm5 an5 cd5 ct5), (f6, PySem.W.fnOf "do" "Stand.do" (defArgs (inClass (top 12) 1)) (defBody (inClass (top 12) 1)) (defScope (inClass (top 12) 1)) .none kV6 dc6 pm6 an6 cd6 ct6), (f7, PySem.W.fnOf "need_way" "need_way" (defArgs (top 13)) (defBody (top 13)) (defScope (top 13)) .none kV7 dc7 pm7 an7 cd7 ct7), (f8, PySem.W.fnOf "times_of" "times_of" (defArgs (top 14)) (defBody (top 14)) (defScope (top 14)) .none kV8 dc8 pm8 an8 cd8 ct8), (f9, PySem.W.fnOf "time_of" "time_of" (defArgs (top 15)) (defBody (top 15)) (defScope (top 15)) .none kV9 dc9 pm9 an9 cd9 ct9), (f10, PySem.W.fnOf "_law_draw" "_law_draw" (defArgs (top 17)) (defBody (top 17)) (defScope (top 17)) .none kV10 dc10 pm10 an10 cd10 ct10), (f11, PySem.W.fnOf "_law_pick" "_law_pick" (defArgs (top 18)) (defBody (top 18)) (defScope (top 18)) .none kV11 dc11 pm11 an11 cd11 ct11), (f12, PySem.W.fnOf "_law_machine" "_law_machine" (defArgs (top 19)) (defBody (top 19)) (defScope (top 19)) .none kV12 dc12 pm12 an12 cd12 ct12), (f13, PySem.W.fnOf "_law_page" "_law_page" (defArgs (top 20)) (defBody (top 20)) (defScope (top 20)) .none kV13 dc13 pm13 an13 cd13 ct13), (f14, PySem.W.fnOf "_law_signs" "_law_signs" (defArgs (top 21)) (defBody (top 21)) (defScope (top 21)) .none kV14 dc14 pm14 an14 cd14 ct14), (f15, PySem.W.fnOf "_law_passes" "_law_passes" (defArgs (top 22)) (defBody (top 22)) (defScope (top 22)) .none kV15 dc15 pm15 an15 cd15 ct15), (f16, PySem.W.fnOf "_law_steps" "_law_steps" (defArgs (top 23)) (defBody (top 23)) (defScope (top 23)) .none kV16 dc16 pm16 an16 cd16 ct16), (f17, PySem.W.fnOf "_law_way" "_law_way" (defArgs (top 24)) (defBody (top 24)) (defScope (top 24)) .none kV17 dc17 pm17 an17 cd17 ct17), (f18, PySem.W.fnOf "_law_costs" "_law_costs" (defArgs (top 25)) (defBody (top 25)) (defScope (top 25)) .none kV18 dc18 pm18 an18 cd18 ct18), (fa, PySem.W.fnOf "law" "law" (defArgs (top 26)) (defBody (top 26)) (defScope (top 26)) .none kV19 dc19 pm19 an19 cd19 ct19)]
  let T : Tie := ⟨fun n => gc0.flds[n]?, fun c => ([0, C1] : List Addr).getD c 0, fun c => ([1] : List Nat).contains c, fun c => ([X0, X1, 0, X3, 0, 0] : List Addr).getD c 0⟩
  have hL : FnsL K rows L := ⟨⟨F0, b0, sc0, by decide⟩, ⟨F1, b1, sc1, by decide⟩, ⟨F2, b2, sc2, by decide⟩, ⟨F3, b3, sc3, by decide⟩, ⟨F4, b4, sc4, by decide⟩, ⟨F5, b5, sc5, by decide⟩, ⟨F6, b6, sc6, by decide⟩, ⟨F7, b7, sc7, by decide⟩, ⟨F8, b8, sc8, by decide⟩, ⟨F9, b9, sc9, by decide⟩, ⟨F10, b10, sc10, by decide⟩, ⟨F11, b11, sc11, by decide⟩, ⟨F12, b12, sc12, by decide⟩, ⟨F13, b13, sc13, by decide⟩, ⟨F14, b14, sc14, by decide⟩, ⟨F15, b15, sc15, by decide⟩, ⟨F16, b16, sc16, by decide⟩, ⟨F17, b17, sc17, by decide⟩, ⟨F18, b18, sc18, by decide⟩, ⟨F19, b19, sc19, by decide⟩, trivial⟩
  let D0 : Addr × FuncData := (fa, PySem.W.fnOf "law" "law" (defArgs (top 26)) (defBody (top 26)) (defScope (top 26)) .none kV19 dc19 pm19 an19 cd19 ct19)
  have GG : Gl0 T P gc0 rows K mg (fun i => (L.getD i D0).1) (fun i => (L.getD i D0).2) := by
    refine ⟨fun f r hr => ?_, defs_ok, ?_, ?_, ?_, rfl, by decide +kernel, ?_, ?_, ?_, ?_⟩
    · have q := hL.get D0 hr
      exact ⟨q.f, q.b, q.s, q.l⟩
    · exact ⟨⟨PySem.W.mg_of X G a0, by decide⟩, ⟨PySem.W.mg_of X G a1, by decide⟩, ⟨PySem.W.mg_of X G a2, by decide⟩, ⟨PySem.W.mg_of X G a3, by decide⟩, ⟨PySem.W.mg_of X G a4, by decide⟩, ⟨PySem.W.mg_of X G a7, by decide⟩, ⟨PySem.W.mg_of X G a8, by decide⟩, ⟨PySem.W.mg_of X G a9, by decide⟩, ⟨PySem.W.mg_of X G a10, by decide⟩, ⟨PySem.W.mg_of X G a11, by decide⟩, ⟨PySem.W.mg_of X G a12, by decide⟩, ⟨PySem.W.mg_of X G a13, by decide⟩, ⟨PySem.W.mg_of X G a14, by decide⟩, ⟨PySem.W.mg_of X G a15, by decide⟩, ⟨PySem.W.mg_of X G a16, by decide⟩, ⟨PySem.W.mg_of X G a17, by decide⟩, ⟨PySem.W.mg_of X G a18, by decide⟩, ⟨PySem.W.mg_of X G a19, by decide⟩, trivial⟩
    · exact ⟨⟨PySem.W.mg_of X G aC1, rfl, 5, rfl, by decide, ⟨mk1, a5, i5, kc1⟩⟩, trivial⟩
    · refine ⟨fun i j s h1 h2 => nodup_str (by decide +kernel : gc0.flds.Nodup) h1 h2, fun c hc => ?_⟩
      have hc : c = 1 := by simpa [T] using hc
      by_cases hc1 : c = 1
      · subst hc1
        refine ⟨⟨pg1, hd1, po1, sa1⟩, fun n s hs => ?_⟩
        have q : AllL (fun s => NoAttr K C1 s) gc0.flds := ⟨n1_0, n1_1, n1_2, n1_3, n1_4, n1_5, n1_6, trivial⟩
        exact q.get hs
      omega
    · have q : AllL (fun e : (Nat × Nat) × Nat => e.2 < rows.length ∧ ∃ m, gc0.mths[e.1.2]? = some m ∧ Meth K (T.cls e.1.1) m (L.getD e.2 D0).1) P.meth :=
        ⟨⟨by decide, _, rfl, ⟨a6, i6, k6⟩⟩, trivial⟩
      exact fun c n f hc hl => q.look2 hl
    · exact ⟨PySem.W.mg_none_of X G z0, PySem.W.mg_none_of X G z1, PySem.W.mg_none_of X G z2, PySem.W.mg_none_of X G z3, PySem.W.mg_none_of X G z4, PySem.W.mg_none_of X G z5, PySem.W.mg_none_of X G z6, PySem.W.mg_none_of X G z7, PySem.W.mg_none_of X G z8, PySem.W.mg_none_of X G z9, PySem.W.mg_none_of X G z10, PySem.W.mg_none_of X G z11, PySem.W.mg_none_of X G z12, PySem.W.mg_none_of X G z13, trivial⟩
    · exact ⟨⟨_, _, PySem.W.mg_of X G w0, v0, fun _ _ => .str _ (by decide)⟩, trivial⟩
    · refine ⟨⟨PySem.W.mg_of X G aX0, ⟨_, _, _, _, PySem.F.excBase_ValueError, xi0⟩, xk0, xb0, xt0, ⟨fun c hc => ?_⟩⟩, ⟨PySem.W.mg_of X G aX1, ⟨_, _, _, _, PySem.F.excBase_ValueError, xi1⟩, xk1, xb1, xt1, ⟨fun c hc => ?_⟩⟩, ⟨PySem.W.mg_of X G aX3, ⟨_, _, _, _, PySem.F.excBase_ValueError, xi3⟩, xk3, xb3, xt3, ⟨fun c hc => ?_⟩⟩, trivial⟩
      · have hc : c = 0 ∨ c = 1 ∨ c = 3 := by simpa [P] using hc
        by_cases hc0 : c = 0
        · subst hc0; exact exm_sub xb0 xc0 xt0 xs0_0
        by_cases hc1 : c = 1
        · subst hc1; exact exm_sub xb0 xc0 xt0 xs1_0
        by_cases hc3 : c = 3
        · subst hc3; exact exm_sub xb0 xc0 xt0 xs3_0
        omega
      · have hc : c = 0 ∨ c = 1 ∨ c = 3 := by simpa [P] using hc
        by_cases hc0 : c = 0
        · subst hc0; exact exm_sub xb1 xc1 xt1 xs0_1
        by_cases hc1 : c = 1
        · subst hc1; exact exm_sub xb1 xc1 xt1 xs1_1
        by_cases hc3 : c = 3
        · subst hc3; exact exm_sub xb1 xc1 xt1 xs3_1
        omega
      · have hc : c = 0 ∨ c = 1 ∨ c = 3 := by simpa [P] using hc
        by_cases hc0 : c = 0
        · subst hc0; exact exm_sub xb3 xc3 xt3 xs0_3
        by_cases hc1 : c = 1
        · subst hc1; exact exm_sub xb3 xc3 xt3 xs1_3
        by_cases hc3 : c = 3
        · subst hc3; exact exm_sub xb3 xc3 xt3 xs3_3
        omega
  refine ⟨PySem.W.fnOf "law" "law" (defArgs (top 26)) (defBody (top 26)) (defScope (top 26)) .none kV19 dc19 pm19 an19 cd19 ct19, fun s v => .of_eq rfl, fun base _ _ => ?_⟩
  have ok := all_ok (prog := l.prog) (w := w) (base := base) GG n 19 r19 rfl
  exact FnOk.imp ok (law_sp hlaw)
end HW.K15
namespace HW.K15
open HW
theorem hw : HasW Q 0 1 2 3 4 5 6 7 8 9 := ⟨⟨rfl, rfl, rfl⟩, rfl, rfl, rfl, rfl, rfl, rfl, rfl, rfl, rfl⟩
section
variable {n : Nat} {S : Sto} {w b fd c : Int} {pg : Pg} {way : List Sp} (M : MchOk w b fd c) (G : PgOk w pg) (W : WayFrom 0 pg way)
include M G W
theorem costs_ok : run Q (n + 4) 18 [mch w b fd c, pgD pg, wayD way] S = .ok (.lst ((costs b fd c pg st0 way).map D.int)) S := by
  have hwl : way.length ≤ 36 := by have := way_len W; have := G.l; omega
  obtain ⟨w1, w2, b1, b2, f1, f2, c1, c2⟩ := id M
  refine run_gcl (P := Q) (f := 18) (G := [.lst ((costs b fd c pg st0 way).map D.int)]) (p := S.length) rfl rfl (flat_map (fun x => rfl) _) (Nat.le_refl _) (by simp) ?_
  (simp (disch := (first | assumption | (intro h; cases h; done) | omega | ((first | refine szk_le ?_ | refine szk_lt ?_ | skip) <;> (try simp only [List.length_map, List.length_append, List.length_cons, List.length_nil, List.length_reverse, List.length_zipIdx, List.length_range, List.length_singleton, List.length_dropLast, List.length_take, List.length_drop, rangeD_len, sums_len, costs_len]) <;> omega) | (refine Fl.mk ?_ ?_ <;> simp only [D.flat, D.flatL, flatL_iff, flatL_app, dep_tup, dep_lst, depL_cons, depL_nil, dep_int, dep_str, dep_bl, dep_non, depL_iff, depL_app, flat_ite, dep_ite, implies_true, and_true, true_and, Bool.and_true, Bool.true_and, Bool.and_eq_true, ite_self]) | (refine szk_le ?_; omega) | decide)) only [xs_cons, seq_next, seq_ret, seq_brk, seq_cont, seq_exc, seq_ite, ex_wipe, wipeE_nil, wipeE_cons, ite_ok, ite_int, ite_bl, ite_tup, ite_str, bindN, bind_exc, R.of_some, stmN, R.stm_exc, slot_0, slot_s, ev_var, ev_lit, ev_tup, ev_lst, ev_newL, ev_newD, mkD_nil, ev_bin, negR_int, ev_neg, ev_not, ev_and, ev_or, ev_ife, ev_cmp, ev_chn, ev_idx, ev_slc, ev_rev, ev_call, ev_blt, ev_mth, ev_fld, ev_inv, ev_mk, ev_comp, compR_nil, ev_tval, ev_tnot, ev_tand, ev_tor, ev_tife, ev_ts0, ev_ts1, ev_l0, ev_l1, ev_o0, ev_o1, optR_int, seqR_tup, seqR_lst, seqR_str, ev_seq, ev_rng1, ev_rng2, ev_enum, enumR_str, enumR_tup, enumR_lst, ev_zip, zipR_tup, zipR_lst, ev_newC, ex_nil, ex_expr, ex_asgN, ex_asgT, asgR_t, ex_sub, ex_fld, ex_ret, ex_retN, ex_ite, ex_for, ex_while, forT_n, forT_t, inE_N, inR_some, inO_some, setTgs_nil, setTgs_n, setTgs_t, forL_nil, ex_pass, ex_cont, ex_brk, ex_raise, tru_non, tru_bl, tru_int, tru_str, tru_tup, tru_lst, add_int, sub_int, mul_l, mul_r, mod_int, fdiv_int, add_tup, add_lst, add_str, idx_tup, idx_lst, idx_str, len_str, len_tup, len_lst, abs_int, max2_int, min2_int, min3_int, maxL_eq, minL_eq, sum_eq, all_eq, any_eq, int_int, int_bl, sorted_eq, tuple_lst, tuple_tup, list_lst, list_tup, kind_join, cmp_eq_int, cmp_ne_int, cmp_eq_str, cmp_ne_str, cmp_eq_bl, cmp_ne_bl, cmp_lt_int, cmp_le_int, cmp_gt_int, cmp_ge_int, cmp_in_tup, ne_self, eq_self, isT_tup, isI_int, isB_int, isB_bl, isS_str, slc_tup, slc_lst, slc_str, atI_0, atI_1, atI_2, atI_3, cut_2, cut_2n, cut_13, cut_3, ints_map, intsOf_nil, blsOf_nil, rng_le, rng2_le, Int.toNat_natCast, Int.toNat_natCast_add_one, Int.reduceToNat, endR_ret, endR_next, endR_exc, endR_ite, compT_n, compT_t, okAt_ok, val_ok, fm_some, fm_if, List.set_cons_succ, List.set_cons_zero, List.map_cons, List.map_nil, List.length_cons, List.length_nil, List.length_map, List.append_nil, List.nil_append, List.cons_append, Option.map_some, Option.bind_some, Bool.not_true, Bool.not_false, Bool.true_and, Bool.and_true, Bool.false_and, Bool.and_false, Bool.or_true, Bool.true_or, Bool.false_or, Bool.or_false, if_true, if_false, Bool.false_eq_true, decide_eq_true_eq, decide_true, decide_false, not_true_eq_false, not_false_eq_true, Bool.not_eq_true', decide_eq_false_iff_not, Bool.and_eq_true, Bool.or_eq_true, ne_eq, reduceCtorEq, implies_true, ite_tf, ite_ft, ite_bf, ite_tb, and_true, true_and, or_true, true_or, and_false, false_and, or_false, false_or, le_SZ, Nat.reduceSub, List.reduceReplicate])
  (rewrite [for_st (xs := way) (enc := Sp.d) (fun pre => [some (mch w b fd c), some (pgD pg), some (wayD way), some (.ref S.length), some (.int (sttEnd pg st0 pre).pl), some (.int (sttEnd pg st0 pre).rw), some (.str (sttEnd pg st0 pre).ft), none, none, none, none, none]) (fun pre => S ++ [.lst ((costs b fd c pg st0 pre).map D.int)]) ?xa1 ?xb1 ?xc1]; (case' xc1 => skip); (case xa1 => first | rfl | simp); (case xb1 => first | rfl | simp))
  · intro pre s post e
    have hs : s ∈ way := by rw [e]; simp
    have hlen : way.length = pre.length + (post.length + 1) := by rw [e]; simp
    have hg : (S ++ [Ob.lst ((costs b fd c pg st0 pre).map D.int)])[S.length]? = some (.lst ((costs b fd c pg st0 pre).map D.int)) := by simp
    have hk := (kind_l _ hg).1
    simp only [w18_b1]
    (simp (disch := (first | assumption | (intro h; cases h; done) | omega | ((first | refine szk_le ?_ | refine szk_lt ?_ | skip) <;> (try simp only [List.length_map, List.length_append, List.length_cons, List.length_nil, List.length_reverse, List.length_zipIdx, List.length_range, List.length_singleton, List.length_dropLast, List.length_take, List.length_drop, rangeD_len, sums_len, costs_len]) <;> omega) | (refine Fl.mk ?_ ?_ <;> simp only [D.flat, D.flatL, flatL_iff, flatL_app, dep_tup, dep_lst, depL_cons, depL_nil, dep_int, dep_str, dep_bl, dep_non, depL_iff, depL_app, flat_ite, dep_ite, implies_true, and_true, true_and, Bool.and_true, Bool.true_and, Bool.and_eq_true, ite_self]) | (refine szk_le ?_; omega) | decide)) only [xs_cons, seq_next, seq_ret, seq_brk, seq_cont, seq_exc, seq_ite, ex_wipe, wipeE_nil, wipeE_cons, ite_ok, ite_int, ite_bl, ite_tup, ite_str, bindN, bind_exc, R.of_some, stmN, R.stm_exc, slot_0, slot_s, ev_var, ev_lit, ev_tup, ev_lst, ev_newL, ev_newD, mkD_nil, ev_bin, negR_int, ev_neg, ev_not, ev_and, ev_or, ev_ife, ev_cmp, ev_chn, ev_idx, ev_slc, ev_rev, ev_call, ev_blt, ev_mth, ev_fld, ev_inv, ev_mk, ev_comp, compR_nil, ev_tval, ev_tnot, ev_tand, ev_tor, ev_tife, ev_ts0, ev_ts1, ev_l0, ev_l1, ev_o0, ev_o1, optR_int, seqR_tup, seqR_lst, seqR_str, ev_seq, ev_rng1, ev_rng2, ev_enum, enumR_str, enumR_tup, enumR_lst, ev_zip, zipR_tup, zipR_lst, ev_newC, ex_nil, ex_expr, ex_asgN, ex_asgT, asgR_t, ex_sub, ex_fld, ex_ret, ex_retN, ex_ite, ex_for, ex_while, forT_n, forT_t, inE_N, inR_some, inO_some, setTgs_nil, setTgs_n, setTgs_t, forL_nil, ex_pass, ex_cont, ex_brk, ex_raise, tru_non, tru_bl, tru_int, tru_str, tru_tup, tru_lst, add_int, sub_int, mul_l, mul_r, mod_int, fdiv_int, add_tup, add_lst, add_str, idx_tup, idx_lst, idx_str, len_str, len_tup, len_lst, abs_int, max2_int, min2_int, min3_int, maxL_eq, minL_eq, sum_eq, all_eq, any_eq, int_int, int_bl, sorted_eq, tuple_lst, tuple_tup, list_lst, list_tup, kind_join, cmp_eq_int, cmp_ne_int, cmp_eq_str, cmp_ne_str, cmp_eq_bl, cmp_ne_bl, cmp_lt_int, cmp_le_int, cmp_gt_int, cmp_ge_int, cmp_in_tup, ne_self, eq_self, isT_tup, isI_int, isB_int, isB_bl, isS_str, slc_tup, slc_lst, slc_str, atI_0, atI_1, atI_2, atI_3, cut_2, cut_2n, cut_13, cut_3, ints_map, intsOf_nil, blsOf_nil, rng_le, rng2_le, Int.toNat_natCast, Int.toNat_natCast_add_one, Int.reduceToNat, endR_ret, endR_next, endR_exc, endR_ite, compT_n, compT_t, okAt_ok, val_ok, fm_some, fm_if, List.set_cons_succ, List.set_cons_zero, List.map_cons, List.map_nil, List.length_cons, List.length_nil, List.length_map, List.append_nil, List.nil_append, List.cons_append, Option.map_some, Option.bind_some, Bool.not_true, Bool.not_false, Bool.true_and, Bool.and_true, Bool.false_and, Bool.and_false, Bool.or_true, Bool.true_or, Bool.false_or, Bool.or_false, if_true, if_false, Bool.false_eq_true, decide_eq_true_eq, decide_true, decide_false, not_true_eq_false, not_false_eq_true, Bool.not_eq_true', decide_eq_false_iff_not, Bool.and_eq_true, Bool.or_eq_true, ne_eq, reduceCtorEq, implies_true, ite_tf, ite_ft, ite_bf, ite_tb, and_true, true_and, or_true, true_or, and_false, false_and, or_false, false_or, le_SZ, Nat.reduceSub, List.reduceReplicate, ends_ok hw (n := n) G W hs, append_ok _ _ hg, hk])
    rw [app_set, costs_app, sttEnd_app]
    simp only [costs, sttEnd, stepC, abs_max, ab_sym (endsAt pg s).1 (endsAt pg s).2, List.map_append, List.map_cons, List.map_nil]
    simp [Int.add_assoc, Int.add_comm, Int.add_left_comm]
  (simp (disch := (first | assumption | (intro h; cases h; done) | omega | ((first | refine szk_le ?_ | refine szk_lt ?_ | skip) <;> (try simp only [List.length_map, List.length_append, List.length_cons, List.length_nil, List.length_reverse, List.length_zipIdx, List.length_range, List.length_singleton, List.length_dropLast, List.length_take, List.length_drop, rangeD_len, sums_len, costs_len]) <;> omega) | (refine Fl.mk ?_ ?_ <;> simp only [D.flat, D.flatL, flatL_iff, flatL_app, dep_tup, dep_lst, depL_cons, depL_nil, dep_int, dep_str, dep_bl, dep_non, depL_iff, depL_app, flat_ite, dep_ite, implies_true, and_true, true_and, Bool.and_true, Bool.true_and, Bool.and_eq_true, ite_self]) | (refine szk_le ?_; omega) | decide)) only [xs_cons, seq_next, seq_ret, seq_brk, seq_cont, seq_exc, seq_ite, ex_wipe, wipeE_nil, wipeE_cons, ite_ok, ite_int, ite_bl, ite_tup, ite_str, bindN, bind_exc, R.of_some, stmN, R.stm_exc, slot_0, slot_s, ev_var, ev_lit, ev_tup, ev_lst, ev_newL, ev_newD, mkD_nil, ev_bin, negR_int, ev_neg, ev_not, ev_and, ev_or, ev_ife, ev_cmp, ev_chn, ev_idx, ev_slc, ev_rev, ev_call, ev_blt, ev_mth, ev_fld, ev_inv, ev_mk, ev_comp, compR_nil, ev_tval, ev_tnot, ev_tand, ev_tor, ev_tife, ev_ts0, ev_ts1, ev_l0, ev_l1, ev_o0, ev_o1, optR_int, seqR_tup, seqR_lst, seqR_str, ev_seq, ev_rng1, ev_rng2, ev_enum, enumR_str, enumR_tup, enumR_lst, ev_zip, zipR_tup, zipR_lst, ev_newC, ex_nil, ex_expr, ex_asgN, ex_asgT, asgR_t, ex_sub, ex_fld, ex_ret, ex_retN, ex_ite, ex_for, ex_while, forT_n, forT_t, inE_N, inR_some, inO_some, setTgs_nil, setTgs_n, setTgs_t, forL_nil, ex_pass, ex_cont, ex_brk, ex_raise, tru_non, tru_bl, tru_int, tru_str, tru_tup, tru_lst, add_int, sub_int, mul_l, mul_r, mod_int, fdiv_int, add_tup, add_lst, add_str, idx_tup, idx_lst, idx_str, len_str, len_tup, len_lst, abs_int, max2_int, min2_int, min3_int, maxL_eq, minL_eq, sum_eq, all_eq, any_eq, int_int, int_bl, sorted_eq, tuple_lst, tuple_tup, list_lst, list_tup, kind_join, cmp_eq_int, cmp_ne_int, cmp_eq_str, cmp_ne_str, cmp_eq_bl, cmp_ne_bl, cmp_lt_int, cmp_le_int, cmp_gt_int, cmp_ge_int, cmp_in_tup, ne_self, eq_self, isT_tup, isI_int, isB_int, isB_bl, isS_str, slc_tup, slc_lst, slc_str, atI_0, atI_1, atI_2, atI_3, cut_2, cut_2n, cut_13, cut_3, ints_map, intsOf_nil, blsOf_nil, rng_le, rng2_le, Int.toNat_natCast, Int.toNat_natCast_add_one, Int.reduceToNat, endR_ret, endR_next, endR_exc, endR_ite, compT_n, compT_t, okAt_ok, val_ok, fm_some, fm_if, List.set_cons_succ, List.set_cons_zero, List.map_cons, List.map_nil, List.length_cons, List.length_nil, List.length_map, List.append_nil, List.nil_append, List.cons_append, Option.map_some, Option.bind_some, Bool.not_true, Bool.not_false, Bool.true_and, Bool.and_true, Bool.false_and, Bool.and_false, Bool.or_true, Bool.true_or, Bool.false_or, Bool.or_false, if_true, if_false, Bool.false_eq_true, decide_eq_true_eq, decide_true, decide_false, not_true_eq_false, not_false_eq_true, Bool.not_eq_true', decide_eq_false_iff_not, Bool.and_eq_true, Bool.or_eq_true, ne_eq, reduceCtorEq, implies_true, ite_tf, ite_ft, ite_bf, ite_tb, and_true, true_and, or_true, true_or, and_false, false_and, or_false, false_or, le_SZ, Nat.reduceSub, List.reduceReplicate])
end
section
variable {S : Sto} {w b fd c : Int} {pg : Pg} {way : List Sp} (G : PgOk w pg) (W : WayFrom 0 pg way)
include G W
theorem b2_ok {call : Call} (hE : ∀ (s : Sp) S, s ∈ way → call 4 [pgD pg, s.d] S = .ok (.tup [.int (endsAt pg s).1, .int (endsAt pg s).2]) S ∧ call 4 [pgD pg, .tup [.int s.row, .str s.fnt, .int s.trn, .bl !s.lft]] S = .ok (.tup [.int (endsAt pg s).2, .int (endsAt pg s).1]) S)
    (hP : ∀ (k : Nat) row S, pg[k]? = some row → call 2 [pgD pg, .int k] S = .ok (.tup ((passes row).map Ps.d)) S) {s : Sp} (hs : s ∈ way) {e0 e1 e2 e3 e5 : Option D} : forT Q call (.name 6) w19_b2 s.d [e0, e1, e2, e3, some (pgD pg), e5, none, none, none, none, none, none, none, none, none, none, none] S
    = .next [e0, e1, e2, e3, some (pgD pg), e5, none, none, none, none, none, none, none, none, none, none, none] S := by
  obtain ⟨row, p, h1, h2, h3, h4, h5, h6⟩ := way_ends W hs
  have bd := pass_bd (G.r row (List.mem_of_getElem? h1)) h2
  have hpl := passes_len row
  have hlf : (decide ((p.ends s.lft).2 < (p.ends s.lft).1)) = s.lft := by
    unfold Ps.ends
    cases s.lft <;> simp <;> omega
  obtain ⟨a1, a2⟩ := hE s S hs
  rw [h6] at a1 a2
  have hs2 : sortedD S (.tup [.int (p.ends s.lft).1, .int (p.ends s.lft).2]) = some (.lst [.int p.lo, .int (p.hi + 1)]) := by
    refine sorted_tint (xs := [(p.ends s.lft).1, (p.ends s.lft).2]) (ys := [p.lo, p.hi + 1]) S (by (first | assumption | (intro h; cases h; done) | omega | ((first | refine szk_le ?_ | refine szk_lt ?_ | skip) <;> (try simp only [List.length_map, List.length_append, List.length_cons, List.length_nil, List.length_reverse, List.length_zipIdx, List.length_range, List.length_singleton, List.length_dropLast, List.length_take, List.length_drop, rangeD_len, sums_len, costs_len]) <;> omega) | (refine Fl.mk ?_ ?_ <;> simp only [D.flat, D.flatL, flatL_iff, flatL_app, dep_tup, dep_lst, depL_cons, depL_nil, dep_int, dep_str, dep_bl, dep_non, depL_iff, depL_app, flat_ite, dep_ite, implies_true, and_true, true_and, Bool.and_true, Bool.true_and, Bool.and_eq_true, ite_self]) | (refine szk_le ?_; omega) | decide)) ?_ (by simp; omega)
    unfold Ps.ends
    cases s.lft
    · exact .refl _
    · exact List.Perm.swap _ _ _
  simp only [w19_b2]
  (simp (disch := (first | assumption | (intro h; cases h; done) | omega | ((first | refine szk_le ?_ | refine szk_lt ?_ | skip) <;> (try simp only [List.length_map, List.length_append, List.length_cons, List.length_nil, List.length_reverse, List.length_zipIdx, List.length_range, List.length_singleton, List.length_dropLast, List.length_take, List.length_drop, rangeD_len, sums_len, costs_len]) <;> omega) | (refine Fl.mk ?_ ?_ <;> simp only [D.flat, D.flatL, flatL_iff, flatL_app, dep_tup, dep_lst, depL_cons, depL_nil, dep_int, dep_str, dep_bl, dep_non, depL_iff, depL_app, flat_ite, dep_ite, implies_true, and_true, true_and, Bool.and_true, Bool.true_and, Bool.and_eq_true, ite_self]) | (refine szk_le ?_; omega) | decide)) only [xs_cons, seq_next, seq_ret, seq_brk, seq_cont, seq_exc, seq_ite, ex_wipe, wipeE_nil, wipeE_cons, ite_ok, ite_int, ite_bl, ite_tup, ite_str, bindN, bind_exc, R.of_some, stmN, R.stm_exc, slot_0, slot_s, ev_var, ev_lit, ev_tup, ev_lst, ev_newL, ev_newD, mkD_nil, ev_bin, negR_int, ev_neg, ev_not, ev_and, ev_or, ev_ife, ev_cmp, ev_chn, ev_idx, ev_slc, ev_rev, ev_call, ev_blt, ev_mth, ev_fld, ev_inv, ev_mk, ev_comp, compR_nil, ev_tval, ev_tnot, ev_tand, ev_tor, ev_tife, ev_ts0, ev_ts1, ev_l0, ev_l1, ev_o0, ev_o1, optR_int, seqR_tup, seqR_lst, seqR_str, ev_seq, ev_rng1, ev_rng2, ev_enum, enumR_str, enumR_tup, enumR_lst, ev_zip, zipR_tup, zipR_lst, ev_newC, ex_nil, ex_expr, ex_asgN, ex_asgT, asgR_t, ex_sub, ex_fld, ex_ret, ex_retN, ex_ite, ex_for, ex_while, forT_n, forT_t, inE_N, inR_some, inO_some, setTgs_nil, setTgs_n, setTgs_t, forL_nil, ex_pass, ex_cont, ex_brk, ex_raise, tru_non, tru_bl, tru_int, tru_str, tru_tup, tru_lst, add_int, sub_int, mul_l, mul_r, mod_int, fdiv_int, add_tup, add_lst, add_str, idx_tup, idx_lst, idx_str, len_str, len_tup, len_lst, abs_int, max2_int, min2_int, min3_int, maxL_eq, minL_eq, sum_eq, all_eq, any_eq, int_int, int_bl, sorted_eq, tuple_lst, tuple_tup, list_lst, list_tup, kind_join, cmp_eq_int, cmp_ne_int, cmp_eq_str, cmp_ne_str, cmp_eq_bl, cmp_ne_bl, cmp_lt_int, cmp_le_int, cmp_gt_int, cmp_ge_int, cmp_in_tup, ne_self, eq_self, isT_tup, isI_int, isB_int, isB_bl, isS_str, slc_tup, slc_lst, slc_str, atI_0, atI_1, atI_2, atI_3, cut_2, cut_2n, cut_13, cut_3, ints_map, intsOf_nil, blsOf_nil, rng_le, rng2_le, Int.toNat_natCast, Int.toNat_natCast_add_one, Int.reduceToNat, endR_ret, endR_next, endR_exc, endR_ite, compT_n, compT_t, okAt_ok, val_ok, fm_some, fm_if, List.set_cons_succ, List.set_cons_zero, List.map_cons, List.map_nil, List.length_cons, List.length_nil, List.length_map, List.append_nil, List.nil_append, List.cons_append, Option.map_some, Option.bind_some, Bool.not_true, Bool.not_false, Bool.true_and, Bool.and_true, Bool.false_and, Bool.and_false, Bool.or_true, Bool.true_or, Bool.false_or, Bool.or_false, if_true, if_false, Bool.false_eq_true, decide_eq_true_eq, decide_true, decide_false, not_true_eq_false, not_false_eq_true, Bool.not_eq_true', decide_eq_false_iff_not, Bool.and_eq_true, Bool.or_eq_true, ne_eq, reduceCtorEq, implies_true, ite_tf, ite_ft, ite_bf, ite_tb, and_true, true_and, or_true, true_or, and_false, false_and, or_false, false_or, le_SZ, Nat.reduceSub, List.reduceReplicate, a1, a2, hlf, hP s.row row _ h1])
  (rewrite [comp_filt (xs := (passes row)) (enc := Ps.d) (fun q => decide (q.fnt = p.fnt) && decide (q.trn = p.trn)) (fun q => .tup [.int q.lo, .int q.hi]) ?xc2 ?xb2 ?xa2]; (case xa2 => (first | assumption | (intro h; cases h; done) | omega | ((first | refine szk_le ?_ | refine szk_lt ?_ | skip) <;> (try simp only [List.length_map, List.length_append, List.length_cons, List.length_nil, List.length_reverse, List.length_zipIdx, List.length_range, List.length_singleton, List.length_dropLast, List.length_take, List.length_drop, rangeD_len, sums_len, costs_len]) <;> omega) | (refine Fl.mk ?_ ?_ <;> simp only [D.flat, D.flatL, flatL_iff, flatL_app, dep_tup, dep_lst, depL_cons, depL_nil, dep_int, dep_str, dep_bl, dep_non, depL_iff, depL_app, flat_ite, dep_ite, implies_true, and_true, true_and, Bool.and_true, Bool.true_and, Bool.and_eq_true, ite_self]) | (refine szk_le ?_; omega) | decide)); (case xb2 => rfl); (case' xc2 => skip))
  · intro q _
    (simp (disch := (first | assumption | (intro h; cases h; done) | omega | ((first | refine szk_le ?_ | refine szk_lt ?_ | skip) <;> (try simp only [List.length_map, List.length_append, List.length_cons, List.length_nil, List.length_reverse, List.length_zipIdx, List.length_range, List.length_singleton, List.length_dropLast, List.length_take, List.length_drop, rangeD_len, sums_len, costs_len]) <;> omega) | (refine Fl.mk ?_ ?_ <;> simp only [D.flat, D.flatL, flatL_iff, flatL_app, dep_tup, dep_lst, depL_cons, depL_nil, dep_int, dep_str, dep_bl, dep_non, depL_iff, depL_app, flat_ite, dep_ite, implies_true, and_true, true_and, Bool.and_true, Bool.true_and, Bool.and_eq_true, ite_self]) | (refine szk_le ?_; omega) | decide)) only [xs_cons, seq_next, seq_ret, seq_brk, seq_cont, seq_exc, seq_ite, ex_wipe, wipeE_nil, wipeE_cons, ite_ok, ite_int, ite_bl, ite_tup, ite_str, bindN, bind_exc, R.of_some, stmN, R.stm_exc, slot_0, slot_s, ev_var, ev_lit, ev_tup, ev_lst, ev_newL, ev_newD, mkD_nil, ev_bin, negR_int, ev_neg, ev_not, ev_and, ev_or, ev_ife, ev_cmp, ev_chn, ev_idx, ev_slc, ev_rev, ev_call, ev_blt, ev_mth, ev_fld, ev_inv, ev_mk, ev_comp, compR_nil, ev_tval, ev_tnot, ev_tand, ev_tor, ev_tife, ev_ts0, ev_ts1, ev_l0, ev_l1, ev_o0, ev_o1, optR_int, seqR_tup, seqR_lst, seqR_str, ev_seq, ev_rng1, ev_rng2, ev_enum, enumR_str, enumR_tup, enumR_lst, ev_zip, zipR_tup, zipR_lst, ev_newC, ex_nil, ex_expr, ex_asgN, ex_asgT, asgR_t, ex_sub, ex_fld, ex_ret, ex_retN, ex_ite, ex_for, ex_while, forT_n, forT_t, inE_N, inR_some, inO_some, setTgs_nil, setTgs_n, setTgs_t, forL_nil, ex_pass, ex_cont, ex_brk, ex_raise, tru_non, tru_bl, tru_int, tru_str, tru_tup, tru_lst, add_int, sub_int, mul_l, mul_r, mod_int, fdiv_int, add_tup, add_lst, add_str, idx_tup, idx_lst, idx_str, len_str, len_tup, len_lst, abs_int, max2_int, min2_int, min3_int, maxL_eq, minL_eq, sum_eq, all_eq, any_eq, int_int, int_bl, sorted_eq, tuple_lst, tuple_tup, list_lst, list_tup, kind_join, cmp_eq_int, cmp_ne_int, cmp_eq_str, cmp_ne_str, cmp_eq_bl, cmp_ne_bl, cmp_lt_int, cmp_le_int, cmp_gt_int, cmp_ge_int, cmp_in_tup, ne_self, eq_self, isT_tup, isI_int, isB_int, isB_bl, isS_str, slc_tup, slc_lst, slc_str, atI_0, atI_1, atI_2, atI_3, cut_2, cut_2n, cut_13, cut_3, ints_map, intsOf_nil, blsOf_nil, rng_le, rng2_le, Int.toNat_natCast, Int.toNat_natCast_add_one, Int.reduceToNat, endR_ret, endR_next, endR_exc, endR_ite, compT_n, compT_t, okAt_ok, val_ok, fm_some, fm_if, List.set_cons_succ, List.set_cons_zero, List.map_cons, List.map_nil, List.length_cons, List.length_nil, List.length_map, List.append_nil, List.nil_append, List.cons_append, Option.map_some, Option.bind_some, Bool.not_true, Bool.not_false, Bool.true_and, Bool.and_true, Bool.false_and, Bool.and_false, Bool.or_true, Bool.true_or, Bool.false_or, Bool.or_false, if_true, if_false, Bool.false_eq_true, decide_eq_true_eq, decide_true, decide_false, not_true_eq_false, not_false_eq_true, Bool.not_eq_true', decide_eq_false_iff_not, Bool.and_eq_true, Bool.or_eq_true, ne_eq, reduceCtorEq, implies_true, ite_tf, ite_ft, ite_bf, ite_tb, and_true, true_and, or_true, true_or, and_false, false_and, or_false, false_or, le_SZ, Nat.reduceSub, List.reduceReplicate, cmp_eq_si, h3, h4])
  rw [filter_pass h2]
  (simp (disch := (first | assumption | (intro h; cases h; done) | omega | ((first | refine szk_le ?_ | refine szk_lt ?_ | skip) <;> (try simp only [List.length_map, List.length_append, List.length_cons, List.length_nil, List.length_reverse, List.length_zipIdx, List.length_range, List.length_singleton, List.length_dropLast, List.length_take, List.length_drop, rangeD_len, sums_len, costs_len]) <;> omega) | (refine Fl.mk ?_ ?_ <;> simp only [D.flat, D.flatL, flatL_iff, flatL_app, dep_tup, dep_lst, depL_cons, depL_nil, dep_int, dep_str, dep_bl, dep_non, depL_iff, depL_app, flat_ite, dep_ite, implies_true, and_true, true_and, Bool.and_true, Bool.true_and, Bool.and_eq_true, ite_self]) | (refine szk_le ?_; omega) | decide)) only [xs_cons, seq_next, seq_ret, seq_brk, seq_cont, seq_exc, seq_ite, ex_wipe, wipeE_nil, wipeE_cons, ite_ok, ite_int, ite_bl, ite_tup, ite_str, bindN, bind_exc, R.of_some, stmN, R.stm_exc, slot_0, slot_s, ev_var, ev_lit, ev_tup, ev_lst, ev_newL, ev_newD, mkD_nil, ev_bin, negR_int, ev_neg, ev_not, ev_and, ev_or, ev_ife, ev_cmp, ev_chn, ev_idx, ev_slc, ev_rev, ev_call, ev_blt, ev_mth, ev_fld, ev_inv, ev_mk, ev_comp, compR_nil, ev_tval, ev_tnot, ev_tand, ev_tor, ev_tife, ev_ts0, ev_ts1, ev_l0, ev_l1, ev_o0, ev_o1, optR_int, seqR_tup, seqR_lst, seqR_str, ev_seq, ev_rng1, ev_rng2, ev_enum, enumR_str, enumR_tup, enumR_lst, ev_zip, zipR_tup, zipR_lst, ev_newC, ex_nil, ex_expr, ex_asgN, ex_asgT, asgR_t, ex_sub, ex_fld, ex_ret, ex_retN, ex_ite, ex_for, ex_while, forT_n, forT_t, inE_N, inR_some, inO_some, setTgs_nil, setTgs_n, setTgs_t, forL_nil, ex_pass, ex_cont, ex_brk, ex_raise, tru_non, tru_bl, tru_int, tru_str, tru_tup, tru_lst, add_int, sub_int, mul_l, mul_r, mod_int, fdiv_int, add_tup, add_lst, add_str, idx_tup, idx_lst, idx_str, len_str, len_tup, len_lst, abs_int, max2_int, min2_int, min3_int, maxL_eq, minL_eq, sum_eq, all_eq, any_eq, int_int, int_bl, sorted_eq, tuple_lst, tuple_tup, list_lst, list_tup, kind_join, cmp_eq_int, cmp_ne_int, cmp_eq_str, cmp_ne_str, cmp_eq_bl, cmp_ne_bl, cmp_lt_int, cmp_le_int, cmp_gt_int, cmp_ge_int, cmp_in_tup, ne_self, eq_self, isT_tup, isI_int, isB_int, isB_bl, isS_str, slc_tup, slc_lst, slc_str, atI_0, atI_1, atI_2, atI_3, cut_2, cut_2n, cut_13, cut_3, ints_map, intsOf_nil, blsOf_nil, rng_le, rng2_le, Int.toNat_natCast, Int.toNat_natCast_add_one, Int.reduceToNat, endR_ret, endR_next, endR_exc, endR_ite, compT_n, compT_t, okAt_ok, val_ok, fm_some, fm_if, List.set_cons_succ, List.set_cons_zero, List.map_cons, List.map_nil, List.length_cons, List.length_nil, List.length_map, List.append_nil, List.nil_append, List.cons_append, Option.map_some, Option.bind_some, Bool.not_true, Bool.not_false, Bool.true_and, Bool.and_true, Bool.false_and, Bool.and_false, Bool.or_true, Bool.true_or, Bool.false_or, Bool.or_false, if_true, if_false, Bool.false_eq_true, decide_eq_true_eq, decide_true, decide_false, not_true_eq_false, not_false_eq_true, Bool.not_eq_true', decide_eq_false_iff_not, Bool.and_eq_true, Bool.or_eq_true, ne_eq, reduceCtorEq, implies_true, ite_tf, ite_ft, ite_bf, ite_tb, and_true, true_and, or_true, true_or, and_false, false_and, or_false, false_or, le_SZ, Nat.reduceSub, List.reduceReplicate, hs2])
end
section
variable {w b fd c : Int} {pg : Pg} {way : List Sp} (M : MchOk w b fd c) (G : PgOk w pg) (W : WayFrom 0 pg way)
include M G W
theorem b1_ok {call : Call} {sc : D} {S1 S2 S3 S4 : Sto} {i : Nat} (h1 : call 12 [sc, .ref 0] S1 = .ok (mch w b fd c) S2) (h2 : call 13 [sc, .ref 0, .int w, .int 6] S2 = .ok (pgD pg) S3) (h3 : call 17 [sc, .ref 0, pgD pg] S3 = .ok (wayD way) S4)
    (hE : ∀ (s : Sp) S, s ∈ way → call 4 [pgD pg, s.d] S = .ok (.tup [.int (endsAt pg s).1, .int (endsAt pg s).2]) S ∧ call 4 [pgD pg, .tup [.int s.row, .str s.fnt, .int s.trn, .bl !s.lft]] S = .ok (.tup [.int (endsAt pg s).2, .int (endsAt pg s).1]) S)
    (hP : ∀ (k : Nat) row S, pg[k]? = some row → call 2 [pgD pg, .int k] S = .ok (.tup ((passes row).map Ps.d)) S)
    (hTs : ∀ pg way S, PgOk w pg → WayFrom 0 pg way → call 8 [mch w b fd c, pgD pg, wayD way] S = .ok (.tup ((sums 0 (costs b fd c pg st0 way)).map D.int)) S)
    (hT : ∀ pg way S, PgOk w pg → WayFrom 0 pg way → call 9 [mch w b fd c, pgD pg, wayD way] S = .ok (.int (costs b fd c pg st0 way).sum) S)
    (hC : ∀ S, call 18 [mch w b fd c, pgD pg, wayD way] S = .ok (.lst ((costs b fd c pg st0 way).map D.int)) S) :
    forT Q call (.name 2) w19_b1 (.int i) [some sc, some (.ref 0), none, none, none, none, none, none, none, none, none, none, none, none, none, none, none] S1
      = .next [some sc, some (.ref 0), none, none, none, none, none, none, none, none, none, none, none, none, none, none, none] S4 := by
  have hwl : way.length ≤ 36 := by have := way_len W; have := G.l; omega
  have hpl := G.l
  have t0 := hT [] [] S4 ⟨by simp, by simp⟩ .nil
  simp only [w19_b1]
  (simp (disch := (first | assumption | (intro h; cases h; done) | omega | ((first | refine szk_le ?_ | refine szk_lt ?_ | skip) <;> (try simp only [List.length_map, List.length_append, List.length_cons, List.length_nil, List.length_reverse, List.length_zipIdx, List.length_range, List.length_singleton, List.length_dropLast, List.length_take, List.length_drop, rangeD_len, sums_len, costs_len]) <;> omega) | (refine Fl.mk ?_ ?_ <;> simp only [D.flat, D.flatL, flatL_iff, flatL_app, dep_tup, dep_lst, depL_cons, depL_nil, dep_int, dep_str, dep_bl, dep_non, depL_iff, depL_app, flat_ite, dep_ite, implies_true, and_true, true_and, Bool.and_true, Bool.true_and, Bool.and_eq_true, ite_self]) | (refine szk_le ?_; omega) | decide)) only [xs_cons, seq_next, seq_ret, seq_brk, seq_cont, seq_exc, seq_ite, ex_wipe, wipeE_nil, wipeE_cons, ite_ok, ite_int, ite_bl, ite_tup, ite_str, bindN, bind_exc, R.of_some, stmN, R.stm_exc, slot_0, slot_s, ev_var, ev_lit, ev_tup, ev_lst, ev_newL, ev_newD, mkD_nil, ev_bin, negR_int, ev_neg, ev_not, ev_and, ev_or, ev_ife, ev_cmp, ev_chn, ev_idx, ev_slc, ev_rev, ev_call, ev_blt, ev_mth, ev_fld, ev_inv, ev_mk, ev_comp, compR_nil, ev_tval, ev_tnot, ev_tand, ev_tor, ev_tife, ev_ts0, ev_ts1, ev_l0, ev_l1, ev_o0, ev_o1, optR_int, seqR_tup, seqR_lst, seqR_str, ev_seq, ev_rng1, ev_rng2, ev_enum, enumR_str, enumR_tup, enumR_lst, ev_zip, zipR_tup, zipR_lst, ev_newC, ex_nil, ex_expr, ex_asgN, ex_asgT, asgR_t, ex_sub, ex_fld, ex_ret, ex_retN, ex_ite, ex_for, ex_while, forT_n, forT_t, inE_N, inR_some, inO_some, setTgs_nil, setTgs_n, setTgs_t, forL_nil, ex_pass, ex_cont, ex_brk, ex_raise, tru_non, tru_bl, tru_int, tru_str, tru_tup, tru_lst, add_int, sub_int, mul_l, mul_r, mod_int, fdiv_int, add_tup, add_lst, add_str, idx_tup, idx_lst, idx_str, len_str, len_tup, len_lst, abs_int, max2_int, min2_int, min3_int, maxL_eq, minL_eq, sum_eq, all_eq, any_eq, int_int, int_bl, sorted_eq, tuple_lst, tuple_tup, list_lst, list_tup, kind_join, cmp_eq_int, cmp_ne_int, cmp_eq_str, cmp_ne_str, cmp_eq_bl, cmp_ne_bl, cmp_lt_int, cmp_le_int, cmp_gt_int, cmp_ge_int, cmp_in_tup, ne_self, eq_self, isT_tup, isI_int, isB_int, isB_bl, isS_str, slc_tup, slc_lst, slc_str, atI_0, atI_1, atI_2, atI_3, cut_2, cut_2n, cut_13, cut_3, ints_map, intsOf_nil, blsOf_nil, rng_le, rng2_le, Int.toNat_natCast, Int.toNat_natCast_add_one, Int.reduceToNat, endR_ret, endR_next, endR_exc, endR_ite, compT_n, compT_t, okAt_ok, val_ok, fm_some, fm_if, List.set_cons_succ, List.set_cons_zero, List.map_cons, List.map_nil, List.length_cons, List.length_nil, List.length_map, List.append_nil, List.nil_append, List.cons_append, Option.map_some, Option.bind_some, Bool.not_true, Bool.not_false, Bool.true_and, Bool.and_true, Bool.false_and, Bool.and_false, Bool.or_true, Bool.true_or, Bool.false_or, Bool.or_false, if_true, if_false, Bool.false_eq_true, decide_eq_true_eq, decide_true, decide_false, not_true_eq_false, not_false_eq_true, Bool.not_eq_true', decide_eq_false_iff_not, Bool.and_eq_true, Bool.or_eq_true, ne_eq, reduceCtorEq, implies_true, ite_tf, ite_ft, ite_bf, ite_tb, and_true, true_and, or_true, true_or, and_false, false_and, or_false, false_or, le_SZ, Nat.reduceSub, List.reduceReplicate, h1, h2, h3])
  (rewrite [for_look (xs := way) (enc := Sp.d) ?xc3]; (case' xc3 => skip))
  · intro s hs
    exact b2_ok G W hE hP hs
  (simp (disch := (first | assumption | (intro h; cases h; done) | omega | ((first | refine szk_le ?_ | refine szk_lt ?_ | skip) <;> (try simp only [List.length_map, List.length_append, List.length_cons, List.length_nil, List.length_reverse, List.length_zipIdx, List.length_range, List.length_singleton, List.length_dropLast, List.length_take, List.length_drop, rangeD_len, sums_len, costs_len]) <;> omega) | (refine Fl.mk ?_ ?_ <;> simp only [D.flat, D.flatL, flatL_iff, flatL_app, dep_tup, dep_lst, depL_cons, depL_nil, dep_int, dep_str, dep_bl, dep_non, depL_iff, depL_app, flat_ite, dep_ite, implies_true, and_true, true_and, Bool.and_true, Bool.true_and, Bool.and_eq_true, ite_self]) | (refine szk_le ?_; omega) | decide)) only [xs_cons, seq_next, seq_ret, seq_brk, seq_cont, seq_exc, seq_ite, ex_wipe, wipeE_nil, wipeE_cons, ite_ok, ite_int, ite_bl, ite_tup, ite_str, bindN, bind_exc, R.of_some, stmN, R.stm_exc, slot_0, slot_s, ev_var, ev_lit, ev_tup, ev_lst, ev_newL, ev_newD, mkD_nil, ev_bin, negR_int, ev_neg, ev_not, ev_and, ev_or, ev_ife, ev_cmp, ev_chn, ev_idx, ev_slc, ev_rev, ev_call, ev_blt, ev_mth, ev_fld, ev_inv, ev_mk, ev_comp, compR_nil, ev_tval, ev_tnot, ev_tand, ev_tor, ev_tife, ev_ts0, ev_ts1, ev_l0, ev_l1, ev_o0, ev_o1, optR_int, seqR_tup, seqR_lst, seqR_str, ev_seq, ev_rng1, ev_rng2, ev_enum, enumR_str, enumR_tup, enumR_lst, ev_zip, zipR_tup, zipR_lst, ev_newC, ex_nil, ex_expr, ex_asgN, ex_asgT, asgR_t, ex_sub, ex_fld, ex_ret, ex_retN, ex_ite, ex_for, ex_while, forT_n, forT_t, inE_N, inR_some, inO_some, setTgs_nil, setTgs_n, setTgs_t, forL_nil, ex_pass, ex_cont, ex_brk, ex_raise, tru_non, tru_bl, tru_int, tru_str, tru_tup, tru_lst, add_int, sub_int, mul_l, mul_r, mod_int, fdiv_int, add_tup, add_lst, add_str, idx_tup, idx_lst, idx_str, len_str, len_tup, len_lst, abs_int, max2_int, min2_int, min3_int, maxL_eq, minL_eq, sum_eq, all_eq, any_eq, int_int, int_bl, sorted_eq, tuple_lst, tuple_tup, list_lst, list_tup, kind_join, cmp_eq_int, cmp_ne_int, cmp_eq_str, cmp_ne_str, cmp_eq_bl, cmp_ne_bl, cmp_lt_int, cmp_le_int, cmp_gt_int, cmp_ge_int, cmp_in_tup, ne_self, eq_self, isT_tup, isI_int, isB_int, isB_bl, isS_str, slc_tup, slc_lst, slc_str, atI_0, atI_1, atI_2, atI_3, cut_2, cut_2n, cut_13, cut_3, ints_map, intsOf_nil, blsOf_nil, rng_le, rng2_le, Int.toNat_natCast, Int.toNat_natCast_add_one, Int.reduceToNat, endR_ret, endR_next, endR_exc, endR_ite, compT_n, compT_t, okAt_ok, val_ok, fm_some, fm_if, List.set_cons_succ, List.set_cons_zero, List.map_cons, List.map_nil, List.length_cons, List.length_nil, List.length_map, List.append_nil, List.nil_append, List.cons_append, Option.map_some, Option.bind_some, Bool.not_true, Bool.not_false, Bool.true_and, Bool.and_true, Bool.false_and, Bool.and_false, Bool.or_true, Bool.true_or, Bool.false_or, Bool.or_false, if_true, if_false, Bool.false_eq_true, decide_eq_true_eq, decide_true, decide_false, not_true_eq_false, not_false_eq_true, Bool.not_eq_true', decide_eq_false_iff_not, Bool.and_eq_true, Bool.or_eq_true, ne_eq, reduceCtorEq, implies_true, ite_tf, ite_ft, ite_bf, ite_tb, and_true, true_and, or_true, true_or, and_false, false_and, or_false, false_or, le_SZ, Nat.reduceSub, List.reduceReplicate, hTs pg way _ G W, hT pg way _ G W, hC, sums_len, costs_len])
  have hz : cut ((sums 0 (costs b fd c pg st0 way)).map D.int) none (some (-1)) = (sums 0 (costs b fd c pg st0 way)).dropLast.map D.int := by rw [cut_m1, List.map_dropLast]
  have hsl : (sums 0 (costs b fd c pg st0 way)).length ≤ 36 := by rw [sums_len, costs_len]; exact hwl
  have hzz : zipD (D.int 0 :: (sums 0 (costs b fd c pg st0 way)).dropLast.map D.int) ((sums 0 (costs b fd c pg st0 way)).map D.int) = ((0 :: (sums 0 (costs b fd c pg st0 way)).dropLast).zip (sums 0 (costs b fd c pg st0 way))).map fun p => .tup [.int p.1, .int p.2] := by
    rw [← List.map_cons (f := D.int), zip_map]
  have hzl : ((0 :: (sums 0 (costs b fd c pg st0 way)).dropLast).zip (sums 0 (costs b fd c pg st0 way))).length ≤ 36 := by rw [List.length_zip]; omega
  (simp (disch := (first | assumption | (intro h; cases h; done) | omega | ((first | refine szk_le ?_ | refine szk_lt ?_ | skip) <;> (try simp only [List.length_map, List.length_append, List.length_cons, List.length_nil, List.length_reverse, List.length_zipIdx, List.length_range, List.length_singleton, List.length_dropLast, List.length_take, List.length_drop, rangeD_len, sums_len, costs_len]) <;> omega) | (refine Fl.mk ?_ ?_ <;> simp only [D.flat, D.flatL, flatL_iff, flatL_app, dep_tup, dep_lst, depL_cons, depL_nil, dep_int, dep_str, dep_bl, dep_non, depL_iff, depL_app, flat_ite, dep_ite, implies_true, and_true, true_and, Bool.and_true, Bool.true_and, Bool.and_eq_true, ite_self]) | (refine szk_le ?_; omega) | decide)) only [xs_cons, seq_next, seq_ret, seq_brk, seq_cont, seq_exc, seq_ite, ex_wipe, wipeE_nil, wipeE_cons, ite_ok, ite_int, ite_bl, ite_tup, ite_str, bindN, bind_exc, R.of_some, stmN, R.stm_exc, slot_0, slot_s, ev_var, ev_lit, ev_tup, ev_lst, ev_newL, ev_newD, mkD_nil, ev_bin, negR_int, ev_neg, ev_not, ev_and, ev_or, ev_ife, ev_cmp, ev_chn, ev_idx, ev_slc, ev_rev, ev_call, ev_blt, ev_mth, ev_fld, ev_inv, ev_mk, ev_comp, compR_nil, ev_tval, ev_tnot, ev_tand, ev_tor, ev_tife, ev_ts0, ev_ts1, ev_l0, ev_l1, ev_o0, ev_o1, optR_int, seqR_tup, seqR_lst, seqR_str, ev_seq, ev_rng1, ev_rng2, ev_enum, enumR_str, enumR_tup, enumR_lst, ev_zip, zipR_tup, zipR_lst, ev_newC, ex_nil, ex_expr, ex_asgN, ex_asgT, asgR_t, ex_sub, ex_fld, ex_ret, ex_retN, ex_ite, ex_for, ex_while, forT_n, forT_t, inE_N, inR_some, inO_some, setTgs_nil, setTgs_n, setTgs_t, forL_nil, ex_pass, ex_cont, ex_brk, ex_raise, tru_non, tru_bl, tru_int, tru_str, tru_tup, tru_lst, add_int, sub_int, mul_l, mul_r, mod_int, fdiv_int, add_tup, add_lst, add_str, idx_tup, idx_lst, idx_str, len_str, len_tup, len_lst, abs_int, max2_int, min2_int, min3_int, maxL_eq, minL_eq, sum_eq, all_eq, any_eq, int_int, int_bl, sorted_eq, tuple_lst, tuple_tup, list_lst, list_tup, kind_join, cmp_eq_int, cmp_ne_int, cmp_eq_str, cmp_ne_str, cmp_eq_bl, cmp_ne_bl, cmp_lt_int, cmp_le_int, cmp_gt_int, cmp_ge_int, cmp_in_tup, ne_self, eq_self, isT_tup, isI_int, isB_int, isB_bl, isS_str, slc_tup, slc_lst, slc_str, atI_0, atI_1, atI_2, atI_3, cut_2, cut_2n, cut_13, cut_3, ints_map, intsOf_nil, blsOf_nil, rng_le, rng2_le, Int.toNat_natCast, Int.toNat_natCast_add_one, Int.reduceToNat, endR_ret, endR_next, endR_exc, endR_ite, compT_n, compT_t, okAt_ok, val_ok, fm_some, fm_if, List.set_cons_succ, List.set_cons_zero, List.map_cons, List.map_nil, List.length_cons, List.length_nil, List.length_map, List.append_nil, List.nil_append, List.cons_append, Option.map_some, Option.bind_some, Bool.not_true, Bool.not_false, Bool.true_and, Bool.and_true, Bool.false_and, Bool.and_false, Bool.or_true, Bool.true_or, Bool.false_or, Bool.or_false, if_true, if_false, Bool.false_eq_true, decide_eq_true_eq, decide_true, decide_false, not_true_eq_false, not_false_eq_true, Bool.not_eq_true', decide_eq_false_iff_not, Bool.and_eq_true, Bool.or_eq_true, ne_eq, reduceCtorEq, implies_true, ite_tf, ite_ft, ite_bf, ite_tb, and_true, true_and, or_true, true_or, and_false, false_and, or_false, false_or, le_SZ, Nat.reduceSub, List.reduceReplicate, hz, hzz])
  (rewrite [comp_map (xs := ((0 :: (sums 0 (costs b fd c pg st0 way)).dropLast).zip (sums 0 (costs b fd c pg st0 way)))) (enc := (fun p => .tup [.int p.1, .int p.2])) (fun p => D.int (p.2 - p.1)) ?xc4 ?xb4 ?xa4]; (case xa4 => (first | assumption | (intro h; cases h; done) | omega | ((first | refine szk_le ?_ | refine szk_lt ?_ | skip) <;> (try simp only [List.length_map, List.length_append, List.length_cons, List.length_nil, List.length_reverse, List.length_zipIdx, List.length_range, List.length_singleton, List.length_dropLast, List.length_take, List.length_drop, rangeD_len, sums_len, costs_len]) <;> omega) | (refine Fl.mk ?_ ?_ <;> simp only [D.flat, D.flatL, flatL_iff, flatL_app, dep_tup, dep_lst, depL_cons, depL_nil, dep_int, dep_str, dep_bl, dep_non, depL_iff, depL_app, flat_ite, dep_ite, implies_true, and_true, true_and, Bool.and_true, Bool.true_and, Bool.and_eq_true, ite_self]) | (refine szk_le ?_; omega) | decide)); (case xb4 => rfl); (case' xc4 => skip))
  · intro p _
    (simp (disch := (first | assumption | (intro h; cases h; done) | omega | ((first | refine szk_le ?_ | refine szk_lt ?_ | skip) <;> (try simp only [List.length_map, List.length_append, List.length_cons, List.length_nil, List.length_reverse, List.length_zipIdx, List.length_range, List.length_singleton, List.length_dropLast, List.length_take, List.length_drop, rangeD_len, sums_len, costs_len]) <;> omega) | (refine Fl.mk ?_ ?_ <;> simp only [D.flat, D.flatL, flatL_iff, flatL_app, dep_tup, dep_lst, depL_cons, depL_nil, dep_int, dep_str, dep_bl, dep_non, depL_iff, depL_app, flat_ite, dep_ite, implies_true, and_true, true_and, Bool.and_true, Bool.true_and, Bool.and_eq_true, ite_self]) | (refine szk_le ?_; omega) | decide)) only [xs_cons, seq_next, seq_ret, seq_brk, seq_cont, seq_exc, seq_ite, ex_wipe, wipeE_nil, wipeE_cons, ite_ok, ite_int, ite_bl, ite_tup, ite_str, bindN, bind_exc, R.of_some, stmN, R.stm_exc, slot_0, slot_s, ev_var, ev_lit, ev_tup, ev_lst, ev_newL, ev_newD, mkD_nil, ev_bin, negR_int, ev_neg, ev_not, ev_and, ev_or, ev_ife, ev_cmp, ev_chn, ev_idx, ev_slc, ev_rev, ev_call, ev_blt, ev_mth, ev_fld, ev_inv, ev_mk, ev_comp, compR_nil, ev_tval, ev_tnot, ev_tand, ev_tor, ev_tife, ev_ts0, ev_ts1, ev_l0, ev_l1, ev_o0, ev_o1, optR_int, seqR_tup, seqR_lst, seqR_str, ev_seq, ev_rng1, ev_rng2, ev_enum, enumR_str, enumR_tup, enumR_lst, ev_zip, zipR_tup, zipR_lst, ev_newC, ex_nil, ex_expr, ex_asgN, ex_asgT, asgR_t, ex_sub, ex_fld, ex_ret, ex_retN, ex_ite, ex_for, ex_while, forT_n, forT_t, inE_N, inR_some, inO_some, setTgs_nil, setTgs_n, setTgs_t, forL_nil, ex_pass, ex_cont, ex_brk, ex_raise, tru_non, tru_bl, tru_int, tru_str, tru_tup, tru_lst, add_int, sub_int, mul_l, mul_r, mod_int, fdiv_int, add_tup, add_lst, add_str, idx_tup, idx_lst, idx_str, len_str, len_tup, len_lst, abs_int, max2_int, min2_int, min3_int, maxL_eq, minL_eq, sum_eq, all_eq, any_eq, int_int, int_bl, sorted_eq, tuple_lst, tuple_tup, list_lst, list_tup, kind_join, cmp_eq_int, cmp_ne_int, cmp_eq_str, cmp_ne_str, cmp_eq_bl, cmp_ne_bl, cmp_lt_int, cmp_le_int, cmp_gt_int, cmp_ge_int, cmp_in_tup, ne_self, eq_self, isT_tup, isI_int, isB_int, isB_bl, isS_str, slc_tup, slc_lst, slc_str, atI_0, atI_1, atI_2, atI_3, cut_2, cut_2n, cut_13, cut_3, ints_map, intsOf_nil, blsOf_nil, rng_le, rng2_le, Int.toNat_natCast, Int.toNat_natCast_add_one, Int.reduceToNat, endR_ret, endR_next, endR_exc, endR_ite, compT_n, compT_t, okAt_ok, val_ok, fm_some, fm_if, List.set_cons_succ, List.set_cons_zero, List.map_cons, List.map_nil, List.length_cons, List.length_nil, List.length_map, List.append_nil, List.nil_append, List.cons_append, Option.map_some, Option.bind_some, Bool.not_true, Bool.not_false, Bool.true_and, Bool.and_true, Bool.false_and, Bool.and_false, Bool.or_true, Bool.true_or, Bool.false_or, Bool.or_false, if_true, if_false, Bool.false_eq_true, decide_eq_true_eq, decide_true, decide_false, not_true_eq_false, not_false_eq_true, Bool.not_eq_true', decide_eq_false_iff_not, Bool.and_eq_true, Bool.or_eq_true, ne_eq, reduceCtorEq, implies_true, ite_tf, ite_ft, ite_bf, ite_tb, and_true, true_and, or_true, true_or, and_false, false_and, or_false, false_or, le_SZ, Nat.reduceSub, List.reduceReplicate])
  have hd : (((0 :: (sums 0 (costs b fd c pg st0 way)).dropLast).zip (sums 0 (costs b fd c pg st0 way))).map fun p => D.int (p.2 - p.1)) = (costs b fd c pg st0 way).map D.int := by
    have := congrArg (List.map D.int) (sums_diff (costs b fd c pg st0 way) 0)
    rw [List.map_map] at this
    exact this
  rw [hd]
  (simp (disch := (first | assumption | (intro h; cases h; done) | omega | ((first | refine szk_le ?_ | refine szk_lt ?_ | skip) <;> (try simp only [List.length_map, List.length_append, List.length_cons, List.length_nil, List.length_reverse, List.length_zipIdx, List.length_range, List.length_singleton, List.length_dropLast, List.length_take, List.length_drop, rangeD_len, sums_len, costs_len]) <;> omega) | (refine Fl.mk ?_ ?_ <;> simp only [D.flat, D.flatL, flatL_iff, flatL_app, dep_tup, dep_lst, depL_cons, depL_nil, dep_int, dep_str, dep_bl, dep_non, depL_iff, depL_app, flat_ite, dep_ite, implies_true, and_true, true_and, Bool.and_true, Bool.true_and, Bool.and_eq_true, ite_self]) | (refine szk_le ?_; omega) | decide)) only [xs_cons, seq_next, seq_ret, seq_brk, seq_cont, seq_exc, seq_ite, ex_wipe, wipeE_nil, wipeE_cons, ite_ok, ite_int, ite_bl, ite_tup, ite_str, bindN, bind_exc, R.of_some, stmN, R.stm_exc, slot_0, slot_s, ev_var, ev_lit, ev_tup, ev_lst, ev_newL, ev_newD, mkD_nil, ev_bin, negR_int, ev_neg, ev_not, ev_and, ev_or, ev_ife, ev_cmp, ev_chn, ev_idx, ev_slc, ev_rev, ev_call, ev_blt, ev_mth, ev_fld, ev_inv, ev_mk, ev_comp, compR_nil, ev_tval, ev_tnot, ev_tand, ev_tor, ev_tife, ev_ts0, ev_ts1, ev_l0, ev_l1, ev_o0, ev_o1, optR_int, seqR_tup, seqR_lst, seqR_str, ev_seq, ev_rng1, ev_rng2, ev_enum, enumR_str, enumR_tup, enumR_lst, ev_zip, zipR_tup, zipR_lst, ev_newC, ex_nil, ex_expr, ex_asgN, ex_asgT, asgR_t, ex_sub, ex_fld, ex_ret, ex_retN, ex_ite, ex_for, ex_while, forT_n, forT_t, inE_N, inR_some, inO_some, setTgs_nil, setTgs_n, setTgs_t, forL_nil, ex_pass, ex_cont, ex_brk, ex_raise, tru_non, tru_bl, tru_int, tru_str, tru_tup, tru_lst, add_int, sub_int, mul_l, mul_r, mod_int, fdiv_int, add_tup, add_lst, add_str, idx_tup, idx_lst, idx_str, len_str, len_tup, len_lst, abs_int, max2_int, min2_int, min3_int, maxL_eq, minL_eq, sum_eq, all_eq, any_eq, int_int, int_bl, sorted_eq, tuple_lst, tuple_tup, list_lst, list_tup, kind_join, cmp_eq_int, cmp_ne_int, cmp_eq_str, cmp_ne_str, cmp_eq_bl, cmp_ne_bl, cmp_lt_int, cmp_le_int, cmp_gt_int, cmp_ge_int, cmp_in_tup, ne_self, eq_self, isT_tup, isI_int, isB_int, isB_bl, isS_str, slc_tup, slc_lst, slc_str, atI_0, atI_1, atI_2, atI_3, cut_2, cut_2n, cut_13, cut_3, ints_map, intsOf_nil, blsOf_nil, rng_le, rng2_le, Int.toNat_natCast, Int.toNat_natCast_add_one, Int.reduceToNat, endR_ret, endR_next, endR_exc, endR_ite, compT_n, compT_t, okAt_ok, val_ok, fm_some, fm_if, List.set_cons_succ, List.set_cons_zero, List.map_cons, List.map_nil, List.length_cons, List.length_nil, List.length_map, List.append_nil, List.nil_append, List.cons_append, Option.map_some, Option.bind_some, Bool.not_true, Bool.not_false, Bool.true_and, Bool.and_true, Bool.false_and, Bool.and_false, Bool.or_true, Bool.true_or, Bool.false_or, Bool.or_false, if_true, if_false, Bool.false_eq_true, decide_eq_true_eq, decide_true, decide_false, not_true_eq_false, not_false_eq_true, Bool.not_eq_true', decide_eq_false_iff_not, Bool.and_eq_true, Bool.or_eq_true, ne_eq, reduceCtorEq, implies_true, ite_tf, ite_ft, ite_bf, ite_tb, and_true, true_and, or_true, true_or, and_false, false_and, or_false, false_or, le_SZ, Nat.reduceSub, List.reduceReplicate])
  rewrite [for_rl ?rows]
  case rows =>
    intro j hj
    obtain ⟨W1, rest, hrest⟩ := way_take W j
    simp only [Nat.zero_add] at W1 hrest
    have c0 : cut (pg.map rowD) none (some (j : Int)) = (pg.take j).map rowD := by rw [cut_len, List.map_take]
    have hfl : (way.filter fun s => decide (s.row < j)).length ≤ 36 := Nat.le_trans (List.length_filter_le _ _) hwl
    have hco : costs b fd c (pg.take j) st0 (way.filter fun s => decide (s.row < j)) = (costs b fd c pg st0 way).take (way.filter fun s => decide (s.row < j)).length := by
      rw [costs_take _ _ (fun s hs => by simpa using (List.mem_filter.mp hs).2)]
      generalize (way.filter fun s => decide (s.row < j)) = fw at hrest
      rw [hrest, costs_app, List.take_append_of_le_length (by rw [costs_len]; exact Nat.le_refl _), List.take_of_length_le (by rw [costs_len]; exact Nat.le_refl _)]
    have hsu : ∀ (l : List Int) (k : Nat) (a : Int), sums a (l.take k) = (sums a l).take k := by
      intro l
      induction l with
      | nil => intro k a; simp [sums]
      | cons x l ih => intro k a; cases k <;> simp [sums, ih]
    have k1 : ∀ (l : List Int) (k : Nat), cut (l.map D.int) none (some (k : Int)) = (l.take k).map D.int := fun l k => by rw [cut_len, List.map_take]
    simp only [w19_b3]
    (simp (disch := (first | assumption | (intro h; cases h; done) | omega | ((first | refine szk_le ?_ | refine szk_lt ?_ | skip) <;> (try simp only [List.length_map, List.length_append, List.length_cons, List.length_nil, List.length_reverse, List.length_zipIdx, List.length_range, List.length_singleton, List.length_dropLast, List.length_take, List.length_drop, rangeD_len, sums_len, costs_len]) <;> omega) | (refine Fl.mk ?_ ?_ <;> simp only [D.flat, D.flatL, flatL_iff, flatL_app, dep_tup, dep_lst, depL_cons, depL_nil, dep_int, dep_str, dep_bl, dep_non, depL_iff, depL_app, flat_ite, dep_ite, implies_true, and_true, true_and, Bool.and_true, Bool.true_and, Bool.and_eq_true, ite_self]) | (refine szk_le ?_; omega) | decide)) only [xs_cons, seq_next, seq_ret, seq_brk, seq_cont, seq_exc, seq_ite, ex_wipe, wipeE_nil, wipeE_cons, ite_ok, ite_int, ite_bl, ite_tup, ite_str, bindN, bind_exc, R.of_some, stmN, R.stm_exc, slot_0, slot_s, ev_var, ev_lit, ev_tup, ev_lst, ev_newL, ev_newD, mkD_nil, ev_bin, negR_int, ev_neg, ev_not, ev_and, ev_or, ev_ife, ev_cmp, ev_chn, ev_idx, ev_slc, ev_rev, ev_call, ev_blt, ev_mth, ev_fld, ev_inv, ev_mk, ev_comp, compR_nil, ev_tval, ev_tnot, ev_tand, ev_tor, ev_tife, ev_ts0, ev_ts1, ev_l0, ev_l1, ev_o0, ev_o1, optR_int, seqR_tup, seqR_lst, seqR_str, ev_seq, ev_rng1, ev_rng2, ev_enum, enumR_str, enumR_tup, enumR_lst, ev_zip, zipR_tup, zipR_lst, ev_newC, ex_nil, ex_expr, ex_asgN, ex_asgT, asgR_t, ex_sub, ex_fld, ex_ret, ex_retN, ex_ite, ex_for, ex_while, forT_n, forT_t, inE_N, inR_some, inO_some, setTgs_nil, setTgs_n, setTgs_t, forL_nil, ex_pass, ex_cont, ex_brk, ex_raise, tru_non, tru_bl, tru_int, tru_str, tru_tup, tru_lst, add_int, sub_int, mul_l, mul_r, mod_int, fdiv_int, add_tup, add_lst, add_str, idx_tup, idx_lst, idx_str, len_str, len_tup, len_lst, abs_int, max2_int, min2_int, min3_int, maxL_eq, minL_eq, sum_eq, all_eq, any_eq, int_int, int_bl, sorted_eq, tuple_lst, tuple_tup, list_lst, list_tup, kind_join, cmp_eq_int, cmp_ne_int, cmp_eq_str, cmp_ne_str, cmp_eq_bl, cmp_ne_bl, cmp_lt_int, cmp_le_int, cmp_gt_int, cmp_ge_int, cmp_in_tup, ne_self, eq_self, isT_tup, isI_int, isB_int, isB_bl, isS_str, slc_tup, slc_lst, slc_str, atI_0, atI_1, atI_2, atI_3, cut_2, cut_2n, cut_13, cut_3, ints_map, intsOf_nil, blsOf_nil, rng_le, rng2_le, Int.toNat_natCast, Int.toNat_natCast_add_one, Int.reduceToNat, endR_ret, endR_next, endR_exc, endR_ite, compT_n, compT_t, okAt_ok, val_ok, fm_some, fm_if, List.set_cons_succ, List.set_cons_zero, List.map_cons, List.map_nil, List.length_cons, List.length_nil, List.length_map, List.append_nil, List.nil_append, List.cons_append, Option.map_some, Option.bind_some, Bool.not_true, Bool.not_false, Bool.true_and, Bool.and_true, Bool.false_and, Bool.and_false, Bool.or_true, Bool.true_or, Bool.false_or, Bool.or_false, if_true, if_false, Bool.false_eq_true, decide_eq_true_eq, decide_true, decide_false, not_true_eq_false, not_false_eq_true, Bool.not_eq_true', decide_eq_false_iff_not, Bool.and_eq_true, Bool.or_eq_true, ne_eq, reduceCtorEq, implies_true, ite_tf, ite_ft, ite_bf, ite_tb, and_true, true_and, or_true, true_or, and_false, false_and, or_false, false_or, le_SZ, Nat.reduceSub, List.reduceReplicate])
    (rewrite [comp_filt (xs := way) (enc := Sp.d) (fun s => decide (s.row < j)) Sp.d ?xc5 ?xb5 ?xa5]; (case xa5 => (first | assumption | (intro h; cases h; done) | omega | ((first | refine szk_le ?_ | refine szk_lt ?_ | skip) <;> (try simp only [List.length_map, List.length_append, List.length_cons, List.length_nil, List.length_reverse, List.length_zipIdx, List.length_range, List.length_singleton, List.length_dropLast, List.length_take, List.length_drop, rangeD_len, sums_len, costs_len]) <;> omega) | (refine Fl.mk ?_ ?_ <;> simp only [D.flat, D.flatL, flatL_iff, flatL_app, dep_tup, dep_lst, depL_cons, depL_nil, dep_int, dep_str, dep_bl, dep_non, depL_iff, depL_app, flat_ite, dep_ite, implies_true, and_true, true_and, Bool.and_true, Bool.true_and, Bool.and_eq_true, ite_self]) | (refine szk_le ?_; omega) | decide)); (case xb5 => rfl); (case' xc5 => skip))
    · intro s _
      (simp (disch := (first | assumption | (intro h; cases h; done) | omega | ((first | refine szk_le ?_ | refine szk_lt ?_ | skip) <;> (try simp only [List.length_map, List.length_append, List.length_cons, List.length_nil, List.length_reverse, List.length_zipIdx, List.length_range, List.length_singleton, List.length_dropLast, List.length_take, List.length_drop, rangeD_len, sums_len, costs_len]) <;> omega) | (refine Fl.mk ?_ ?_ <;> simp only [D.flat, D.flatL, flatL_iff, flatL_app, dep_tup, dep_lst, depL_cons, depL_nil, dep_int, dep_str, dep_bl, dep_non, depL_iff, depL_app, flat_ite, dep_ite, implies_true, and_true, true_and, Bool.and_true, Bool.true_and, Bool.and_eq_true, ite_self]) | (refine szk_le ?_; omega) | decide)) only [xs_cons, seq_next, seq_ret, seq_brk, seq_cont, seq_exc, seq_ite, ex_wipe, wipeE_nil, wipeE_cons, ite_ok, ite_int, ite_bl, ite_tup, ite_str, bindN, bind_exc, R.of_some, stmN, R.stm_exc, slot_0, slot_s, ev_var, ev_lit, ev_tup, ev_lst, ev_newL, ev_newD, mkD_nil, ev_bin, negR_int, ev_neg, ev_not, ev_and, ev_or, ev_ife, ev_cmp, ev_chn, ev_idx, ev_slc, ev_rev, ev_call, ev_blt, ev_mth, ev_fld, ev_inv, ev_mk, ev_comp, compR_nil, ev_tval, ev_tnot, ev_tand, ev_tor, ev_tife, ev_ts0, ev_ts1, ev_l0, ev_l1, ev_o0, ev_o1, optR_int, seqR_tup, seqR_lst, seqR_str, ev_seq, ev_rng1, ev_rng2, ev_enum, enumR_str, enumR_tup, enumR_lst, ev_zip, zipR_tup, zipR_lst, ev_newC, ex_nil, ex_expr, ex_asgN, ex_asgT, asgR_t, ex_sub, ex_fld, ex_ret, ex_retN, ex_ite, ex_for, ex_while, forT_n, forT_t, inE_N, inR_some, inO_some, setTgs_nil, setTgs_n, setTgs_t, forL_nil, ex_pass, ex_cont, ex_brk, ex_raise, tru_non, tru_bl, tru_int, tru_str, tru_tup, tru_lst, add_int, sub_int, mul_l, mul_r, mod_int, fdiv_int, add_tup, add_lst, add_str, idx_tup, idx_lst, idx_str, len_str, len_tup, len_lst, abs_int, max2_int, min2_int, min3_int, maxL_eq, minL_eq, sum_eq, all_eq, any_eq, int_int, int_bl, sorted_eq, tuple_lst, tuple_tup, list_lst, list_tup, kind_join, cmp_eq_int, cmp_ne_int, cmp_eq_str, cmp_ne_str, cmp_eq_bl, cmp_ne_bl, cmp_lt_int, cmp_le_int, cmp_gt_int, cmp_ge_int, cmp_in_tup, ne_self, eq_self, isT_tup, isI_int, isB_int, isB_bl, isS_str, slc_tup, slc_lst, slc_str, atI_0, atI_1, atI_2, atI_3, cut_2, cut_2n, cut_13, cut_3, ints_map, intsOf_nil, blsOf_nil, rng_le, rng2_le, Int.toNat_natCast, Int.toNat_natCast_add_one, Int.reduceToNat, endR_ret, endR_next, endR_exc, endR_ite, compT_n, compT_t, okAt_ok, val_ok, fm_some, fm_if, List.set_cons_succ, List.set_cons_zero, List.map_cons, List.map_nil, List.length_cons, List.length_nil, List.length_map, List.append_nil, List.nil_append, List.cons_append, Option.map_some, Option.bind_some, Bool.not_true, Bool.not_false, Bool.true_and, Bool.and_true, Bool.false_and, Bool.and_false, Bool.or_true, Bool.true_or, Bool.false_or, Bool.or_false, if_true, if_false, Bool.false_eq_true, decide_eq_true_eq, decide_true, decide_false, not_true_eq_false, not_false_eq_true, Bool.not_eq_true', decide_eq_false_iff_not, Bool.and_eq_true, Bool.or_eq_true, ne_eq, reduceCtorEq, implies_true, ite_tf, ite_ft, ite_bf, ite_tb, and_true, true_and, or_true, true_or, and_false, false_and, or_false, false_or, le_SZ, Nat.reduceSub, List.reduceReplicate])
      simp
    (simp (disch := (first | assumption | (intro h; cases h; done) | omega | ((first | refine szk_le ?_ | refine szk_lt ?_ | skip) <;> (try simp only [List.length_map, List.length_append, List.length_cons, List.length_nil, List.length_reverse, List.length_zipIdx, List.length_range, List.length_singleton, List.length_dropLast, List.length_take, List.length_drop, rangeD_len, sums_len, costs_len]) <;> omega) | (refine Fl.mk ?_ ?_ <;> simp only [D.flat, D.flatL, flatL_iff, flatL_app, dep_tup, dep_lst, depL_cons, depL_nil, dep_int, dep_str, dep_bl, dep_non, depL_iff, depL_app, flat_ite, dep_ite, implies_true, and_true, true_and, Bool.and_true, Bool.true_and, Bool.and_eq_true, ite_self]) | (refine szk_le ?_; omega) | decide)) only [xs_cons, seq_next, seq_ret, seq_brk, seq_cont, seq_exc, seq_ite, ex_wipe, wipeE_nil, wipeE_cons, ite_ok, ite_int, ite_bl, ite_tup, ite_str, bindN, bind_exc, R.of_some, stmN, R.stm_exc, slot_0, slot_s, ev_var, ev_lit, ev_tup, ev_lst, ev_newL, ev_newD, mkD_nil, ev_bin, negR_int, ev_neg, ev_not, ev_and, ev_or, ev_ife, ev_cmp, ev_chn, ev_idx, ev_slc, ev_rev, ev_call, ev_blt, ev_mth, ev_fld, ev_inv, ev_mk, ev_comp, compR_nil, ev_tval, ev_tnot, ev_tand, ev_tor, ev_tife, ev_ts0, ev_ts1, ev_l0, ev_l1, ev_o0, ev_o1, optR_int, seqR_tup, seqR_lst, seqR_str, ev_seq, ev_rng1, ev_rng2, ev_enum, enumR_str, enumR_tup, enumR_lst, ev_zip, zipR_tup, zipR_lst, ev_newC, ex_nil, ex_expr, ex_asgN, ex_asgT, asgR_t, ex_sub, ex_fld, ex_ret, ex_retN, ex_ite, ex_for, ex_while, forT_n, forT_t, inE_N, inR_some, inO_some, setTgs_nil, setTgs_n, setTgs_t, forL_nil, ex_pass, ex_cont, ex_brk, ex_raise, tru_non, tru_bl, tru_int, tru_str, tru_tup, tru_lst, add_int, sub_int, mul_l, mul_r, mod_int, fdiv_int, add_tup, add_lst, add_str, idx_tup, idx_lst, idx_str, len_str, len_tup, len_lst, abs_int, max2_int, min2_int, min3_int, maxL_eq, minL_eq, sum_eq, all_eq, any_eq, int_int, int_bl, sorted_eq, tuple_lst, tuple_tup, list_lst, list_tup, kind_join, cmp_eq_int, cmp_ne_int, cmp_eq_str, cmp_ne_str, cmp_eq_bl, cmp_ne_bl, cmp_lt_int, cmp_le_int, cmp_gt_int, cmp_ge_int, cmp_in_tup, ne_self, eq_self, isT_tup, isI_int, isB_int, isB_bl, isS_str, slc_tup, slc_lst, slc_str, atI_0, atI_1, atI_2, atI_3, cut_2, cut_2n, cut_13, cut_3, ints_map, intsOf_nil, blsOf_nil, rng_le, rng2_le, Int.toNat_natCast, Int.toNat_natCast_add_one, Int.reduceToNat, endR_ret, endR_next, endR_exc, endR_ite, compT_n, compT_t, okAt_ok, val_ok, fm_some, fm_if, List.set_cons_succ, List.set_cons_zero, List.map_cons, List.map_nil, List.length_cons, List.length_nil, List.length_map, List.append_nil, List.nil_append, List.cons_append, Option.map_some, Option.bind_some, Bool.not_true, Bool.not_false, Bool.true_and, Bool.and_true, Bool.false_and, Bool.and_false, Bool.or_true, Bool.true_or, Bool.false_or, Bool.or_false, if_true, if_false, Bool.false_eq_true, decide_eq_true_eq, decide_true, decide_false, not_true_eq_false, not_false_eq_true, Bool.not_eq_true', decide_eq_false_iff_not, Bool.and_eq_true, Bool.or_eq_true, ne_eq, reduceCtorEq, implies_true, ite_tf, ite_ft, ite_bf, ite_tb, and_true, true_and, or_true, true_or, and_false, false_and, or_false, false_or, le_SZ, Nat.reduceSub, List.reduceReplicate, c0, hTs _ _ _ (take_ok G j) W1, hT _ _ _ (take_ok G j) W1, k1, hco, hsu])
  have hro : RowOk w [] := ⟨by simp, by simp, trivial, by have := M.w1; simp only [endOf]; omega⟩
  have e1 := hTs [[], []] [] S4 ⟨by simp, by simp [hro]⟩ (.cons (ss := []) (.refl _) (.cons (ss := []) (.refl _) .nil))
  simp only [costs, sums, List.sum_nil, List.map_nil, pgD, wayD, rowD, List.map_cons] at t0 e1
  (simp (disch := (first | assumption | (intro h; cases h; done) | omega | ((first | refine szk_le ?_ | refine szk_lt ?_ | skip) <;> (try simp only [List.length_map, List.length_append, List.length_cons, List.length_nil, List.length_reverse, List.length_zipIdx, List.length_range, List.length_singleton, List.length_dropLast, List.length_take, List.length_drop, rangeD_len, sums_len, costs_len]) <;> omega) | (refine Fl.mk ?_ ?_ <;> simp only [D.flat, D.flatL, flatL_iff, flatL_app, dep_tup, dep_lst, depL_cons, depL_nil, dep_int, dep_str, dep_bl, dep_non, depL_iff, depL_app, flat_ite, dep_ite, implies_true, and_true, true_and, Bool.and_true, Bool.true_and, Bool.and_eq_true, ite_self]) | (refine szk_le ?_; omega) | decide)) only [xs_cons, seq_next, seq_ret, seq_brk, seq_cont, seq_exc, seq_ite, ex_wipe, wipeE_nil, wipeE_cons, ite_ok, ite_int, ite_bl, ite_tup, ite_str, bindN, bind_exc, R.of_some, stmN, R.stm_exc, slot_0, slot_s, ev_var, ev_lit, ev_tup, ev_lst, ev_newL, ev_newD, mkD_nil, ev_bin, negR_int, ev_neg, ev_not, ev_and, ev_or, ev_ife, ev_cmp, ev_chn, ev_idx, ev_slc, ev_rev, ev_call, ev_blt, ev_mth, ev_fld, ev_inv, ev_mk, ev_comp, compR_nil, ev_tval, ev_tnot, ev_tand, ev_tor, ev_tife, ev_ts0, ev_ts1, ev_l0, ev_l1, ev_o0, ev_o1, optR_int, seqR_tup, seqR_lst, seqR_str, ev_seq, ev_rng1, ev_rng2, ev_enum, enumR_str, enumR_tup, enumR_lst, ev_zip, zipR_tup, zipR_lst, ev_newC, ex_nil, ex_expr, ex_asgN, ex_asgT, asgR_t, ex_sub, ex_fld, ex_ret, ex_retN, ex_ite, ex_for, ex_while, forT_n, forT_t, inE_N, inR_some, inO_some, setTgs_nil, setTgs_n, setTgs_t, forL_nil, ex_pass, ex_cont, ex_brk, ex_raise, tru_non, tru_bl, tru_int, tru_str, tru_tup, tru_lst, add_int, sub_int, mul_l, mul_r, mod_int, fdiv_int, add_tup, add_lst, add_str, idx_tup, idx_lst, idx_str, len_str, len_tup, len_lst, abs_int, max2_int, min2_int, min3_int, maxL_eq, minL_eq, sum_eq, all_eq, any_eq, int_int, int_bl, sorted_eq, tuple_lst, tuple_tup, list_lst, list_tup, kind_join, cmp_eq_int, cmp_ne_int, cmp_eq_str, cmp_ne_str, cmp_eq_bl, cmp_ne_bl, cmp_lt_int, cmp_le_int, cmp_gt_int, cmp_ge_int, cmp_in_tup, ne_self, eq_self, isT_tup, isI_int, isB_int, isB_bl, isS_str, slc_tup, slc_lst, slc_str, atI_0, atI_1, atI_2, atI_3, cut_2, cut_2n, cut_13, cut_3, ints_map, intsOf_nil, blsOf_nil, rng_le, rng2_le, Int.toNat_natCast, Int.toNat_natCast_add_one, Int.reduceToNat, endR_ret, endR_next, endR_exc, endR_ite, compT_n, compT_t, okAt_ok, val_ok, fm_some, fm_if, List.set_cons_succ, List.set_cons_zero, List.map_cons, List.map_nil, List.length_cons, List.length_nil, List.length_map, List.append_nil, List.nil_append, List.cons_append, Option.map_some, Option.bind_some, Bool.not_true, Bool.not_false, Bool.true_and, Bool.and_true, Bool.false_and, Bool.and_false, Bool.or_true, Bool.true_or, Bool.false_or, Bool.or_false, if_true, if_false, Bool.false_eq_true, decide_eq_true_eq, decide_true, decide_false, not_true_eq_false, not_false_eq_true, Bool.not_eq_true', decide_eq_false_iff_not, Bool.and_eq_true, Bool.or_eq_true, ne_eq, reduceCtorEq, implies_true, ite_tf, ite_ft, ite_bf, ite_tb, and_true, true_and, or_true, true_or, and_false, false_and, or_false, false_or, le_SZ, Nat.reduceSub, List.reduceReplicate, t0, e1])
end
theorem ends_not {pg : Pg} {way : List Sp} (W : WayFrom 0 pg way) {s : Sp} (hs : s ∈ way) : endsAt pg ⟨s.row, s.fnt, s.trn, !s.lft⟩ = ((endsAt pg s).2, (endsAt pg s).1) := by
  obtain ⟨row, p, h1, h2, h3, h4, h5, h6⟩ := way_ends W hs
  rw [h6]
  have : endsAt pg ⟨s.row, s.fnt, s.trn, !s.lft⟩ = p.ends (!s.lft) := by
    simp only [endsAt, h1, Option.bind_some, endsIn, ← h3, ← h4, find_pass h2, Option.map_some, Option.getD_some]
  rw [this]
  unfold Ps.ends
  cases s.lft <;> rfl
abbrev depth : Nat := 8
theorem law_ok' : ∀ ns : List Int, ns.length ≤ 63 → ∃ S, run Q depth 19 [.lst (ns.map D.int)] [] = .ok (.bl true) S := by
  intro ns _
  refine law_loop (P := Q) (n := 7) (q := 15) (K := 8) (T := 1000) (B := w19_b1) rfl (by decide) ns ?_
  intro i m Z hm hi
  obtain ⟨w, b, fd, c, M, h1⟩ := machine_ok (P := Q) (n := 5) (f := 12) (i := 10) rfl rfl ns m Z (by show _ < 16777216; omega)
  obtain ⟨pg, m1, hm1, G, _, h2⟩ := page_ok (P := Q) (n := 4) (iDr := 10) (iPk := 11) (iPg := 13) rfl rfl ns rfl (m + 4) Z w 6 (by have := M.w1; omega) M.w2 (by decide) (by decide) (by show _ < 16777216; omega)
  obtain ⟨way, m2, W, hm2, h3⟩ := law_way_ok (P := Q) (n := 3) (iDr := 10) (iG := 14) (iQ := 15) (iZ := 16) (iY := 17) rfl rfl rfl rfl rfl ns (m := m1) (Z := Z) (by show _ < 16777216; omega) G
  refine ⟨m2, Z, by omega, b1_ok M G W h1 h2 h3 (fun s S hs => ⟨ends_ok hw (n := 4) G W hs, ?_⟩) (fun k row S hk => passes_of_ok hw.r hw.s hw.p (n := 5) hk (G.r row (List.mem_of_getElem? hk)).small) (fun pg way S G W => times_of_ok hw (n := 2) M G W) (fun pg way S G W => time_of_ok hw (n := 1) M G W) (fun S => costs_ok (n := 3) M G W)⟩
  have ht : s.tri ∈ due pg := (way_perm W).mem_iff.mp (List.mem_map.mpr ⟨s, hs, rfl⟩)
  have := ends_due hw (n := 4) (S := S) G ht (!s.lft)
  rw [show s.tri.sp (!s.lft) = ⟨s.row, s.fnt, s.trn, !s.lft⟩ from rfl, ends_not W hs] at this
  exact this
theorem law_ok : ∀ ns : List Int, ns.length ≤ 63 → ∃ S, run P depth 19 [.lst (ns.map D.int)] [] = .ok (.bl true) S := of_Q law_ok'
end HW.K15
open PySem PySem.W PyProof.Rows
set_option maxRecDepth 100000 in
set_option maxHeartbeats 0 in
theorem PySem.Challenge.cw_headways_k15_whole_steps_done_holds : PySem.Challenge.rw_headways_k15_whole_steps_done.Holds := by
  w_on; o_law; k_head; (case hw => w_witness2)
  k_fill
  refine HW.walk (l := PySem.Challenge.rw_headways_k15_whole_steps_done) (n := HW.K15.depth) rfl rfl ⟨rfl, by decide, by decide⟩ (fun w h Y => PySem.W.kIn_of Y) ?hnol ?hall
  case hnol => intro w; kernel_rfl
  case hall =>
    intro w mg fa h KX G hmg
    refine' HW.K15.all_mk KX G hmg HW.K15.law_ok ?aC1 ?aX0 ?aX1 ?aX3 ?a0 ?l0 ?c0 ?k0 ?a1 ?l1 ?c1 ?k1 ?a2 ?l2 ?c2 ?k2 ?a3 ?l3 ?c3 ?k3 ?a4 ?l4 ?c4 ?k4 ?a5 ?i5 ?l5 ?c5 ?k5 ?a6 ?i6 ?l6 ?c6 ?k6 ?a7 ?l7 ?c7 ?k7 ?a8 ?l8 ?c8 ?k8 ?a9 ?l9 ?c9 ?k9 ?a10 ?l10 ?c10 ?k10 ?a11 ?l11 ?c11 ?k11 ?a12 ?l12 ?c12 ?k12 ?a13 ?l13 ?c13 ?k13 ?a14 ?l14 ?c14 ?k14 ?a15 ?l15 ?c15 ?k15 ?a16 ?l16 ?c16 ?k16 ?a17 ?l17 ?c17 ?k17 ?a18 ?l18 ?c18 ?k18 ?a19 ?l19 ?c19 ?k19 ?pg1 ?hd1 ?po1 ?sa1 ?mk1 ?kc1 ?n1_0 ?n1_1 ?n1_2 ?n1_3 ?n1_4 ?n1_5 ?n1_6 ?xi0 ?xk0 ?xb0 ?xt0 ?xc0 ?xs0_0 ?xs0_1 ?xs0_3 ?xi1 ?xk1 ?xb1 ?xt1 ?xc1 ?xs1_0 ?xs1_1 ?xs1_3 ?xi3 ?xk3 ?xb3 ?xt3 ?xc3 ?xs3_0 ?xs3_1 ?xs3_3 ?z0 ?z1 ?z2 ?z3 ?z4 ?z5 ?z6 ?z7 ?z8 ?z9 ?z10 ?z11 ?z12 ?z13 ?w0 ?v0
    (case aC1 => k_is)
    (case aX0 => k_is)
    (case aX1 => k_is)
    (case aX3 => k_is)
    (case a0 => k_is)
    (case l0 => k_is)
    (case c0 => k_is)
    (case k0 => k_is)
    (case a1 => k_is)
    (case l1 => k_is)
    (case c1 => k_is)
    (case k1 => k_is)
    (case a2 => k_is)
    (case l2 => k_is)
    (case c2 => k_is)
    (case k2 => k_is)
    (case a3 => k_is)
    (case l3 => k_is)
    (case c3 => k_is)
    (case k3 => k_is)
    (case a4 => k_is)
    (case l4 => k_is)
    (case c4 => k_is)
    (case k4 => k_is)
    (case a5 => k_is)
    (case i5 => k_is)
    (case l5 => k_is)
    (case c5 => k_is)
    (case k5 => k_is)
    (case a6 => k_is)
    (case i6 => k_is)
    (case l6 => k_is)
    (case c6 => k_is)
    (case k6 => k_is)
    (case a7 => k_is)
    (case l7 => k_is)
    (case c7 => k_is)
    (case k7 => k_is)
    (case a8 => k_is)
    (case l8 => k_is)
    (case c8 => k_is)
    (case k8 => k_is)
    (case a9 => k_is)
    (case l9 => k_is)
    (case c9 => k_is)
    (case k9 => k_is)
    (case a10 => k_is)
    (case l10 => k_is)
    (case c10 => k_is)
    (case k10 => k_is)
    (case a11 => k_is)
    (case l11 => k_is)
    (case c11 => k_is)
    (case k11 => k_is)
    (case a12 => k_is)
    (case l12 => k_is)
    (case c12 => k_is)
    (case k12 => k_is)
    (case a13 => k_is)
    (case l13 => k_is)
    (case c13 => k_is)
    (case k13 => k_is)
    (case a14 => k_is)
    (case l14 => k_is)
    (case c14 => k_is)
    (case k14 => k_is)
    (case a15 => k_is)
    (case l15 => k_is)
    (case c15 => k_is)
    (case k15 => k_is)
    (case a16 => k_is)
    (case l16 => k_is)
    (case c16 => k_is)
    (case k16 => k_is)
    (case a17 => k_is)
    (case l17 => k_is)
    (case c17 => k_is)
    (case k17 => k_is)
    (case a18 => k_is)
    (case l18 => k_is)
    (case c18 => k_is)
    (case k18 => k_is)
    (case a19 => k_is)
    (case l19 => k_is)
    (case c19 => k_is)
    (case k19 => k_is)
    (case pg1 => k_is)
    (case hd1 => k_is)
    (case po1 => k_is)
    (case sa1 => k_is)
    (case mk1 => k_is)
    (case kc1 => k_is)
    (case n1_0 => k_is)
    (case n1_1 => k_is)
    (case n1_2 => k_is)
    (case n1_3 => k_is)
    (case n1_4 => k_is)
    (case n1_5 => k_is)
    (case n1_6 => k_is)
    (case xi0 => k_exc)
    (case xk0 => k_is)
    (case xb0 => k_is)
    (case xt0 => k_is)
    (case xc0 => k_is)
    (case xs0_0 => first | rfl | k_is)
    (case xs0_1 => first | rfl | k_is)
    (case xs0_3 => first | rfl | k_is)
    (case xi1 => k_exc)
    (case xk1 => k_is)
    (case xb1 => k_is)
    (case xt1 => k_is)
    (case xc1 => k_is)
    (case xs1_0 => first | rfl | k_is)
    (case xs1_1 => first | rfl | k_is)
    (case xs1_3 => first | rfl | k_is)
    (case xi3 => k_exc)
    (case xk3 => k_is)
    (case xb3 => k_is)
    (case xt3 => k_is)
    (case xc3 => k_is)
    (case xs3_0 => first | rfl | k_is)
    (case xs3_1 => first | rfl | k_is)
    (case xs3_3 => first | rfl | k_is)
    (case z0 => k_is)
    (case z1 => k_is)
    (case z2 => k_is)
    (case z3 => k_is)
    (case z4 => k_is)
    (case z5 => k_is)
    (case z6 => k_is)
    (case z7 => k_is)
    (case z8 => k_is)
    (case z9 => k_is)
    (case z10 => k_is)
    (case z11 => k_is)
    (case z12 => k_is)
    (case z13 => k_is)
    (case w0 => k_is)
    (case v0 => exact ⟨_, rfl⟩)
#print axioms PySem.Challenge.cw_headways_k15_whole_steps_done_holds
