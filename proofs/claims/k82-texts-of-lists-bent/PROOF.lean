import PyProof.Rows.All
import Wide.All
import OpenK.AllK
import Wide.FinOn
import HandS.ForMost
import HandS.TupAny
import HandS.Wide
import HandS.IsInst
import HandS.Zip
import HandS.Gcd
import HandS.ExcInit
import HandS.ExcCtx
import HandS.ExcIs
import HandS.TupLe
import HandS.Style
import HandS.Deep
import HandS.Small
import HandS.Conv
import HandS.SortInts
import HandS.Flow
import HandS.ExcOwn
import HandS.Comp
import KE.GoesMore
import KE.GoesZip
import KE.GoesEnum
import KE.KDictDisplayH
import HandS.TupSets
import HandS.ExcField
import HandS.HotCalls
import KE.KExcIs
import HandS.Ends
import PySem.Challenge.RW_packtags_k82_whole_texts_of_lists_bent
set_option Elab.async false
set_option linter.all false
set_option maxRecDepth 100000
set_option maxHeartbeats 4000000
section
/-! Values, stores, a small syntax and what it computes: plain Lean, no heap in sight. -/
namespace Pyx
open PySem (Str sizeLine)

/-- a value: tuples and lists that never change stand inline, what changes stands in the store -/
inductive D where
  | non
  | bl (b : Bool)
  | int (i : Int)
  | str (s : Str)
  | tup (ds : List D)
  | lst (ds : List D)
  | fz (ds : List D)
  | ref (l : Nat)
  deriving Inhabited

inductive Cell where
  | lst (ds : List D)
  | ins (c : Str) (fs : List (Str × D))
  | dk (kvs : List (L2.Key × D))
  | dt (kvs : List (List L2.Key × D))
  deriving Inhabited

abbrev Store := List Cell
abbrev Env := List (Option D)

structure Exc where
  cls : Str
  fld : Option (Str × D)

/-- an exception in the environment -/
def codeX (x : Exc) : D := match x.fld with
  | none => .tup [.str x.cls]
  | some (f, v) => .tup [.str x.cls, .str f, v]

inductive R (α : Type) where
  | ok (a : α) (S : Store)
  | exc (x : Exc) (S : Store)
  | stuck

def R.bind {α β : Type} (r : R α) (f : α → Store → R β) : R β :=
  match r with
  | .ok a S => f a S
  | .exc x S => .exc x S
  | .stuck => .stuck

@[simp] theorem R.bind_ok {α β : Type} (a : α) (S : Store) (f : α → Store → R β) : (R.ok a S).bind f = f a S := rfl
@[simp] theorem R.bind_exc {α β : Type} (x : Exc) (S : Store) (f : α → Store → R β) : (R.exc x S : R α).bind f = .exc x S := rfl
@[simp] theorem R.bind_stuck {α β : Type} (f : α → Store → R β) : (R.stuck : R α).bind f = .stuck := rfl

/-- no exception comes out of it -/
def R.noX {α : Type} : R α → R α
  | .ok a S => .ok a S
  | _ => .stuck
@[simp] theorem R.noX_ok {α : Type} (a : α) (S : Store) : (R.ok a S).noX = .ok a S := rfl
/-- an answer where there is one -/
def give {α : Type} (S : Store) : Option α → R α
  | some a => .ok a S
  | none => .stuck
@[simp] theorem give_some {α : Type} (S : Store) (a : α) : give S (some a) = .ok a S := rfl
@[simp] theorem give_none {α : Type} (S : Store) : give S (none : Option α) = .stuck := rfl

/-! ### looking at values -/
mutual
def D.pure : D → Bool
  | .non => true
  | .bl _ => true
  | .int _ => true
  | .str _ => true
  | .tup ds => D.pures ds
  | .lst ds => D.pures ds
  | .fz ds => D.pures ds
  | .ref _ => false
def D.pures : List D → Bool
  | [] => true
  | d :: ds => d.pure && D.pures ds
end
mutual
def D.bnd (n : Nat) : D → Bool
  | .non => true
  | .bl _ => true
  | .int _ => true
  | .str _ => true
  | .tup ds => D.bnds n ds
  | .lst ds => D.bnds n ds
  | .fz ds => D.bnds n ds
  | .ref l => decide (l < n)
def D.bnds (n : Nat) : List D → Bool
  | [] => true
  | d :: ds => d.bnd n && D.bnds n ds
end
def Cell.bnd (n : Nat) : Cell → Bool
  | .lst ds => D.bnds n ds
  | .ins _ fs => fs.all fun p => p.2.bnd n
  | .dk fs => fs.all fun p => p.2.bnd n
  | .dt fs => fs.all fun p => p.2.bnd n

/-- the items of a list that may be read in every way -/
def asL (S : Store) : D → Option (List D)
  | .lst ds => some ds
  | .ref l => match S[l]? with
    | some (.lst ds) => some ds
    | _ => none
  | _ => none
/-- the items of a list or tuple -/
def asQ (S : Store) : D → Option (List D)
  | .tup ds => some ds
  | .lst ds => some ds
  | .fz ds => some ds
  | .ref l => match S[l]? with
    | some (.lst ds) => some ds
    | _ => none
  | _ => none
def asI : D → Option Int
  | .int i => some i
  | _ => none
def asB : D → Option Bool
  | .bl b => some b
  | _ => none
def asS : D → Option Str
  | .str s => some s
  | _ => none
def intsOf : List D → Option (List Int)
  | [] => some []
  | .int i :: ds => (intsOf ds).map (i :: ·)
  | _ :: _ => none
def boolsOf : List D → Option (List Bool)
  | [] => some []
  | .bl i :: ds => (boolsOf ds).map (i :: ·)
  | _ :: _ => none
def strsOf : List D → Option (List Str)
  | [] => some []
  | .str i :: ds => (strsOf ds).map (i :: ·)
  | _ :: _ => none

mutual
def D.eq : D → D → Bool
  | .non, .non => true
  | .bl a, .bl b => a == b
  | .bl a, .int j => (if a then 1 else 0) == j
  | .int i, .bl b => i == (if b then 1 else 0)
  | .int i, .int j => i == j
  | .str x, .str y => x == y
  | .lst xs, .lst ys => D.eqs xs ys
  | .lst xs, .fz ys => D.eqs xs ys
  | .fz xs, .lst ys => D.eqs xs ys
  | .fz xs, .fz ys => D.eqs xs ys
  | .tup xs, .tup ys => D.eqs xs ys
  | _, _ => false
def D.eqs : List D → List D → Bool
  | [], [] => true
  | x :: xs, y :: ys => x.eq y && D.eqs xs ys
  | _, _ => false
end
mutual
def D.depth : D → Nat
  | .tup ds => D.depths ds + 1
  | .lst ds => D.depths ds + 1
  | .fz ds => D.depths ds + 1
  | _ => 0
def D.depths : List D → Nat
  | [] => 0
  | d :: ds => max d.depth (D.depths ds)
end
mutual
def D.sok : D → Bool
  | .str s => PySem.PyData.strOk s
  | .tup ds => D.soks ds
  | .lst ds => D.soks ds
  | .fz ds => D.soks ds
  | _ => true
def D.soks : List D → Bool
  | [] => true
  | d :: ds => d.sok && D.soks ds
end
/-- a value that can be compared: pure, or a list of pure things in the store -/
def flatL (S : Store) : D → Option D
  | .ref l => match S[l]? with
    | some (.lst ds) => if D.pures ds then some (.lst ds) else none
    | _ => none
  | d => if d.pure then some d else none

def truth (S : Store) : D → Option Bool
  | .non => some false
  | .bl b => some b
  | .int i => some (i != 0)
  | .str s => some ((s.length : Int) != 0)
  | .tup ds => some (!ds.isEmpty)
  | .lst ds => some (!ds.isEmpty)
  | .fz ds => some (!ds.isEmpty)
  | .ref l => match S[l]? with
    | some (.lst ds) => some (!ds.isEmpty)
    | _ => none

/-! ### making -/
/-- a new list: in the store where m says so, else inline -/
def mkL (m : Bool) (ds : List D) (S : Store) : R D :=
  if ds.length ≤ sizeLine then (if m then .ok (.ref S.length) (S ++ [.lst ds]) else .ok (.lst ds) S) else .stuck
def mkT (ds : List D) (S : Store) : R D :=
  if ds.length ≤ sizeLine then .ok (.tup ds) S else .stuck
def mkS (s : Str) (S : Store) : R D :=
  if s.length ≤ sizeLine then .ok (.str s) S else .stuck

/-! ### operators -/
inductive BOp where
  | add | sub | mul | fdiv | mod | pow
  deriving DecidableEq
/-- a product that the machine makes -/
def mulOk (i j : Int) : Bool := decide (-(2 ^ 64) < i ∧ i < 2 ^ 64) || decide (-(2 ^ 64) < j ∧ j < 2 ^ 64) || decide (i.natAbs.log2 + j.natAbs.log2 < 1000000)
def addD (d e : D) (S : Store) : R D :=
  match d, e with
  | .int i, .int j => .ok (.int (i + j)) S
  | .str s, .str t => if s.length + t.length ≤ sizeLine then .ok (.str (s ++ t)) S else .stuck
  | .tup xs, .tup ys => if xs.length + ys.length ≤ sizeLine then .ok (.tup (xs ++ ys)) S else .stuck
  | d, e => match asL S d, asL S e with
    | some xs, some ys => if xs.length + ys.length ≤ sizeLine then .ok (.lst (xs ++ ys)) S else .stuck
    | _, _ => .stuck
def subD (d e : D) (S : Store) : R D :=
  match d, e with
  | .int i, .int j => .ok (.int (i - j)) S
  | _, _ => .stuck
def mulD (d e : D) (S : Store) : R D :=
  match d, e with
  | .int i, .int j => if mulOk i j then .ok (.int (i * j)) S else .stuck
  | .lst xs, .int k => if -(2 ^ 63) ≤ k ∧ k < 2 ^ 63 ∧ xs.length * k.toNat ≤ sizeLine then .ok (.lst (List.replicate k.toNat xs).flatten) S else .stuck
  | .str s, .int k => if (0 ≤ k ∧ k ≤ 1000) ∧ s.length ≤ 1000000 ∧ s.length * k.toNat ≤ sizeLine ∧ (PySem.Txt.mul s k).length ≤ sizeLine then .ok (.str (PySem.Txt.mul s k)) S else .stuck
  | _, _ => .stuck
def fdivD (d e : D) (S : Store) : R D :=
  match d, e with
  | .int i, .int j => if 0 < j ∧ j.natAbs.log2 < 9000 then .ok (.int (i / j)) S else if j < 0 ∧ j.natAbs.log2 < 9000 then .ok (.int (i.fdiv j)) S else .stuck
  | _, _ => .stuck
def modD (d e : D) (S : Store) : R D :=
  match d, e with
  | .int i, .int j => if 0 < j then .ok (.int (i % j)) S else if j < 0 then .ok (.int (i.fmod j)) S else .stuck
  | _, _ => .stuck
def powD (d e : D) (S : Store) : R D :=
  match d, e with
  | .int i, .int j => if 0 ≤ j ∧ j ≤ 1000000 ∧ i.natAbs < 2 ^ 64 then .ok (.int (i ^ j.toNat)) S else .stuck
  | _, _ => .stuck
def binD (o : BOp) (d e : D) (S : Store) : R D :=
  match o with
  | .add => addD d e S
  | .sub => subD d e S
  | .mul => mulD d e S
  | .fdiv => fdivD d e S
  | .mod => modD d e S
  | .pow => powD d e S

inductive COp where
  | eq | ne | lt | le | gt | ge | is | isnot | isin | notin
  deriving DecidableEq
def eqD (S : Store) : D → D → Option Bool
  | .str x, .str y => some (x == y)
  | d, e => match flatL S d, flatL S e with
    | some x, some y => if x.depth ≤ 64 ∧ y.depth ≤ 64 ∧ x.sok = true ∧ y.sok = true then some (x.eq y) else none
    | _, _ => none
def D.flat : D → Bool
  | .non => true
  | .bl _ => true
  | .int _ => true
  | .str _ => true
  | _ => false
/-! ### dicts -/
def keyD : D → Option L2.Key
  | .int i => some (.inl i)
  | .str s => some (.inr s)
  | _ => none
def keysD : List D → Option (List L2.Key)
  | [] => some []
  | d :: ds => (keyD d).bind fun k => (keysD ds).map (k :: ·)
section
variable {κ α : Type} [DecidableEq κ]
def valG (kvs : List (κ × α)) (k : κ) : Option α := (kvs.find? fun kv => decide (kv.1 = k)).map (·.2)
def putG (kvs : List (κ × α)) (k : κ) (v : α) : List (κ × α) :=
  if (kvs.any fun kv => decide (kv.1 = k)) = true then kvs.map (fun kv => if kv.1 = k then (kv.1, v) else kv) else kvs ++ [(k, v)]
end
/-- what a dict holds at a key; nothing where it is no dict, or no key -/
def dgetD (S : Store) (x y : D) : Option (Option D) :=
  match x with
  | .ref l => match S[l]? with
    | some (.dk kvs) => (keyD y).map (valG kvs)
    | some (.dt kvs) => match y with
      | .tup ds => (keysD ds).map (valG kvs)
      | _ => none
    | _ => none
  | _ => none
/-- a deep look is possible -/
def deepOk (d : D) (ds : List D) : Bool := d.pure && D.pures ds && decide (d.depth ≤ 64) && decide (D.depths ds + 1 ≤ 64) && d.sok && D.soks ds
/-- x in a sequence, a dict, or a text in a text -/
def inD (S : Store) : D → D → Option Bool
  | .str s, .str t => match s.cps.toList with
    | [c] => some (decide (c ∈ t.cps.toList))
    | _ => some (!(PySem.Builtin.Str.occurrences t s 0 t.length 1).isEmpty)
  | d, e => match dgetD S e d with
    | some o => some o.isSome
    | none => match asQ S e with
      | some ds => if d.flat && ds.all D.flat then some (ds.any fun y => y.eq d) else match asL S e with
        | some ds => if deepOk d ds then some (ds.any fun y => y.eq d) else none
        | none => none
      | none => none
def blR (S : Store) : Option Bool → R D
  | some b => .ok (.bl b) S
  | none => .stuck
def ordD (p : Int → Int → Bool) (d e : D) : Option Bool :=
  match d, e with
  | .int i, .int j => some (p i j)
  | _, _ => none
def isD (d e : D) : Option Bool :=
  match d, e with
  | .non, .non => some true
  | .bl _, .non => some false
  | .int _, .non => some false
  | .str _, .non => some false
  | .tup _, .non => some false
  | .lst _, .non => some false
  | .fz _, .non => some false
  | .ref _, .non => some false
  | .bl a, .bl b => some (a == b)
  | _, _ => none
def cmpB (o : COp) (d e : D) (S : Store) : Option Bool :=
  match o with
  | .eq => eqD S d e
  | .ne => (eqD S d e).map (!·)
  | .lt => ordD (fun i j => decide (i < j)) d e
  | .le => ordD (fun i j => decide (i ≤ j)) d e
  | .gt => ordD (fun i j => decide (j < i)) d e
  | .ge => ordD (fun i j => decide (j ≤ i)) d e
  | .is => isD d e
  | .isnot => (isD d e).map (!·)
  | .isin => inD S d e
  | .notin => (inD S d e).map (!·)
def cmpD (o : COp) (d e : D) (S : Store) : R D := blR S (cmpB o d e S)

/-! ### items and slices -/
def ixL (d e : D) (S : Store) : R D :=
  match e with
  | .int i => (match d with
    | .str s => (match L2.atI s.cps.toList i with
      | some c => .ok (.str ⟨#[c]⟩) S
      | none => .stuck)
    | d => match asQ S d with
      | some ds => give S (L2.atI ds i)
      | none => .stuck)
  | _ => .stuck
def ixD (d e : D) (S : Store) : R D :=
  match dgetD S d e with
  | some o => give S o
  | none => ixL d e S
/-- o[k] = d of a list, a dict -/
def stoD (S : Store) (x y d : D) : Option Store :=
  match x with
  | .ref l => match S[l]? with
    | some (.lst ds) => match y with
      | .int k => (L2.ixN ds.length k).map fun j => S.set l (.lst (ds.set j d))
      | _ => none
    | some (.dk kvs) => if kvs.length < sizeLine then (keyD y).map fun k => S.set l (.dk (putG kvs k d)) else none
    | some (.dt kvs) => match y with
      | .tup ks => if kvs.length < sizeLine then (keysD ks).map fun k => S.set l (.dt (putG kvs k d)) else none
      | _ => none
    | _ => none
  | _ => none
def cut {α : Type} (xs : List α) (lo hi : Option Int) : List α := (xs.drop (HT.sIx xs.length 0 lo)).take (HT.sIx xs.length xs.length hi - HT.sIx xs.length 0 lo)
def slD (m : Bool) (d : D) (l h : Option Int) (S : Store) : R D :=
  match d with
  | .str s => .ok (.str (L2.cutS s l h)) S
  | .tup ds => .ok (.tup (cut ds l h)) S
  | d => match asQ S d with
    | some ds => mkL m (cut ds l h) S
    | none => .stuck
end Pyx
end
section
/-! The small syntax and its reckoning. -/
namespace Pyx
open PySem (Str sizeLine)

inductive Ty where
  | int | bool | str | tuple | list | dict
  deriving DecidableEq
/-- built-in functions -/
inductive Bi where
  | len | abs | max | min | sum | all | any | int | str | tuple | list | divmod | gcd | sorted
  deriving DecidableEq
/-- methods of built-in types -/
inductive Mt where
  | append | extend | pop | split | join | startswith | endswith | index
  deriving DecidableEq

mutual
inductive E where
  | never
  | var (i : Nat)
  | con (d : D)
  | glob (x : Str)
  | tup (es : Es)
  | lst (m : Bool) (es : Es)
  | bin (o : BOp) (a b : E)
  | neg (a : E)
  | not (a : E)
  | and (a b : E)
  | or (a b : E)
  | cmp (o : COp) (a b : E)
  | cmp2 (o p : COp) (a b c : E)
  | ite (c a b : E)
  | ix (a i : E)
  | sl (m : Bool) (a : E) (lo hi : Ob)
  | rev (a : E)
  | call (f : Str) (es : Es)
  | callk (f : Str) (es : Es) (ks : List Nat) (kes : Es)
  | bi (b : Bi) (m : Bool) (es : Es)
  | isin (a : E) (ts : List Ty)
  | mt (t : Mt) (m : Bool) (a : E) (es : Es)
  | comp (m : Bool) (own : List Nat) (e : E) (t : Tg) (s : Src) (cs : Es)
  | comp2 (m : Bool) (own : List Nat) (e : E) (t : Tg) (s : Src) (cs : Es) (own1 : List Nat) (t1 : Tg) (s1 : Src) (cs1 : Es)
  | fld (a : E) (f : Str) (cs : List Str)
  | mk (c : Str) (es : Es)
  | mth (a : E) (m : Str) (cs : List Str) (es : Es)
  | lset (a : E)
  | dnew (t : Bool)
  | dlit (t : Bool) (k v : E)
  | dgt (d k : E)
  | dgt2 (d k z : E)
  | xf (sl : Nat) (f : Str) (cs : List Str)
  | xis (sl : Nat) (ms : List (Str × Bool))
inductive Es where
  | nil
  | cons (e : E) (es : Es)
inductive Ob where
  | none
  | some (e : E)
inductive Tg where
  | var (i : Nat)
  | sub (o i : E)
  | tup (ts : Tgs)
inductive Tgs where
  | nil
  | cons (t : Tg) (ts : Tgs)
inductive Src where
  | val (e : E)
  | rng (es : Es)
  | enum (e : E)
  | zip (a b : E)
end

/-- what a try's body does with its answer -/
inductive Tk where
  | asg (i : Nat)
  | drop
  | ret
  deriving DecidableEq
mutual
inductive S where
  | never
  | asg (t : Tg) (e : E)
  | setf (o : E) (f : Str) (cs : List Str) (e : E)
  | expr (e : E)
  | ret (e : E)
  | retN
  | ite (c : E) (a b : Ss)
  | for (t : Tg) (s : Src) (b : Ss)
  | while (c : E) (b : Ss)
  | raise (c : Str) (f : Option Str) (es : Es)
  | tryx (k : Tk) (e : E) (ms : List (Str × Bool)) (sl : Nat) (h : Ss)
  | pass
  | brk
  | cont
inductive Ss where
  | nil
  | cons (s : S) (ss : Ss)
end

def Tgs.len : Tgs → Nat
  | .nil => 0
  | .cons _ ts => ts.len + 1
/-! ### built-ins by values -/
def isTy (d : D) (S : Store) (t : Ty) : Option Bool :=
  match d with
  | .ref l => (match S[l]? with
    | some (.lst _) => some (decide (t = .list))
    | _ => none)
  | .non => some false
  | .bl _ => some (decide (t = .int) || decide (t = .bool))
  | .int _ => some (decide (t = .int))
  | .str _ => some (decide (t = .str))
  | .tup _ => some (decide (t = .tuple))
  | .lst _ => some (decide (t = .list))
  | .fz _ => some (decide (t = .list))
def isTys (d : D) (S : Store) : List Ty → Option Bool
  | [] => some false
  | t :: ts => (isTy d S t).bind fun a => (isTys d S ts).map fun b => a || b
def maxI : List Int → Option Int
  | [] => none
  | i :: is => match maxI is with
    | none => some i
    | some j => some (if j > i then j else i)
def minI : List Int → Option Int
  | [] => none
  | i :: is => match minI is with
    | none => some i
    | some j => some (if j < i then j else i)

def lenD (S : Store) : D → R D
  | .str s => .ok (.int s.length) S
  | d => match asQ S d with
    | some ds => .ok (.int ds.length) S
    | none => .stuck
def intR (S : Store) : Option Int → R D
  | some i => .ok (.int i) S
  | none => .stuck
def intsD (S : Store) (d : D) : Option (List Int) := (asL S d).bind intsOf
def boolsD (S : Store) (d : D) : Option (List Bool) := (asL S d).bind boolsOf
def absD : D → Option Int
  | .int i => some (if i < 0 then -i else i)
  | _ => none
def maxD (S : Store) : List D → Option Int
  | [.int i, .int j] => some (if j > i then j else i)
  | [d] => (intsD S d).bind maxI
  | _ => none
def minD (S : Store) : List D → Option Int
  | [.int i, .int j] => some (if j < i then j else i)
  | [d] => (intsD S d).bind minI
  | _ => none
def intD : D → Option Int
  | .int i => some i
  | .bl b => some (if b then 1 else 0)
  | .str s => match PySem.intText? s with
    | some n => if s.length ≤ 640 then some n else none
    | none => none
  | _ => none
def strD (S : Store) : D → R D
  | .int i => if i.natAbs.log2 < 1920 then .ok (.str (toString i)) S else .stuck
  | _ => .stuck
def tupD (S : Store) : D → R D
  | .tup ds => .ok (.tup ds) S
  | d => match asQ S d with
    | some ds => .ok (.tup ds) S
    | none => .stuck
def kD : L2.Key → D
  | .inl i => .int i
  | .inr s => .str s
def kOk : L2.Key → Bool
  | .inl _ => true
  | .inr s => decide (s.length ≤ sizeLine)
/-- the keys of a dict -/
def dkeysD (S : Store) : D → Option (List D)
  | .ref l => (match S[l]? with
    | some (.dk kvs) => if kvs.all fun kv => kOk kv.1 then some (kvs.map fun kv => kD kv.1) else none
    | some (.dt kvs) => if kvs.all fun kv => decide (kv.1.length ≤ sizeLine) && kv.1.all kOk then some (kvs.map fun kv => .tup (kv.1.map kD)) else none
    | _ => none)
  | _ => none
def signsD (s : Str) : List D := s.cps.toList.map fun c => .str ⟨#[c]⟩
def listD (m : Bool) (S : Store) (d : D) : R D :=
  match dkeysD S d with
  | some ks => mkL m ks S
  | none => match d with
    | .str s => mkL m (signsD s) S
    | d => match asQ S d with
      | some ds => mkL m ds S
      | none => .stuck
def pairsD : List D → Option (List (Int × Int))
  | [] => some []
  | .tup [.int i, .int j] :: ds => (pairsD ds).map ((i, j) :: ·)
  | _ :: _ => none
def lexLe (p q : Int × Int) : Bool := decide (p.1 < q.1 ∨ (p.1 = q.1 ∧ p.2 ≤ q.2))
def prD (p : Int × Int) : D := .tup [.int p.1, .int p.2]
/-- numbers, pairs of numbers in order -/
def sortedD (m : Bool) (S : Store) (d : D) : R D :=
  match asL S d with
  | some ds => match intsOf ds with
    | some is => mkL m ((is.mergeSort fun a b => decide (a ≤ b)).map .int) S
    | none => match pairsD ds with
      | some ps => mkL m ((ps.mergeSort lexLe).map prD) S
      | none => .stuck
  | none => .stuck
def divmodD (S : Store) : D → D → R D
  | .int i, .int j => if 0 < j ∧ j < 1073741824 then .ok (.tup [.int (i / j), .int (i % j)]) S else .stuck
  | _, _ => .stuck
def gcdD : D → D → Option Int
  | .int i, .int j => some ((Nat.gcd i.natAbs j.natAbs : Nat) : Int)
  | _, _ => none
def biD (b : Bi) (m : Bool) (ds : List D) (S : Store) : R D :=
  match b with
  | .max => intR S (maxD S ds)
  | .min => intR S (minD S ds)
  | .len => (match ds with | [d] => lenD S d | _ => .stuck)
  | .abs => (match ds with | [d] => intR S (absD d) | _ => .stuck)
  | .sum => (match ds with | [d] => intR S ((intsD S d).map List.sum) | _ => .stuck)
  | .all => (match ds with | [d] => blR S ((boolsD S d).map fun bs => bs.all id) | _ => .stuck)
  | .any => (match ds with | [d] => blR S ((boolsD S d).map fun bs => bs.any id) | _ => .stuck)
  | .int => (match ds with | [d] => intR S (intD d) | _ => .stuck)
  | .str => (match ds with | [d] => strD S d | _ => .stuck)
  | .tuple => (match ds with | [d] => tupD S d | _ => .stuck)
  | .list => (match ds with | [d] => listD m S d | _ => .stuck)
  | .divmod => (match ds with | [d, e] => divmodD S d e | _ => .stuck)
  | .gcd => (match ds with | [d, e] => intR S (gcdD d e) | _ => .stuck)
  | .sorted => (match ds with | [d] => sortedD m S d | _ => .stuck)

def lstAt (S : Store) : D → Option (Nat × List D)
  | .ref l => (match S[l]? with
    | some (.lst ds) => some (l, ds)
    | _ => none)
  | _ => none
def appendD (d e : D) (S : Store) : R D :=
  match lstAt S d with
  | some (l, ds) => if ds.length < sizeLine then .ok .non (S.set l (.lst (ds ++ [e]))) else .stuck
  | none => .stuck
def extendD (d e : D) (S : Store) : R D :=
  match lstAt S d, asL S e with
  | some (l, ds), some es => if ds.length + es.length ≤ sizeLine then .ok .non (S.set l (.lst (ds ++ es))) else .stuck
  | _, _ => .stuck
def splitD (m : Bool) (d e : D) (S : Store) : R D :=
  match d, e with
  | .str s, .str t => if (t.length == 0) = false ∧ s.length + 2 ≤ sizeLine ∧ ((PySem.Txt.split s t).all fun z => decide (z.length ≤ sizeLine)) = true then mkL m ((PySem.Txt.split s t).map .str) S else .stuck
  | _, _ => .stuck
def joinD (d e : D) (S : Store) : R D :=
  match d, (asQ S e).bind strsOf with
  | .str s, some ys => if (ys.map (·.length)).sum + ys.length * s.length ≤ sizeLine ∧ (PySem.Txt.join s ys).length ≤ sizeLine then .ok (.str (PySem.Txt.join s ys)) S else .stuck
  | _, _ => .stuck
def startsD (d e : D) : Option Bool :=
  match d, e with
  | .str s, .str t => some (PySem.Txt.startswith s t)
  | _, _ => none
def endsD (d e : D) : Option Bool :=
  match d, e with
  | .str s, .str t => some (PySem.Txt.endswith s t)
  | _, _ => none
def mtD (t : Mt) (m : Bool) (d : D) (es : List D) (S : Store) : R D :=
  match t, es with
  | .append, [e] => appendD d e S
  | .extend, [e] => extendD d e S
  | .split, [e] => splitD m d e S
  | .join, [e] => joinD d e S
  | .startswith, [e] => blR S (startsD d e)
  | .endswith, [e] => blR S (endsD d e)
  | _, _ => .stuck

/-- is the receiver of the method's type -/
def mtTy (t : Mt) (d : D) (S : Store) : Bool :=
  match t, d with
  | .append, d => (lstAt S d).isSome
  | .extend, d => (lstAt S d).isSome
  | .pop, d => (lstAt S d).isSome
  | .index, d => (asL S d).isSome
  | .split, .str _ => true
  | .join, .str _ => true
  | .startswith, .str _ => true
  | .endswith, .str _ => true
  | _, _ => false

/-! ### the reckoning -/
abbrev Guard := Option (Nat × List D)
def Guard.ok (g : Guard) (S : Store) : Prop := match g with
  | none => True
  | some (l, ds) => S[l]? = some (.lst ds)
@[simp] theorem Guard.ok_none (S : Store) : Guard.ok none S = True := rfl
@[simp] theorem Guard.ok_some (S : Store) (l : Nat) (ds : List D) : Guard.ok (some (l, ds)) S = (S[l]? = some (.lst ds)) := rfl

inductive Fl where
  | nx (ρ : Env)
  | rt (d : D)
  | bk (ρ : Env)
  | ct (ρ : Env)

open Classical in
/-- what a comprehension makes of the items -/
noncomputable def compGo (g : Guard) (f : D → Store → R (List D)) : List D → Store → R (List D)
  | [], S => if g.ok S then .ok [] S else .stuck
  | x :: xs, S => if g.ok S then (f x S).bind fun ys S1 => (compGo g f xs S1).bind fun zs S2 => .ok (ys ++ zs) S2 else .stuck
open Classical in
noncomputable def forGo (g : Guard) (f : D → Env → Store → R Fl) : List D → Env → Store → R Fl
  | [], ρ, S => if g.ok S then .ok (.nx ρ) S else .stuck
  | x :: xs, ρ, S => if g.ok S then (f x ρ S).bind fun fl S1 => (match fl with
      | .nx ρ1 => forGo g f xs ρ1 S1
      | .ct ρ1 => forGo g f xs ρ1 S1
      | .bk ρ1 => .ok (.nx ρ1) S1
      | .rt d => .ok (.rt d) S1) else .stuck
def whileGo (c : Env → Store → R Bool) (f : Env → Store → R Fl) : Nat → Env → Store → R Fl
  | 0, _, _ => .stuck
  | n + 1, ρ, S => (c ρ S).bind fun b S1 => if b then (f ρ S1).bind fun fl S2 => (match fl with
      | .nx ρ1 => whileGo c f n ρ1 S2
      | .ct ρ1 => whileGo c f n ρ1 S2
      | .bk ρ1 => .ok (.nx ρ1) S2
      | .rt d => .ok (.rt d) S2) else .ok (.nx ρ) S1

open Classical in
/-- a while loop of as many turns as it takes -/
noncomputable def whileInf (W : Nat) (c : Env → Store → R Bool) (f : Env → Store → R Fl) (ρ : Env) (S : Store) : R Fl :=
  if h : ∃ n, whileGo c f (n + W) ρ S ≠ .stuck then whileGo c f (h.choose + W) ρ S else .stuck

def srcVal (S : Store) (d : D) : Option (List D × Guard) :=
  match d with
  | .tup ds => some (ds, none)
  | .lst ds => some (ds, none)
  | .fz ds => some (ds, none)
  | .str s => some (s.cps.toList.map fun c => .str ⟨#[c]⟩, none)
  | .ref l => match S[l]? with
    | some (.lst ds) => some (ds, some (l, ds))
    | _ => none
  | _ => none
def smallI (i : Int) : Bool := decide (-(2 ^ 62) ≤ i ∧ i < 2 ^ 62)
def rangeD (lo : Int) (n : Nat) : List D := (List.range n).map fun i => .int (lo + (i : Nat))
def enumFrom (n : Nat) : List D → List D
  | [] => []
  | d :: ds => .tup [.int n, d] :: enumFrom (n + 1) ds
def srcRng : List D → Option (List D)
  | [.int j] => if smallI j = true ∧ j.toNat ≤ sizeLine then some (rangeD 0 j.toNat) else none
  | [.int i, .int j] => if smallI i = true ∧ smallI j = true ∧ (j - i).toNat ≤ sizeLine then some (rangeD i (j - i).toNat) else none
  | _ => none
def srcEnum (S : Store) (d : D) : Option (List D × Guard) :=
  match d with
  | .str _ => none
  | d => (srcVal S d).map fun p => (enumFrom 0 p.1, p.2)
def wipeE (ρ : Env) : List Nat → Env
  | [] => ρ
  | v :: vs => (wipeE ρ vs).set v none
def condS (S : Store) (d : D) : R Bool := give S (truth S d)

/-- the name of a method in the table -/
def mkey (c m : Str) : Str := c ++ "." ++ m
def insAt (S : Store) : D → Option (Nat × Str × List (Str × D))
  | .ref l => (match S[l]? with
    | some (.ins c fs) => some (l, c, fs)
    | _ => none)
  | _ => none
def fldD (S : Store) (x : D) (f : Str) (cs : List Str) : Option D :=
  match insAt S x with
  | some (_, c, fs) => if cs.contains c then fs.lookup f else none
  | none => none
def mthD (S : Store) (x : D) (m : Str) (cs : List Str) : Option Str :=
  match insAt S x with
  | some (_, c, fs) => if cs.contains c && (fs.lookup m).isNone then some c else none
  | none => none
def putD (f : Str) (v : D) : List (Str × D) → List (Str × D)
  | [] => [(f, v)]
  | (g, x) :: r => if g = f then (g, v) :: r else (g, x) :: putD f v r
/-- the dict of one pair, at l -/
def dlitD (t : Bool) (l : Nat) (x y : D) (S : Store) : R D :=
  match t, S[l]? with
  | true, some (.dt []) => (match stoD S (.ref l) x y with
    | some S3 => .ok (.ref l) S3
    | none => .stuck)
  | false, some (.dk []) => (match stoD S (.ref l) x y with
    | some S3 => .ok (.ref l) S3
    | none => .stuck)
  | _, _ => .stuck
def isDct (S : Store) : D → Bool
  | .ref l => (match S[l]? with
    | some (.dk _) => true
    | some (.dt _) => true
    | _ => false)
  | _ => false
/-- tuples of numbers -/
def rowsOf : List D → Option (List (List Int))
  | [] => some []
  | .tup ds :: r => (intsOf ds).bind fun is => (rowsOf r).map (is :: ·)
  | _ :: _ => none
/-- each kind once -/
def kindsOf : List (List Int) → List (List Int)
  | [] => []
  | r :: rs => if r ∈ rs then kindsOf rs else r :: kindsOf rs
/-- how many kinds of rows -/
def lsetD (S : Store) (x : D) : Option D := (asL S x).bind fun ds => (rowsOf ds).bind fun rs => if (kindsOf rs).length < 63 then some (.int (kindsOf rs).length) else none
/-- what zip goes through -/
def zipSrc : D → D → Option (List D × Guard)
  | .tup xs, .tup ys => some (List.zipWith (fun x y => .tup [x, y]) xs ys, none)
  | .lst xs, .lst ys => some (List.zipWith (fun x y => .tup [x, y]) xs ys, none)
  | .tup xs, .lst ys => some (List.zipWith (fun x y => .tup [x, y]) xs ys, none)
  | .lst xs, .tup ys => some (List.zipWith (fun x y => .tup [x, y]) xs ys, none)
  | _, _ => none
/-- a field of the exception in a slot; whether it is of a class -/
def xfD (cs : List Str) (f : Str) : Option D → Option D
  | some (.tup [.str c, .str g, v]) => if g = f ∧ cs.contains c = true then some v else none
  | _ => none
def xisD (ms : List (Str × Bool)) : Option D → Option Bool
  | some (.tup (.str c :: _)) => ms.lookup c
  | _ => none
def tkEnd (k : Tk) (d : D) (ρ : Env) (S : Store) : R Fl :=
  match k with
  | .asg i => if i < ρ.length then .ok (.nx (ρ.set i (some d))) S else .stuck
  | .drop => .ok (.nx ρ) S
  | .ret => .ok (.rt d) S
def goneF (sl : Nat) : Fl → Fl
  | .nx ρ => .nx (ρ.set sl none)
  | .bk ρ => .bk (ρ.set sl none)
  | .ct ρ => .ct (ρ.set sl none)
  | .rt d => .rt d
section
variable (C : Str → List D → Store → R D) (G : Str → Option D) (W : Nat)
mutual
noncomputable def evE : E → Env → Store → R D
  | .never, _, _ => .stuck
  | .var i, ρ, S => give S (ρ[i]?.join)
  | .con d, _, S => .ok d S
  | .glob x, _, S => give S (G x)
  | .tup es, ρ, S => (evEs es ρ S).bind mkT
  | .lst m es, ρ, S => (evEs es ρ S).bind (mkL m)
  | .bin o a b, ρ, S => (evE a ρ S).bind fun x S1 => (evE b ρ S1).bind fun y S2 => binD o x y S2
  | .neg a, ρ, S => (evE a ρ S).bind fun x S1 => match x with
    | .int i => .ok (.int (-i)) S1
    | _ => .stuck
  | .not a, ρ, S => (evE a ρ S).bind fun x S1 => (condS S1 x).bind fun b S2 => .ok (.bl (!b)) S2
  | .and a b, ρ, S => (evE a ρ S).bind fun x S1 => (condS S1 x).bind fun c S2 => if c then evE b ρ S2 else .ok x S2
  | .or a b, ρ, S => (evE a ρ S).bind fun x S1 => (condS S1 x).bind fun c S2 => if c then .ok x S2 else evE b ρ S2
  | .cmp o a b, ρ, S => (evE a ρ S).bind fun x S1 => (evE b ρ S1).bind fun y S2 => cmpD o x y S2
  | .cmp2 o p a b c, ρ, S => (evE a ρ S).bind fun x S1 => (evE b ρ S1).bind fun y S2 => (give S2 (cmpB o x y S2)).bind fun r S3 => if r then (evE c ρ S3).bind fun z S4 => cmpD p y z S4 else .ok (.bl false) S3
  | .ite c a b, ρ, S => (evE c ρ S).bind fun x S1 => (condS S1 x).bind fun k S2 => if k then evE a ρ S2 else evE b ρ S2
  | .ix a i, ρ, S => (evE a ρ S).bind fun x S1 => (evE i ρ S1).bind fun y S2 => ixD x y S2
  | .sl m a lo hi, ρ, S => (evE a ρ S).bind fun x S1 => (evO lo ρ S1).bind fun l S2 => (evO hi ρ S2).bind fun h S3 => slD m x l h S3
  | .rev a, ρ, S => (evE a ρ S).bind fun x S1 => match x with
    | .tup ds => mkT ds.reverse S1
    | _ => .stuck
  | .call f es, ρ, S => (evEs es ρ S).bind fun ds S1 => C f ds S1
  | .callk f es ks kes, ρ, S => (evEs es ρ S).bind fun ds S1 => (evEs kes ρ S1).bind fun ws S2 => (give S2 (ks.mapM fun i => (ds ++ ws)[i]?)).bind fun us S3 => C f us S3
  | .bi b m es, ρ, S => (evEs es ρ S).bind fun ds S1 => biD b m ds S1
  | .isin a ts, ρ, S => (evE a ρ S).bind fun x S1 => (give S1 (isTys x S1 ts)).bind fun b S2 => .ok (.bl b) S2
  | .mt t m a es, ρ, S => (evE a ρ S).bind fun x S1 => if mtTy t x S1 then (evEs es ρ S1).bind fun ds S2 => mtD t m x ds S2 else .stuck
  | .comp m own e t s cs, ρ, S => (evSrc s ρ S).bind fun p S1 =>
      (compGo p.2 (fun x S2 => (asgT t x (wipeE ρ own) S2).bind fun ρ1 S3 => (evCs cs ρ1 S3).bind fun b S4 =>
        if b then (evE e ρ1 S4).bind fun y S5 => .ok [y] S5 else .ok [] S4) p.1 S1).noX.bind (mkL m)
  | .comp2 m own e t s cs own1 t1 s1 cs1, ρ, S => (evSrc s ρ S).bind fun p S1 => if p.1.length ≤ 1000 then
      (compGo p.2 (fun x S2 => (asgT t x (wipeE ρ own) S2).bind fun ρ1 S3 => (evCs cs ρ1 S3).bind fun b S4 =>
        if b then (evSrc s1 ρ1 S4).bind fun p1 S5 => if p1.1.length ≤ 1000 then
          compGo p1.2 (fun x1 S6 => (asgT t1 x1 (wipeE ρ1 own1) S6).bind fun ρ2 S7 => (evCs cs1 ρ2 S7).bind fun b1 S8 =>
            if b1 then (evE e ρ2 S8).bind fun y S9 => .ok [y] S9 else .ok [] S8) p1.1 S5 else .stuck
        else .ok [] S4) p.1 S1).noX.bind (mkL m) else .stuck
  | .fld a f cs, ρ, S => (evE a ρ S).bind fun x S1 => give S1 (fldD S1 x f cs)
  | .mk c es, ρ, S => (evEs es ρ S).bind fun ds S1 => (C (mkey c "__init__") (.ref S1.length :: ds) (S1 ++ [.ins c []])).bind fun v S2 => match v with
    | .non => .ok (.ref S1.length) S2
    | _ => .stuck
  | .mth a m cs es, ρ, S => (evE a ρ S).bind fun x S1 => match mthD S1 x m cs with
    | some c => (evEs es ρ S1).bind fun ds S2 => C (mkey c m) (x :: ds) S2
    | none => .stuck
  | .lset a, ρ, S => (evE a ρ S).bind fun x S1 => give S1 (lsetD S1 x)
  | .dnew t, _, S => .ok (.ref S.length) (S ++ [if t then .dt [] else .dk []])
  | .dlit t k v, ρ, S => (evE k ρ (S ++ [if t then .dt [] else .dk []])).bind fun x S1 => (evE v ρ S1).bind fun y S2 => dlitD t S.length x y S2
  | .dgt d k, ρ, S => (evE d ρ S).bind fun x S1 => if isDct S1 x then (evE k ρ S1).bind fun y S2 => (give S2 (dgetD S2 x y)).bind fun o S3 => .ok (o.getD .non) S3 else .stuck
  | .dgt2 d k z, ρ, S => (evE d ρ S).bind fun x S1 => if isDct S1 x then (evE k ρ S1).bind fun y S2 => (evE z ρ S2).bind fun w S3 => (give S3 (dgetD S3 x y)).bind fun o S4 => .ok (o.getD w) S4 else .stuck
  | .xf sl f cs, ρ, S => give S (xfD cs f (ρ[sl]?.join))
  | .xis sl ms, ρ, S => (give S (xisD ms (ρ[sl]?.join))).bind fun b S1 => .ok (.bl b) S1
noncomputable def evEs : Es → Env → Store → R (List D)
  | .nil, _, S => .ok [] S
  | .cons e es, ρ, S => (evE e ρ S).bind fun d S1 => (evEs es ρ S1).bind fun ds S2 => .ok (d :: ds) S2
noncomputable def evO : Ob → Env → Store → R (Option Int)
  | .none, _, S => .ok none S
  | .some e, ρ, S => (evE e ρ S).bind fun d S1 => (give S1 (asI d)).bind fun i S2 => .ok (some i) S2
/-- the tests of a clause -/
noncomputable def evCs : Es → Env → Store → R Bool
  | .nil, _, S => .ok true S
  | .cons e es, ρ, S => (evE e ρ S).bind fun d S1 => (condS S1 d).bind fun b S2 => if b then evCs es ρ S2 else .ok false S2
noncomputable def evSrc : Src → Env → Store → R (List D × Guard)
  | .val e, ρ, S => (evE e ρ S).bind fun d S1 => give S1 (srcVal S1 d)
  | .rng es, ρ, S => (evEs es ρ S).bind fun ds S1 => give S1 ((srcRng ds).map fun is => (is, none))
  | .enum e, ρ, S => (evE e ρ S).bind fun d S1 => give S1 (srcEnum S1 d)
  | .zip a b, ρ, S => (evE a ρ S).bind fun d S1 => (evE b ρ S1).bind fun e S2 => give S2 (zipSrc d e)
noncomputable def asgT : Tg → D → Env → Store → R Env
  | .var i, d, ρ, S => if i < ρ.length then .ok (ρ.set i (some d)) S else .stuck
  | .sub o i, d, ρ, S => (evE o ρ S).bind fun x S1 => (evE i ρ S1).bind fun y S2 => match stoD S2 x y d with
    | some S3 => .ok ρ S3
    | none => .stuck
  | .tup ts, d, ρ, S => match d with
    | .tup ds => if ds.length = ts.len then asgTs ts ds ρ S else .stuck
    | _ => .stuck
noncomputable def asgTs : Tgs → List D → Env → Store → R Env
  | .nil, [], ρ, S => .ok ρ S
  | .cons t ts, d :: ds, ρ, S => (asgT t d ρ S).bind fun ρ1 S1 => asgTs ts ds ρ1 S1
  | _, _, _, _ => .stuck
end
mutual
noncomputable def exS : S → Env → Store → R Fl
  | .never, _, _ => .stuck
  | .asg t e, ρ, S => (evE C G e ρ S).bind fun d S1 => (asgT C G t d ρ S1).bind fun ρ1 S2 => .ok (.nx ρ1) S2
  | .setf o f cs e, ρ, S => (evE C G e ρ S).bind fun d S1 => (evE C G o ρ S1).bind fun x S2 => match insAt S2 x with
    | some (l, c, fs) => if cs.contains c && decide (fs.length < 900) then .ok (.nx ρ) (S2.set l (.ins c (putD f d fs))) else .stuck
    | none => .stuck
  | .expr e, ρ, S => (evE C G e ρ S).bind fun _ S1 => .ok (.nx ρ) S1
  | .ret e, ρ, S => (evE C G e ρ S).bind fun d S1 => .ok (.rt d) S1
  | .retN, _, S => .ok (.rt .non) S
  | .ite c a b, ρ, S => (evE C G c ρ S).bind fun x S1 => (condS S1 x).bind fun k S2 => if k then exSs a ρ S2 else exSs b ρ S2
  | .for t s b, ρ, S => (evSrc C G s ρ S).bind fun p S1 => forGo p.2 (fun x ρ1 S2 => (asgT C G t x ρ1 S2).bind fun ρ2 S3 => exSs b ρ2 S3) p.1 ρ S1
  | .while c b, ρ, S => whileInf W (fun ρ1 S1 => (evE C G c ρ1 S1).bind fun x S2 => condS S2 x) (fun ρ1 S1 => exSs b ρ1 S1) ρ S
  | .raise c f es, ρ, S => (evEs C G es ρ S).bind fun ds S1 => match f, ds with
    | some f, [v] => .exc ⟨c, some (f, v)⟩ S1
    | none, [] => .exc ⟨c, none⟩ S1
    | _, _ => .stuck
  | .tryx k e ms sl h, ρ, S => match evE C G e ρ S with
    | .ok d S1 => tkEnd k d ρ S1
    | .exc x S1 => (match ms.lookup x.cls with
      | some true => if sl < ρ.length then (exSs h (ρ.set sl (some (codeX x))) S1).noX.bind fun fl S2 => .ok (goneF sl fl) S2 else .stuck
      | some false => .exc x S1
      | none => .stuck)
    | .stuck => .stuck
  | .pass, ρ, S => .ok (.nx ρ) S
  | .brk, ρ, S => .ok (.bk ρ) S
  | .cont, ρ, S => .ok (.ct ρ) S
noncomputable def exSs : Ss → Env → Store → R Fl
  | .nil, ρ, S => .ok (.nx ρ) S
  | .cons s ss, ρ, S => (exS s ρ S).bind fun fl S1 => match fl with
    | .nx ρ1 => exSs ss ρ1 S1
    | fl => .ok fl S1
end
end

/-! ### defs -/
structure Df where
  np : Nat
  nl : Nat
  body : Ss
  /-- a list that was made in the call is handed back for good -/
  fz : Bool
/-- what was made in a call and is not handed back goes -/
def closed (S : Store) (d : D) (S' : Store) : Prop :=
  d.bnd S.length = true ∧ S.length ≤ S'.length ∧ ∀ (i : Nat) (c : Cell), i < S.length → S'[i]? = some c → S[i]? = some c ∨ c.bnd S.length = true
open Classical in
noncomputable def gc (S : Store) (d : D) (S' : Store) : R D :=
  if closed S d S' then .ok d (S'.take S.length) else .ok d S'
open Classical in
/-- a list that was made in the call, and is handed back for good, changes no more -/
noncomputable def gcF (fz : Bool) (S : Store) (d : D) (S' : Store) : R D :=
  match fz, d with
  | true, .ref l => (match S'[l]? with
    | some (.lst ds) => if S.length ≤ l ∧ closed S (.lst ds) S' then .ok (.lst ds) (S'.take S.length) else gc S (.ref l) S'
    | _ => gc S (.ref l) S')
  | _, d => gc S d S'
noncomputable def callF (T : Str → Option Df) (G : Str → Option D) (W : Nat) : Nat → Str → List D → Store → R D
  | 0, _, _, _ => .stuck
  | n + 1, f, ds, S => match T f with
    | some fd => if ds.length = fd.np then (exSs (callF T G W n) G W fd.body (ds.map some ++ List.replicate (fd.nl - fd.np) none) S).bind fun fl S1 => (match fl with
        | .rt d => gcF fd.fz S d S1
        | .nx _ => gc S .non S1
        | _ => .stuck) else .stuck
    | none => .stuck
end Pyx
end
section
/-! How values and stores lie in the abstract heap. -/
namespace Pyx
open PySem L2

/-- the places of the store's cells, and places that nothing points to -/
structure Bk where
  b : List Addr
  z : List Addr
section
variable (K : PySem.W.Frag)
/-- a list of the written part -/
def KT (a : Addr) (xs : List V) : Prop := ∃ (o : Obj) (its : Array Value) (n : Nat), K.lookup a = some o ∧ o.cls = .type "tuple" ∧ o.data = .seq its n ∧ its.size ≤ sizeLine ∧ Vals xs its.toList
def KL (a : Addr) (xs : List V) : Prop := ∃ (o : Obj) (its : Array Value) (n : Nat), K.lookup a = some o ∧ o.cls = .type "list" ∧ o.dict = none ∧ o.data = .seq its n ∧ its.size ≤ sizeLine ∧ Vals xs its.toList
/-- a tuple at a, not in the store -/
def TpAt (β : Bk) (H : Hp) (a : Addr) (vs : List V) : Prop := a ∉ β.b ∧ H a = some (.tup vs)
def FzAt (β : Bk) (H : Hp) (a : Addr) (vs : List V) : Prop := (a ∉ β.b ∧ ∃ o, H a = some (.frz o (.lst vs))) ∨ KL K a vs
mutual
def Rep (β : Bk) (H : Hp) : D → V → Prop
  | .non, v => v = .non
  | .bl b, v => v = .bl b
  | .int i, v => v = .int i
  | .str s, v => v = .str s ∧ s.length ≤ sizeLine
  | .tup ds, v => ∃ a vs, v = .ref a ∧ TpAt β H a vs ∧ ds.length ≤ sizeLine ∧ Reps β H ds vs
  | .lst ds, v => ∃ a vs, v = .ref a ∧ (a ∉ β.b ∧ a ∉ β.z ∧ H a = some (.lst vs)) ∧ ds.length ≤ sizeLine ∧ Reps β H ds vs
  | .fz ds, v => ∃ a vs, v = .ref a ∧ FzAt K β H a vs ∧ ds.length ≤ sizeLine ∧ Reps β H ds vs
  | .ref l, v => ∃ a, β.b[l]? = some a ∧ v = .ref a
def Reps (β : Bk) (H : Hp) : List D → List V → Prop
  | [], vs => vs = []
  | d :: ds, vs => ∃ v vr, vs = v :: vr ∧ Rep β H d v ∧ Reps β H ds vr
end
def RepKV {κ : Type} (β : Bk) (H : Hp) : List (κ × D) → List (κ × V) → Prop
  | [], ws => ws = []
  | (k, d) :: r, ws => ∃ v wr, ws = (k, v) :: wr ∧ Rep K β H d v ∧ RepKV β H r wr
/-- the class of this name -/
def ClsAt (c : Str) (C : Addr) : Prop := PySem.W.nsIn K mainGlobals c = some (some (.ref C))
/-- what stands for a cell -/
def CellO (β : Bk) (H : Hp) : Cell → HO → Prop
  | .lst ds, o => ∃ vs, o = .lst vs ∧ ds.length ≤ sizeLine ∧ Reps K β H ds vs
  | .ins c fs, o => ∃ C dx ws, o = .ins C dx ws ∧ ClsAt K c C ∧ fs.length ≤ 900 ∧ RepKV K β H fs ws
  | .dk fs, o => ∃ ws, o = .dK ws ∧ fs.length ≤ sizeLine ∧ RepKV K β H fs ws
  | .dt fs, o => ∃ ws, o = .dT ws ∧ fs.length ≤ sizeLine ∧ RepKV K β H fs ws
def CRep (β : Bk) (H : Hp) (c : Cell) (a : Addr) : Prop := ∃ o, H a = some o ∧ CellO K β H c o
structure SRel (β : Bk) (H : Hp) (S : Store) : Prop where
  len : β.b.length = S.length
  nd : β.b.Nodup
  cell : ∀ (l : Nat) (c : Cell), S[l]? = some c → ∃ a, β.b[l]? = some a ∧ CRep K β H c a
  out : ∀ a ∈ β.z, a ∉ β.b ∧ ∃ xs, H a = some (.lst xs)
/-- what may have come: new places, nothing else but what the store holds -/
structure Ext (β : Bk) (H : Hp) (β' : Bk) (H' : Hp) : Prop where
  pre : ∃ new, β'.b = β.b ++ new
  hid : ∀ a ∈ β.z, a ∈ β'.z
  hnew : ∀ a ∈ β'.z, a ∉ β.z → a ∉ β.b → H a = none
  stay : ∀ a o, a ∉ β.b → H a = some o → H' a = some o
  new : ∀ a, a ∈ β'.b → a ∉ β.b → H a = none
/-- what stands for an exception: its class, its dict -/
def ExcRep (β : Bk) (H : Hp) (x : Exc) (cls : Value) (d : Option Addr) : Prop := ∃ C : Addr, cls = .ref C ∧ ClsAt K x.cls C ∧ match x.fld with
  | none => d = none
  | some (f, v) => ∃ (dx : Addr) (u : V), d = some dx ∧ dx ∉ β.b ∧ dx ∉ β.z ∧ H dx = some (.xd [(f, u)]) ∧ Rep K β H v u
end
/-- the exception at hand: its slot, its object, its class, its dict -/
structure Hand where
  slot : Nat
  ea : Addr
  cls : Value
  d : Option Addr
/-- what may be let out, what is at hand -/
class Fly where
  f : St → XK
  hand : Option Hand
def never : Fly := ⟨fun _ _ _ _ => False, none⟩
/-- no slot of an exception -/
def Off [Fly] (i : Nat) : Prop := ∀ h, Fly.hand = some h → h.slot ≠ i
section
variable (K : PySem.W.Frag)
structure ERel [Fly] (β : Bk) (H : Hp) (ρ : Env) (σ : St) : Prop where
  len : ρ.length = σ.length
  at_ : ∀ (i : Nat) (d : D), Off i → ρ[i]? = some (some d) → ∃ v, σ[i]? = some (some v) ∧ Rep K β H d v
  hnd : ∀ h, Fly.hand = some h → ∃ x : Exc, ρ[h.slot]? = some (some (codeX x)) ∧ σ[h.slot]? = some (some (.ref h.ea)) ∧ ExcRep K β H x h.cls h.d
end
section
variable {K : PySem.W.Frag} {β β' β'' : Bk} {H H' H'' : Hp} {S : Store}
theorem Ext.refl : Ext β H β H := ⟨⟨[], by simp⟩, fun _ m => m, fun _ m n _ => absurd m n, fun _ _ _ h => h, fun _ h n => absurd h n⟩
theorem Ext.mem (x : Ext β H β' H') {a : Addr} (h : a ∈ β.b) : a ∈ β'.b := by
  obtain ⟨n, e⟩ := x.pre; rw [e]; exact List.mem_append_left _ h
theorem Ext.get (x : Ext β H β' H') {l : Nat} {a : Addr} (h : β.b[l]? = some a) : β'.b[l]? = some a := by
  obtain ⟨n, e⟩ := x.pre
  rw [e, List.getElem?_append_left (List.getElem?_eq_some_iff.mp h).1]; exact h
theorem Ext.out (x : Ext β H β' H') {a : Addr} {o : HO} (n : a ∉ β.b) (h : H a = some o) : a ∉ β'.b := fun m => by
  rw [x.new a m n] at h; cases h
theorem Ext.outZ (x : Ext β H β' H') {a : Addr} {o : HO} (n : a ∉ β.z) (nb : a ∉ β.b) (h : H a = some o) : a ∉ β'.z := fun m => by
  rw [x.hnew a m n nb] at h; cases h
theorem Ext.trans (x : Ext β H β' H') (y : Ext β' H' β'' H'') : Ext β H β'' H'' := by
  refine ⟨?_, fun a m => y.hid a (x.hid a m), fun a m n nb => ?_, fun a o n h => y.stay a o (x.out n h) (x.stay a o n h), fun a m n => ?_⟩
  · obtain ⟨u, e⟩ := x.pre
    obtain ⟨w, e2⟩ := y.pre
    exact ⟨u ++ w, by rw [e2, e, List.append_assoc]⟩
  · by_cases h : a ∈ β'.z
    · exact x.hnew a h n nb
    · by_cases h2 : a ∈ β'.b
      · exact x.new a h2 nb
      · have e := y.hnew a m h h2
        cases q : H a with
        | none => rfl
        | some o => rw [x.stay a o nb q] at e; cases e
  · by_cases h : a ∈ β'.b
    · exact x.new a h n
    · have e := y.new a m h
      cases q : H a with
      | none => rfl
      | some o => rw [x.stay a o n q] at e; cases e
theorem TpAt.ext (x : Ext β H β' H') {a : Addr} {vs : List V} (h : TpAt β H a vs) : TpAt β' H' a vs := by
  exact ⟨x.out h.1 h.2, x.stay _ _ h.1 h.2⟩
theorem FzAt.ext (x : Ext β H β' H') {a : Addr} {vs : List V} (h : FzAt K β H a vs) : FzAt K β' H' a vs := by
  rcases h with ⟨n, o, h⟩ | h
  · exact .inl ⟨x.out n h, o, x.stay _ _ n h⟩
  · exact .inr h
theorem TpAt.sq {a : Addr} {vs : List V} (h : TpAt β H a vs) : SqT K H a vs := .inl (.inl h.2)
theorem FzAt.sq {a : Addr} {vs : List V} (h : FzAt K β H a vs) : SqL K H a vs := by
  rcases h with ⟨_, o, h⟩ | h
  · exact .inl (.inr ⟨o, h⟩)
  · exact .inr h
mutual
theorem Rep.ext (x : Ext β H β' H') : ∀ {d : D} {v : V}, Rep K β H d v → Rep K β' H' d v
  | .non, _, h => by simpa [Rep] using h
  | .bl _, _, h => by simpa [Rep] using h
  | .int _, _, h => by simpa [Rep] using h
  | .str _, _, h => by simpa [Rep] using h
  | .tup ds, _, h => by
    simp only [Rep] at h ⊢
    obtain ⟨a, vs, e, t, z, r⟩ := h
    exact ⟨a, vs, e, t.ext x, z, Reps.ext x r⟩
  | .lst ds, _, h => by
    simp only [Rep] at h ⊢
    obtain ⟨a, vs, e, ⟨n, n2, t⟩, z, r⟩ := h
    exact ⟨a, vs, e, ⟨x.out n t, x.outZ n2 n t, x.stay _ _ n t⟩, z, Reps.ext x r⟩
  | .fz ds, _, h => by
    simp only [Rep] at h ⊢
    obtain ⟨a, vs, e, t, z, r⟩ := h
    exact ⟨a, vs, e, t.ext x, z, Reps.ext x r⟩
  | .ref l, _, h => by
    simp only [Rep] at h ⊢
    obtain ⟨a, g, e⟩ := h
    exact ⟨a, x.get g, e⟩
theorem Reps.ext (x : Ext β H β' H') : ∀ {ds : List D} {vs : List V}, Reps K β H ds vs → Reps K β' H' ds vs
  | [], _, h => by simpa [Reps] using h
  | d :: ds, _, h => by
    simp only [Reps] at h ⊢
    obtain ⟨v, vr, e, r, t⟩ := h
    exact ⟨v, vr, e, Rep.ext x r, Reps.ext x t⟩
end
theorem ExcRep.ext (x : Ext β H β' H') {e : Exc} {cls : Value} {d : Option Addr} (h : ExcRep K β H e cls d) : ExcRep K β' H' e cls d := by
  obtain ⟨C, e1, k, h⟩ := h
  refine ⟨C, e1, k, ?_⟩
  split at h
  · exact h
  · obtain ⟨dx, u, e2, n1, n2, e3, r⟩ := h
    exact ⟨dx, u, e2, x.out n1 e3, x.outZ n2 n1 e3, x.stay _ _ n1 e3, r.ext x⟩
theorem ERel.ext {F : Fly} (x : Ext β H β' H') {ρ : Env} {σ : St} (h : ERel K β H ρ σ) : ERel K β' H' ρ σ :=
  ⟨h.len, fun i d o e => let ⟨v, g, r⟩ := h.at_ i d o e; ⟨v, g, r.ext x⟩, fun q e => let ⟨y, g1, g2, g3⟩ := h.hnd q e; ⟨y, g1, g2, g3.ext x⟩⟩
theorem off_of [Fly] (hn : Fly.hand = none) (i : Nat) : Off i := fun h e => by rw [hn] at e; cases e
/-- where no exception is at hand, whatever may be let out -/
theorem ERel.to {F F' : Fly} (hn : F.hand = none) (hn' : F'.hand = none) {ρ : Env} {σ : St} (h : @ERel K F β H ρ σ) : @ERel K F' β H ρ σ :=
  @ERel.mk K F' β H ρ σ (@ERel.len K F β H ρ σ h) (fun i d _ e => @ERel.at_ K F β H ρ σ h i d (@off_of F hn i) e) (fun q e => by rw [hn'] at e; cases e)
theorem Reps.length : ∀ {ds : List D} {vs : List V}, Reps K β H ds vs → ds.length = vs.length
  | [], _, h => by simp only [Reps] at h; subst h; rfl
  | d :: ds, _, h => by
    simp only [Reps] at h
    obtain ⟨v, vr, rfl, _, t⟩ := h
    simp [Reps.length t]
theorem Reps.get : ∀ {ds : List D} {vs : List V} {i : Nat} {d : D}, Reps K β H ds vs → ds[i]? = some d → ∃ v, vs[i]? = some v ∧ Rep K β H d v
  | [], _, i, d, _, e => by simp at e
  | d :: ds, _, i, e, h, g => by
    simp only [Reps] at h
    obtain ⟨v, vr, rfl, r, t⟩ := h
    cases i with
    | zero => simp at g; subst g; exact ⟨v, rfl, r⟩
    | succ i => simpa using Reps.get t (by simpa using g)
theorem Reps.getV : ∀ {ds : List D} {vs : List V} {i : Nat} {v : V}, Reps K β H ds vs → vs[i]? = some v → ∃ d, ds[i]? = some d ∧ Rep K β H d v
  | [], _, i, d, h, e => by simp only [Reps] at h; subst h; simp at e
  | d :: ds, _, i, e, h, g => by
    simp only [Reps] at h
    obtain ⟨v, vr, rfl, r, t⟩ := h
    cases i with
    | zero => simp at g; subst g; exact ⟨d, rfl, r⟩
    | succ i => simpa using Reps.getV t (by simpa using g)
theorem Reps.append : ∀ {ds es : List D} {vs ws : List V}, Reps K β H ds vs → Reps K β H es ws → Reps K β H (ds ++ es) (vs ++ ws)
  | [], _, _, _, h, g => by simp only [Reps] at h; subst h; exact g
  | d :: ds, es, _, ws, h, g => by
    simp only [Reps] at h
    obtain ⟨v, vr, rfl, r, t⟩ := h
    simp only [List.cons_append, Reps]
    exact ⟨v, vr ++ ws, rfl, r, Reps.append t g⟩
theorem Reps.take : ∀ {ds : List D} {vs : List V} (n : Nat), Reps K β H ds vs → Reps K β H (ds.take n) (vs.take n)
  | _, _, 0, _ => by simp [Reps]
  | [], _, n + 1, h => by simp only [Reps] at h; subst h; simp [Reps]
  | d :: ds, _, n + 1, h => by
    simp only [Reps] at h
    obtain ⟨v, vr, rfl, r, t⟩ := h
    simp only [List.take_succ_cons, Reps]
    exact ⟨v, _, rfl, r, Reps.take n t⟩
theorem Reps.drop : ∀ {ds : List D} {vs : List V} (n : Nat), Reps K β H ds vs → Reps K β H (ds.drop n) (vs.drop n)
  | _, _, 0, h => by simpa using h
  | [], _, n + 1, h => by simp only [Reps] at h; subst h; simp [Reps]
  | d :: ds, _, n + 1, h => by
    simp only [Reps] at h
    obtain ⟨v, vr, rfl, r, t⟩ := h
    simpa using Reps.drop n t
theorem Reps.set : ∀ {ds : List D} {vs : List V} {d : D} {v : V} (n : Nat), Reps K β H ds vs → Rep K β H d v → Reps K β H (ds.set n d) (vs.set n v)
  | [], _, _, _, n, h, _ => by simp only [Reps] at h; subst h; simp [Reps]
  | d :: ds, _, e, w, n, h, g => by
    simp only [Reps] at h
    obtain ⟨v, vr, rfl, r, t⟩ := h
    cases n with
    | zero => simp only [List.set_cons_zero, Reps]; exact ⟨w, vr, rfl, g, t⟩
    | succ n => simp only [List.set_cons_succ, Reps]; exact ⟨v, _, rfl, r, Reps.set n t g⟩
theorem Reps.one {d : D} {v : V} (h : Rep K β H d v) : Reps K β H [d] [v] := by simp only [Reps]; exact ⟨v, [], rfl, h, rfl⟩
theorem Reps.nil : Reps K β H [] [] := by simp [Reps]
theorem Reps.cons {d : D} {v : V} {ds : List D} {vs : List V} (h : Rep K β H d v) (t : Reps K β H ds vs) : Reps K β H (d :: ds) (v :: vs) := by simp only [Reps]; exact ⟨v, vs, rfl, h, t⟩
theorem Reps.uncons {d : D} {ds : List D} {vs : List V} (h : Reps K β H (d :: ds) vs) : ∃ v vr, vs = v :: vr ∧ Rep K β H d v ∧ Reps K β H ds vr := by simpa only [Reps] using h
theorem Reps.unnil {vs : List V} (h : Reps K β H [] vs) : vs = [] := by simpa only [Reps] using h

theorem SRel.mem (r : SRel K β H S) {a : Addr} (h : a ∈ β.b) : ∃ o, H a = some o := by
  obtain ⟨l, hl⟩ := List.mem_iff_getElem?.mp h
  have hs : l < S.length := by rw [← r.len]; exact (List.getElem?_eq_some_iff.mp hl).1
  obtain ⟨a', g, c⟩ := r.cell l S[l] (by simp [hs])
  rw [hl] at g; cases g
  obtain ⟨o, q, _⟩ := c
  exact ⟨o, q⟩
theorem SRel.fresh (r : SRel K β H S) {p : Addr} (h : H p = none) : p ∉ β.b := fun m => by
  obtain ⟨o, e⟩ := r.mem m; rw [h] at e; cases e
theorem SRel.freshZ (r : SRel K β H S) {p : Addr} (h : H p = none) : p ∉ β.z := fun m => by
  obtain ⟨_, o, e⟩ := r.out p m; rw [h] at e; cases e
theorem RepKV.map {κ : Type} (f : ∀ d v, Rep K β H d v → Rep K β' H' d v) : ∀ {fs : List (κ × D)} {ws : List (κ × V)}, RepKV K β H fs ws → RepKV K β' H' fs ws
  | [], _, h => h
  | (k, d) :: r, _, ⟨v, wr, e, h, t⟩ => ⟨v, wr, e, f d v h, RepKV.map f t⟩
theorem Reps.map (f : ∀ d v, Rep K β H d v → Rep K β' H' d v) : ∀ {ds : List D} {vs : List V}, Reps K β H ds vs → Reps K β' H' ds vs
  | [], _, h => by simpa only [Reps] using h
  | d :: ds, _, h => by
    simp only [Reps] at h ⊢
    obtain ⟨v, vr, e, r, t⟩ := h
    exact ⟨v, vr, e, f d v r, Reps.map f t⟩
theorem CellO.map (f : ∀ d v, Rep K β H d v → Rep K β' H' d v) {c : Cell} {o : HO} (h : CellO K β H c o) : CellO K β' H' c o := by
  cases c with
  | lst ds => obtain ⟨vs, e, z, r⟩ := h; exact ⟨vs, e, z, r.map f⟩
  | ins c fs => obtain ⟨C, dx, ws, e, k, z, r⟩ := h; exact ⟨C, dx, ws, e, k, z, r.map f⟩
  | dk fs => obtain ⟨ws, e, z, r⟩ := h; exact ⟨ws, e, z, r.map f⟩
  | dt fs => obtain ⟨ws, e, z, r⟩ := h; exact ⟨ws, e, z, r.map f⟩
theorem CellO.ext (x : Ext β H β' H') {c : Cell} {o : HO} (h : CellO K β H c o) : CellO K β' H' c o := h.map fun _ _ r => r.ext x
theorem CRep.ext (x : Ext β H β' H') {c : Cell} {a : Addr} (h : CRep K β H c a) (k : ∀ o, H a = some o → H' a = some o) : CRep K β' H' c a := by
  obtain ⟨o, q1, q2⟩ := h
  exact ⟨o, k _ q1, q2.ext x⟩
theorem CRep.lst {ds : List D} {a : Addr} (h : CRep K β H (.lst ds) a) : ∃ vs, H a = some (.lst vs) ∧ ds.length ≤ sizeLine ∧ Reps K β H ds vs := by
  obtain ⟨o, q, vs, rfl, z, r⟩ := h
  exact ⟨vs, q, z, r⟩
theorem CRep.ofLst {ds : List D} {a : Addr} {vs : List V} (h : H a = some (.lst vs)) (z : ds.length ≤ sizeLine) (r : Reps K β H ds vs) : CRep K β H (.lst ds) a := ⟨_, h, vs, rfl, z, r⟩
theorem CRep.not {c : Cell} {a : Addr} (h : CRep K β H c a) : (∀ vs, H a ≠ some (.tup vs)) ∧ (∀ o u, H a ≠ some (.frz o u)) := by
  obtain ⟨o, q, r⟩ := h
  cases c with
  | lst ds => obtain ⟨vs, rfl, _⟩ := r; exact ⟨fun _ e => (by rw [q] at e; cases e), fun _ _ e => (by rw [q] at e; cases e)⟩
  | ins c fs => obtain ⟨C, dx, ws, rfl, _⟩ := r; exact ⟨fun _ e => (by rw [q] at e; cases e), fun _ _ e => (by rw [q] at e; cases e)⟩
  | dk fs => obtain ⟨ws, rfl, _⟩ := r; exact ⟨fun _ e => (by rw [q] at e; cases e), fun _ _ e => (by rw [q] at e; cases e)⟩
  | dt fs => obtain ⟨ws, rfl, _⟩ := r; exact ⟨fun _ e => (by rw [q] at e; cases e), fun _ _ e => (by rw [q] at e; cases e)⟩
/-- a new object beside the store -/
theorem SRel.laid (r : SRel K β H S) {p : Addr} (h : H p = none) (o : HO) : Ext β H β (upd H p o) ∧ SRel K β (upd H p o) S ∧ p ∉ β.b ∧ p ∉ β.z := by
  have n := r.fresh h
  have k : ∀ {a : Addr} {u : HO}, H a = some u → upd H p o a = some u := fun {a u} e => by rw [upd_ne (ne_of_none e h)]; exact e
  have x : Ext β H β (upd H p o) := ⟨⟨[], by simp⟩, fun _ m => m, fun _ m n _ => absurd m n, fun a u _ e => k e, fun _ m k => absurd m k⟩
  refine ⟨x, ⟨r.len, r.nd, fun l c e => ?_, fun a m => ?_⟩, n, r.freshZ h⟩
  · obtain ⟨a, g, q⟩ := r.cell l c e
    exact ⟨a, g, q.ext x fun _ e => k e⟩
  · obtain ⟨h1, u, h2⟩ := r.out a m
    exact ⟨h1, u, k h2⟩
/-- a new object in the store -/
theorem SRel.pushC (r : SRel K β H S) {p : Addr} (h : H p = none) {c : Cell} {o : HO} (d : CellO K β H c o) :
    Ext β H ⟨β.b ++ [p], β.z⟩ (upd H p o) ∧ SRel K ⟨β.b ++ [p], β.z⟩ (upd H p o) (S ++ [c]) := by
  have n := r.fresh h
  have k : ∀ {a : Addr} {u : HO}, H a = some u → upd H p o a = some u := fun {a u} e => by rw [upd_ne (ne_of_none e h)]; exact e
  have x : Ext β H ⟨β.b ++ [p], β.z⟩ (upd H p o) := ⟨⟨[p], rfl⟩, fun _ m => m, fun _ m n _ => absurd m n, fun a u _ e => k e, fun a m k => by
    rcases List.mem_append.mp m with m | m
    · exact absurd m k
    · rw [List.mem_singleton.mp m]; exact h⟩
  refine ⟨x, ⟨by simp [r.len], List.nodup_append.mpr ⟨r.nd, by simp, by intro a ha b hb e; rw [List.mem_singleton.mp hb] at e; subst e; exact n ha⟩, fun l c' e => ?_, fun a m => ?_⟩⟩
  · by_cases hl : l < S.length
    · rw [List.getElem?_append_left hl] at e
      obtain ⟨a, g, q⟩ := r.cell l c' e
      exact ⟨a, by show (β.b ++ [p])[l]? = some a; rw [List.getElem?_append_left (by rw [r.len]; exact hl)]; exact g, q.ext x fun _ e => k e⟩
    · have hl2 : l = S.length := by
        have := (List.getElem?_eq_some_iff.mp e).1
        simp at this; omega
      subst hl2
      simp at e; subst e
      exact ⟨p, by rw [← r.len]; simp, _, upd_same, d.ext x⟩
  · obtain ⟨h1, u, h2⟩ := r.out a m
    refine ⟨fun q => ?_, u, k h2⟩
    rcases List.mem_append.mp q with q | q
    · exact h1 q
    · rw [List.mem_singleton.mp q, h] at h2; cases h2
/-- a new list in the store -/
theorem SRel.push (r : SRel K β H S) {p : Addr} (h : H p = none) {ds : List D} {vs : List V} (z : ds.length ≤ sizeLine) (d : Reps K β H ds vs) :
    Ext β H ⟨β.b ++ [p], β.z⟩ (upd H p (.lst vs)) ∧ SRel K ⟨β.b ++ [p], β.z⟩ (upd H p (.lst vs)) (S ++ [.lst ds]) := r.pushC (c := .lst ds) h ⟨vs, rfl, z, d⟩
/-- a cell of the store is written -/
theorem SRel.writeC (r : SRel K β H S) {l : Nat} {a : Addr} (g : β.b[l]? = some a) {c : Cell} {o : HO} (d : CellO K β H c o) :
    Ext β H β (upd H a o) ∧ SRel K β (upd H a o) (S.set l c) := by
  have m : a ∈ β.b := List.mem_of_getElem? g
  have x : Ext β H β (upd H a o) := ⟨⟨[], by simp⟩, fun _ m => m, fun _ m n _ => absurd m n, fun b u k e => by rw [upd_ne (show b ≠ a from fun q => k (by rw [q]; exact m))]; exact e, fun _ m k => absurd m k⟩
  refine ⟨x, ⟨by simp [r.len], r.nd, fun k c' e => ?_, fun b mb => ?_⟩⟩
  · by_cases hk : l = k
    · subst hk
      have hl : l < S.length := by rw [← r.len]; exact (List.getElem?_eq_some_iff.mp g).1
      rw [List.getElem?_set_self hl] at e
      cases e
      exact ⟨a, g, o, upd_same, d.ext x⟩
    · rw [List.getElem?_set_ne hk] at e
      obtain ⟨b, gb, q⟩ := r.cell k c' e
      have nab : b ≠ a := fun q => by
        subst q
        exact hk ((List.getElem?_inj (List.getElem?_eq_some_iff.mp g).1 r.nd).mp (g.trans gb.symm))
      exact ⟨b, gb, q.ext x fun _ e => by rw [upd_ne nab]; exact e⟩
  · obtain ⟨h1, u, h2⟩ := r.out b mb
    exact ⟨h1, u, by rw [upd_ne (show b ≠ a from fun q => h1 (by rw [q]; exact m))]; exact h2⟩
theorem SRel.write (r : SRel K β H S) {l : Nat} {a : Addr} (g : β.b[l]? = some a) {ds : List D} {vs : List V} (z : ds.length ≤ sizeLine) (d : Reps K β H ds vs) :
    Ext β H β (upd H a (.lst vs)) ∧ SRel K β (upd H a (.lst vs)) (S.set l (.lst ds)) := r.writeC (c := .lst ds) g ⟨vs, rfl, z, d⟩
/-! ### a place hidden, shown again, written while it is hidden -/
abbrev Bk.hide (β : Bk) (p : Addr) : Bk := ⟨β.b, p :: β.z⟩
theorem Ext.hide {p : Addr} {o : HO} (h : H p = none) : Ext β H (β.hide p) (upd H p o) :=
  ⟨⟨[], by simp⟩, fun a m => List.mem_cons_of_mem _ m, fun a m n _ => (List.mem_cons.mp m).elim (fun e => by rw [e]; exact h) fun q => absurd q n, fun a u _ e => by rw [upd_ne (ne_of_none e h)]; exact e, fun _ m k => absurd m k⟩
theorem SRel.hide {p : Addr} {xs : List V} (r : SRel K β H S) (h : H p = none) : SRel K (β.hide p) (upd H p (.lst xs)) S := by
  refine ⟨r.len, r.nd, fun l c e => ?_, fun a m => ?_⟩
  · obtain ⟨a, g, q⟩ := r.cell l c e
    exact ⟨a, g, q.ext (Ext.hide h) fun _ e => by rw [upd_ne (ne_of_none e h)]; exact e⟩
  · rcases List.mem_cons.mp m with rfl | m
    · exact ⟨r.fresh h, xs, upd_same⟩
    · obtain ⟨h1, u, h2⟩ := r.out a m
      exact ⟨h1, u, by rw [upd_ne (ne_of_none h2 h)]; exact h2⟩
mutual
theorem Rep.less {b z z' : List Addr} (k : ∀ a ∈ z', a ∈ z) : ∀ {d : D} {v : V}, Rep K ⟨b, z⟩ H d v → Rep K ⟨b, z'⟩ H d v
  | .non, _, r => by simpa [Rep] using r
  | .bl _, _, r => by simpa [Rep] using r
  | .int _, _, r => by simpa [Rep] using r
  | .str _, _, r => by simpa [Rep] using r
  | .tup ds, _, r => by
    simp only [Rep] at r ⊢
    obtain ⟨a, vs, e, t, q, r⟩ := r
    exact ⟨a, vs, e, t, q, Reps.less k r⟩
  | .lst ds, _, r => by
    simp only [Rep] at r ⊢
    obtain ⟨a, vs, e, ⟨n, n2, t⟩, q, r⟩ := r
    exact ⟨a, vs, e, ⟨n, fun m => n2 (k a m), t⟩, q, Reps.less k r⟩
  | .fz ds, _, r => by
    simp only [Rep] at r ⊢
    obtain ⟨a, vs, e, t, q, r⟩ := r
    exact ⟨a, vs, e, t, q, Reps.less k r⟩
  | .ref l, _, r => by simpa [Rep] using r
theorem Reps.less {b z z' : List Addr} (k : ∀ a ∈ z', a ∈ z) : ∀ {ds : List D} {vs : List V}, Reps K ⟨b, z⟩ H ds vs → Reps K ⟨b, z'⟩ H ds vs
  | [], _, r => by simpa [Reps] using r
  | d :: ds, _, r => by
    simp only [Reps] at r ⊢
    obtain ⟨v, vr, e, r, t⟩ := r
    exact ⟨v, vr, e, Rep.less k r, Reps.less k t⟩
end
theorem SRel.less {b z z' : List Addr} (k : ∀ a ∈ z', a ∈ z) (r : SRel K ⟨b, z⟩ H S) : SRel K ⟨b, z'⟩ H S :=
  ⟨r.len, r.nd, fun l c e => by
    obtain ⟨a, g, q⟩ := r.cell l c e
    obtain ⟨o, q1, q2⟩ := q
    exact ⟨a, g, o, q1, q2.map fun _ _ r => r.less k⟩, fun a m => r.out a (k a m)⟩
mutual
theorem Rep.poke {p : Addr} {xs ys : List V} (h : H p = some (.lst xs)) (np : p ∈ β.z) : ∀ {d : D} {v : V}, Rep K β H d v → Rep K β (upd H p (.lst ys)) d v
  | .non, _, r => by simpa [Rep] using r
  | .bl _, _, r => by simpa [Rep] using r
  | .int _, _, r => by simpa [Rep] using r
  | .str _, _, r => by simpa [Rep] using r
  | .tup ds, _, r => by
    simp only [Rep] at r ⊢
    obtain ⟨a, vs, e, t, z, r⟩ := r
    exact ⟨a, vs, e, ⟨t.1, by rw [upd_ne (ne_of t.2 h (by intro q; cases q))]; exact t.2⟩, z, Reps.poke h np r⟩
  | .lst ds, _, r => by
    simp only [Rep] at r ⊢
    obtain ⟨a, vs, e, ⟨n, n2, t⟩, z, r⟩ := r
    have ne : a ≠ p := fun q => n2 (by rw [q]; exact np)
    exact ⟨a, vs, e, ⟨n, n2, by rw [upd_ne ne]; exact t⟩, z, Reps.poke h np r⟩
  | .fz ds, _, r => by
    simp only [Rep] at r ⊢
    obtain ⟨a, vs, e, t, z, r⟩ := r
    refine ⟨a, vs, e, ?_, z, Reps.poke h np r⟩
    rcases t with ⟨n, u, t⟩ | t
    · exact .inl ⟨n, u, by rw [upd_ne (ne_of t h (by intro q; cases q))]; exact t⟩
    · exact .inr t
  | .ref l, _, r => by simpa [Rep] using r
theorem Reps.poke {p : Addr} {xs ys : List V} (h : H p = some (.lst xs)) (np : p ∈ β.z) : ∀ {ds : List D} {vs : List V}, Reps K β H ds vs → Reps K β (upd H p (.lst ys)) ds vs
  | [], _, r => by simpa [Reps] using r
  | d :: ds, _, r => by
    simp only [Reps] at r ⊢
    obtain ⟨v, vr, e, r, t⟩ := r
    exact ⟨v, vr, e, Rep.poke h np r, Reps.poke h np t⟩
end
theorem SRel.poke {p : Addr} {xs ys : List V} (r : SRel K β H S) (h : H p = some (.lst xs)) (m : p ∈ β.z) : SRel K β (upd H p (.lst ys)) S := by
  have np : p ∉ β.b := (r.out p m).1
  refine ⟨r.len, r.nd, fun l c e => ?_, fun a m => ?_⟩
  · obtain ⟨a, g, q⟩ := r.cell l c e
    refine ⟨a, g, ?_⟩
    have ne : a ≠ p := fun q => np (by rw [← q]; exact List.mem_of_getElem? g)
    obtain ⟨o, q1, q2⟩ := q
    exact ⟨o, by rw [upd_ne ne]; exact q1, q2.map fun _ _ r => r.poke h m⟩
  · obtain ⟨h1, u, h2⟩ := r.out a m
    by_cases e : a = p
    · subst e; exact ⟨h1, _, upd_same⟩
    · exact ⟨h1, u, by rw [upd_ne e]; exact h2⟩
mutual
theorem Rep.move {b z z' : List Addr} {p : Addr} {xs : List V} (m : p ∈ z) (k : ∀ a ∈ z', a ∈ z) (h : H p = some (.lst xs)) : ∀ {d : D} {v : V}, Rep K ⟨b, z⟩ H d v → Rep K ⟨b ++ [p], z'⟩ H d v
  | .non, _, r => by simpa [Rep] using r
  | .bl _, _, r => by simpa [Rep] using r
  | .int _, _, r => by simpa [Rep] using r
  | .str _, _, r => by simpa [Rep] using r
  | .tup ds, _, r => by
    simp only [Rep] at r ⊢
    obtain ⟨a, vs, e, t, q, r⟩ := r
    refine ⟨a, vs, e, ⟨fun q => ?_, t.2⟩, q, Reps.move m k h r⟩
    rcases List.mem_append.mp q with q | q
    · exact t.1 q
    · have t2 := t.2
      rw [List.mem_singleton.mp q, h] at t2; cases t2
  | .lst ds, _, r => by
    simp only [Rep] at r ⊢
    obtain ⟨a, vs, e, ⟨n, n2, t⟩, q, r⟩ := r
    refine ⟨a, vs, e, ⟨fun q => ?_, fun q => n2 (k a q), t⟩, q, Reps.move m k h r⟩
    rcases List.mem_append.mp q with q | q
    · exact n q
    · rw [List.mem_singleton.mp q] at n2; exact n2 m
  | .fz ds, _, r => by
    simp only [Rep] at r ⊢
    obtain ⟨a, vs, e, t, q, r⟩ := r
    refine ⟨a, vs, e, ?_, q, Reps.move m k h r⟩
    rcases t with ⟨n, o, t⟩ | t
    · refine .inl ⟨fun q => ?_, o, t⟩
      rcases List.mem_append.mp q with q | q
      · exact n q
      · rw [List.mem_singleton.mp q, h] at t; cases t
    · exact .inr t
  | .ref l, _, r => by
    simp only [Rep] at r ⊢
    obtain ⟨a, g, e⟩ := r
    exact ⟨a, by rw [List.getElem?_append_left (List.getElem?_eq_some_iff.mp g).1]; exact g, e⟩
theorem Reps.move {b z z' : List Addr} {p : Addr} {xs : List V} (m : p ∈ z) (k : ∀ a ∈ z', a ∈ z) (h : H p = some (.lst xs)) : ∀ {ds : List D} {vs : List V}, Reps K ⟨b, z⟩ H ds vs → Reps K ⟨b ++ [p], z'⟩ H ds vs
  | [], _, r => by simpa [Reps] using r
  | d :: ds, _, r => by
    simp only [Reps] at r ⊢
    obtain ⟨v, vr, e, r, t⟩ := r
    exact ⟨v, vr, e, Rep.move m k h r, Reps.move m k h t⟩
end
/-- a hidden list comes into the store -/
theorem SRel.move {b z z' : List Addr} {p : Addr} {ds : List D} {xs : List V} (r : SRel K ⟨b, z⟩ H S) (m : p ∈ z) (k : ∀ a ∈ z', a ∈ z) (m' : p ∉ z') (h : H p = some (.lst xs)) (l : ds.length ≤ sizeLine) (d : Reps K ⟨b, z⟩ H ds xs) :
    SRel K ⟨b ++ [p], z'⟩ H (S ++ [.lst ds]) := by
  have np : p ∉ b := (r.out p m).1
  have hlen : b.length = S.length := r.len
  have hnd : b.Nodup := r.nd
  refine ⟨by simp [hlen], List.nodup_append.mpr ⟨hnd, by simp, by intro a ha c hc e; rw [List.mem_singleton.mp hc] at e; subst e; exact np ha⟩, fun i c e => ?_, fun a ma => ?_⟩
  · by_cases hl : i < S.length
    · rw [List.getElem?_append_left hl] at e
      obtain ⟨a, g, q⟩ := r.cell i c e
      have g : b[i]? = some a := g
      refine ⟨a, by show (b ++ [p])[i]? = some a; rw [List.getElem?_append_left (by rw [hlen]; exact hl)]; exact g, ?_⟩
      obtain ⟨o, q1, q2⟩ := q
      exact ⟨o, q1, q2.map fun _ _ r => r.move m k h⟩
    · have hl2 : i = S.length := by
        have := (List.getElem?_eq_some_iff.mp e).1
        simp at this; omega
      subst hl2
      simp at e; subst e
      exact ⟨p, by show (b ++ [p])[S.length]? = some p; rw [← hlen]; simp, _, h, xs, rfl, l, d.move m k h⟩
  · obtain ⟨h1, u, h2⟩ := r.out a (k a ma)
    refine ⟨fun q => ?_, u, h2⟩
    rcases List.mem_append.mp q with q | q
    · exact h1 q
    · rw [List.mem_singleton.mp q] at ma; exact m' ma
theorem ExcRep.poke {p : Addr} {xs ys : List V} {e : Exc} {cls : Value} {d : Option Addr} (r : ExcRep K β H e cls d) (h : H p = some (.lst xs)) (m : p ∈ β.z) : ExcRep K β (upd H p (.lst ys)) e cls d := by
  obtain ⟨C, e1, k, r⟩ := r
  refine ⟨C, e1, k, ?_⟩
  split at r
  · exact r
  · obtain ⟨dx, u, e2, n1, n2, e3, r⟩ := r
    exact ⟨dx, u, e2, n1, n2, by rw [upd_ne (ne_of e3 h (by intro q; cases q))]; exact e3, r.poke h m⟩
theorem ERel.poke {F : Fly} {p : Addr} {xs ys : List V} {ρ : Env} {σ : St} (r : ERel K β H ρ σ) (h : H p = some (.lst xs)) (m : p ∈ β.z) : ERel K β (upd H p (.lst ys)) ρ σ :=
  ⟨r.len, fun i d o e => let ⟨v, g, q⟩ := r.at_ i d o e; ⟨v, g, q.poke h m⟩, fun q e => let ⟨y, g1, g2, g3⟩ := r.hnd q e; ⟨y, g1, g2, g3.poke h m⟩⟩
/-! ### as Ext, but hidden lists may have been written -/
structure Ext2 (β : Bk) (H : Hp) (β' : Bk) (H' : Hp) : Prop where
  pre : ∃ new, β'.b = β.b ++ new
  hid : ∀ a ∈ β.z, a ∈ β'.z
  hnew : ∀ a ∈ β'.z, a ∉ β.z → a ∉ β.b → H a = none
  stay : ∀ a o, a ∉ β.b → a ∉ β.z → H a = some o → H' a = some o
  new : ∀ a, a ∈ β'.b → a ∉ β.b → H a = none
  zl : ∀ a ∈ β.z, (∃ xs, H a = some (.lst xs)) ∧ ∃ ys, H' a = some (.lst ys)
theorem Ext.to2 (x : Ext β H β' H') (s : SRel K β H S) : Ext2 β H β' H' :=
  ⟨x.pre, x.hid, x.hnew, fun a o n _ h => x.stay a o n h, x.new, fun a m => by
    obtain ⟨h1, xs, h2⟩ := s.out a m
    exact ⟨⟨xs, h2⟩, xs, x.stay _ _ h1 h2⟩⟩
theorem Ext2.get (x : Ext2 β H β' H') {l : Nat} {a : Addr} (h : β.b[l]? = some a) : β'.b[l]? = some a := by
  obtain ⟨n, e⟩ := x.pre
  rw [e, List.getElem?_append_left (List.getElem?_eq_some_iff.mp h).1]; exact h
theorem Ext2.out (x : Ext2 β H β' H') {a : Addr} {o : HO} (n : a ∉ β.b) (h : H a = some o) : a ∉ β'.b := fun m => by
  rw [x.new a m n] at h; cases h
theorem Ext2.outZ (x : Ext2 β H β' H') {a : Addr} {o : HO} (n : a ∉ β.z) (nb : a ∉ β.b) (h : H a = some o) : a ∉ β'.z := fun m => by
  rw [x.hnew a m n nb] at h; cases h
theorem Ext2.trans (x : Ext2 β H β' H') (y : Ext2 β' H' β'' H'') : Ext2 β H β'' H'' := by
  refine ⟨?_, fun a m => y.hid a (x.hid a m), fun a m n nb => ?_, fun a o n nz h => y.stay a o (x.out n h) (x.outZ nz n h) (x.stay a o n nz h), fun a m n => ?_, fun a m => ⟨(x.zl a m).1, (y.zl a (x.hid a m)).2⟩⟩
  · obtain ⟨u, e⟩ := x.pre
    obtain ⟨w, e2⟩ := y.pre
    exact ⟨u ++ w, by rw [e2, e, List.append_assoc]⟩
  · by_cases h : a ∈ β'.z
    · exact x.hnew a h n nb
    · by_cases h2 : a ∈ β'.b
      · exact x.new a h2 nb
      · have e := y.hnew a m h h2
        cases q : H a with
        | none => rfl
        | some o => rw [x.stay a o nb n q] at e; cases e
  · by_cases h : a ∈ β'.b
    · exact x.new a h n
    · have e := y.new a m h
      by_cases hz : a ∈ β.z
      · obtain ⟨_, ys, q⟩ := x.zl a hz
        rw [q] at e; cases e
      · cases q : H a with
        | none => rfl
        | some o => rw [x.stay a o n hz q] at e; cases e
theorem TpAt.ext2 (x : Ext2 β H β' H') {a : Addr} {vs : List V} (h : TpAt β H a vs) : TpAt β' H' a vs := by
  have nz : a ∉ β.z := fun m => by
    obtain ⟨xs, e⟩ := (x.zl a m).1
    rw [h.2] at e; cases e
  exact ⟨x.out h.1 h.2, x.stay _ _ h.1 nz h.2⟩
theorem FzAt.ext2 (x : Ext2 β H β' H') {a : Addr} {vs : List V} (h : FzAt K β H a vs) : FzAt K β' H' a vs := by
  rcases h with ⟨n, o, h⟩ | h
  · have nz : a ∉ β.z := fun m => by
      obtain ⟨xs, e⟩ := (x.zl a m).1
      rw [h] at e; cases e
    exact .inl ⟨x.out n h, o, x.stay _ _ n nz h⟩
  · exact .inr h
mutual
theorem Rep.ext2 (x : Ext2 β H β' H') : ∀ {d : D} {v : V}, Rep K β H d v → Rep K β' H' d v
  | .non, _, h => by simpa [Rep] using h
  | .bl _, _, h => by simpa [Rep] using h
  | .int _, _, h => by simpa [Rep] using h
  | .str _, _, h => by simpa [Rep] using h
  | .tup ds, _, h => by
    simp only [Rep] at h ⊢
    obtain ⟨a, vs, e, t, z, r⟩ := h
    exact ⟨a, vs, e, t.ext2 x, z, Reps.ext2 x r⟩
  | .lst ds, _, h => by
    simp only [Rep] at h ⊢
    obtain ⟨a, vs, e, ⟨n, n2, t⟩, z, r⟩ := h
    exact ⟨a, vs, e, ⟨x.out n t, x.outZ n2 n t, x.stay _ _ n n2 t⟩, z, Reps.ext2 x r⟩
  | .fz ds, _, h => by
    simp only [Rep] at h ⊢
    obtain ⟨a, vs, e, t, z, r⟩ := h
    exact ⟨a, vs, e, t.ext2 x, z, Reps.ext2 x r⟩
  | .ref l, _, h => by
    simp only [Rep] at h ⊢
    obtain ⟨a, g, e⟩ := h
    exact ⟨a, x.get g, e⟩
theorem Reps.ext2 (x : Ext2 β H β' H') : ∀ {ds : List D} {vs : List V}, Reps K β H ds vs → Reps K β' H' ds vs
  | [], _, h => by simpa [Reps] using h
  | d :: ds, _, h => by
    simp only [Reps] at h ⊢
    obtain ⟨v, vr, e, r, t⟩ := h
    exact ⟨v, vr, e, Rep.ext2 x r, Reps.ext2 x t⟩
end
theorem ExcRep.ext2 (x : Ext2 β H β' H') {e : Exc} {cls : Value} {d : Option Addr} (h : ExcRep K β H e cls d) : ExcRep K β' H' e cls d := by
  obtain ⟨C, e1, k, h⟩ := h
  refine ⟨C, e1, k, ?_⟩
  split at h
  · exact h
  · obtain ⟨dx, u, e2, n1, n2, e3, r⟩ := h
    exact ⟨dx, u, e2, x.out n1 e3, x.outZ n2 n1 e3, x.stay _ _ n1 n2 e3, r.ext2 x⟩
theorem ERel.ext2 {F : Fly} (x : Ext2 β H β' H') {ρ : Env} {σ : St} (h : ERel K β H ρ σ) : ERel K β' H' ρ σ :=
  ⟨h.len, fun i d o e => let ⟨v, g, r⟩ := h.at_ i d o e; ⟨v, g, r.ext2 x⟩, fun q e => let ⟨y, g1, g2, g3⟩ := h.hnd q e; ⟨y, g1, g2, g3.ext2 x⟩⟩
/-- a hidden list is written -/
theorem Ext2.poke {p : Addr} {xs ys : List V} (r : SRel K β H S) (h : H p = some (.lst xs)) (m : p ∈ β.z) : Ext2 β H β (upd H p (.lst ys)) :=
  ⟨⟨[], by simp⟩, fun _ m => m, fun _ m n _ => absurd m n, fun a o _ nz e => by rw [upd_ne (show a ≠ p from fun q => nz (by rw [q]; exact m))]; exact e, fun _ m n => absurd m n, fun a ma => by
    obtain ⟨_, zs, h2⟩ := r.out a ma
    refine ⟨⟨zs, h2⟩, ?_⟩
    by_cases e : a = p
    · exact ⟨ys, by rw [e, upd_same]⟩
    · exact ⟨zs, by rw [upd_ne e]; exact h2⟩⟩
end
end Pyx
end
section
/-! What an answer of the reckoning means for the machine; the operators by values. -/
namespace Pyx
open PySem L2

abbrev XW := Exc → Bk → Hp → Prop
section
variable {α τ : Type} (K : PySem.W.Frag) (Rp : Bk → Hp → α → τ → Prop) (E : XW)
def Go (β : Bk) (H : Hp) (r : R α) (Q : τ → Hp → Prop) : Prop :=
  match r with
  | .ok a S' => ∀ t β' H', Ext β H β' H' → Rp β' H' a t → SRel K β' H' S' → Q t H'
  | .exc x S' => ∀ β' H', Ext β H β' H' → SRel K β' H' S' → E x β' H'
  | .stuck => False
end
section
variable {α α' τ τ' : Type} {K : PySem.W.Frag} {Rp : Bk → Hp → α → τ → Prop} {Rq : Bk → Hp → α' → τ' → Prop} {E : XW} {β β' : Bk} {H H' : Hp} {S : Store}
theorem Go.mono {r : R α} {Q Q' : τ → Hp → Prop} (h : Go K Rp E β H r Q) (q : ∀ t H, Q t H → Q' t H) : Go K Rp E β H r Q' := by
  cases r with
  | ok a S' => exact fun t b c x y z => q _ _ (h t b c x y z)
  | exc x S' => exact h
  | stuck => exact h
theorem Go.ext {r : R α} {Q : τ → Hp → Prop} (h : Go K Rp E β H r Q) (x : Ext β H β' H') : Go K Rp E β' H' r Q := by
  cases r with
  | ok a S' => exact fun t b c y => h t b c (x.trans y)
  | exc e S' => exact fun b c y => h b c (x.trans y)
  | stuck => exact h
/-- what stands behind the first of two steps -/
def Bh (K : PySem.W.Frag) (Rp : Bk → Hp → α → τ → Prop) (Rq : Bk → Hp → α' → τ' → Prop) (E : XW) (β : Bk) (H : Hp) (f : α → Store → R α') (Q : τ' → Hp → Prop) (t : τ) (H1 : Hp) : Prop :=
  ∃ β1 S1 a, Ext β H β1 H1 ∧ Rp β1 H1 a t ∧ SRel K β1 H1 S1 ∧ Go K Rq E β1 H1 (f a S1) Q
theorem Go.bind {r : R α} {f : α → Store → R α'} {Q : τ' → Hp → Prop} (h : Go K Rq E β H (r.bind f) Q) : Go K Rp E β H r (Bh K Rp Rq E β H f Q) := by
  cases r with
  | ok a S' => exact fun t b c x y z => ⟨b, S', a, x, y, z, Go.ext h x⟩
  | exc x S' => exact h
  | stuck => exact h
theorem Go.same {a : α} {t : τ} {Q : τ → Hp → Prop} (h : Go K Rp E β H (.ok a S) Q) (r : Rp β H a t) (s : SRel K β H S) : Q t H := h t β H Ext.refl r s
theorem Go.give {o : Option α} {Q : τ → Hp → Prop} (h : Go K Rp E β H (give S o) Q) : ∃ a, o = some a ∧ Go K Rp E β H (.ok a S) Q := by
  cases o with
  | none => exact h.elim
  | some a => exact ⟨a, rfl, h⟩
end
/-- a choice that is not told by a heap -/
def Is {α : Type} : Bk → Hp → α → α → Prop := fun _ _ a b => a = b
section
variable {K : PySem.W.Frag} {E : XW} {β : Bk} {H : Hp} {S : Store} {Q : V → Hp → Prop}
theorem go_lst {ds : List D} {vs : List V} {m : Bool} (s : SRel K β H S) (r : Reps K β H ds vs) (h : Go K (Rep K) E β H (mkL m ds S) Q) : vs.length ≤ sizeLine ∧ ∀ p, H p = none → Q (.ref p) (upd H p (.lst vs)) := by
  unfold mkL at h
  by_cases z : ds.length ≤ sizeLine
  · rw [if_pos z] at h
    refine ⟨by rw [← r.length]; exact z, fun p hp => ?_⟩
    cases m with
    | true =>
      obtain ⟨x, s'⟩ := s.push hp z r
      exact h (.ref p) _ _ x (by simp only [Rep]; exact ⟨p, by rw [← s.len]; simp, rfl⟩) s'
    | false =>
      obtain ⟨x, s', n⟩ := s.laid hp (.lst vs)
      exact h (.ref p) _ _ x (by simp only [Rep]; exact ⟨p, vs, rfl, ⟨n.1, n.2, upd_same⟩, z, r.ext x⟩) s'
  · rw [if_neg z] at h; exact h.elim
theorem go_tup {ds : List D} {vs : List V} (s : SRel K β H S) (r : Reps K β H ds vs) (z : ds.length ≤ sizeLine) (h : Go K (Rep K) E β H (.ok (.tup ds) S) Q) : ∀ p, H p = none → Q (.ref p) (upd H p (.tup vs)) := fun p hp => by
  obtain ⟨x, s', n⟩ := s.laid hp (.tup vs)
  exact h (.ref p) _ _ x (by simp only [Rep]; exact ⟨p, vs, rfl, ⟨n.1, upd_same⟩, z, r.ext x⟩) s'
theorem go_new {ds : List D} {vs : List V} (s : SRel K β H S) (r : Reps K β H ds vs) (z : ds.length ≤ sizeLine) (h : Go K (Rep K) E β H (.ok (.lst ds) S) Q) : ∀ p, H p = none → Q (.ref p) (upd H p (.lst vs)) := fun p hp => by
  obtain ⟨x, s', n⟩ := s.laid hp (.lst vs)
  exact h (.ref p) _ _ x (by simp only [Rep]; exact ⟨p, vs, rfl, ⟨n.1, n.2, upd_same⟩, z, r.ext x⟩) s'
theorem go_mkT {ds : List D} {vs : List V} (s : SRel K β H S) (r : Reps K β H ds vs) (h : Go K (Rep K) E β H (mkT ds S) Q) : vs.length ≤ sizeLine ∧ ∀ p, H p = none → Q (.ref p) (upd H p (.tup vs)) := by
  unfold mkT at h
  by_cases z : ds.length ≤ sizeLine
  · rw [if_pos z] at h
    exact ⟨by rw [← r.length]; exact z, go_tup s r z h⟩
  · rw [if_neg z] at h; exact h.elim
/-- the items of a list that may be read in every way -/
theorem asL_rep (s : SRel K β H S) {d : D} {v : V} {ds : List D} (r : Rep K β H d v) (e : asL S d = some ds) : ∃ a vs, v = .ref a ∧ H a = some (.lst vs) ∧ ds.length ≤ sizeLine ∧ Reps K β H ds vs := by
  cases d with
  | lst es =>
    simp only [asL, Option.some.injEq] at e; subst e
    simp only [Rep] at r
    obtain ⟨a, vs, rfl, ⟨_, _, h⟩, z, r⟩ := r
    exact ⟨a, vs, rfl, h, z, r⟩
  | ref l =>
    simp only [Rep] at r
    obtain ⟨a, g, rfl⟩ := r
    simp only [asL] at e
    split at e
    · rename_i es q
      cases e
      obtain ⟨a', g', qc⟩ := s.cell l _ q
      obtain ⟨vs, h, z, r⟩ := qc.lst
      rw [g] at g'; cases g'
      exact ⟨a, vs, rfl, h, z, r⟩
    · cases e
  | _ => simp [asL] at e
/-- a list or a tuple that may be read -/
theorem asQ_rep (s : SRel K β H S) {d : D} {v : V} {ds : List D} (r : Rep K β H d v) (e : asQ S d = some ds) : ∃ a vs, v = .ref a ∧ (SqL K H a vs ∨ SqT K H a vs) ∧ ds.length ≤ sizeLine ∧ Reps K β H ds vs := by
  cases d with
  | tup es =>
    simp only [asQ, Option.some.injEq] at e; subst e
    simp only [Rep] at r
    obtain ⟨a, vs, rfl, h, z, r⟩ := r
    exact ⟨a, vs, rfl, .inr h.sq, z, r⟩
  | fz es =>
    simp only [asQ, Option.some.injEq] at e; subst e
    simp only [Rep] at r
    obtain ⟨a, vs, rfl, h, z, r⟩ := r
    exact ⟨a, vs, rfl, .inl h.sq, z, r⟩
  | lst es =>
    obtain ⟨a, vs, rfl, h, z, r⟩ := asL_rep (ds := ds) s r (by simpa [asQ, asL] using e)
    exact ⟨a, vs, rfl, .inl (SqL.of h), z, r⟩
  | ref l =>
    obtain ⟨a, vs, rfl, h, z, r⟩ := asL_rep (ds := ds) s r (by simpa [asQ, asL] using e)
    exact ⟨a, vs, rfl, .inl (SqL.of h), z, r⟩
  | _ => simp [asQ] at e
theorem asQ_list (s : SRel K β H S) {d : D} {v : V} {ds : List D} (r : Rep K β H d v) (nt : ∀ es, d ≠ .tup es) (e : asQ S d = some ds) : ∃ a vs, v = .ref a ∧ SqL K H a vs ∧ ds.length ≤ sizeLine ∧ Reps K β H ds vs := by
  cases d with
  | tup es => exact absurd rfl (nt es)
  | fz es =>
    simp only [asQ, Option.some.injEq] at e; subst e
    simp only [Rep] at r
    obtain ⟨a, vs, rfl, h, z, r⟩ := r
    exact ⟨a, vs, rfl, h.sq, z, r⟩
  | lst es =>
    obtain ⟨a, vs, rfl, h, z, r⟩ := asL_rep (ds := ds) s r (by simpa [asQ, asL] using e)
    exact ⟨a, vs, rfl, SqL.of h, z, r⟩
  | ref l =>
    obtain ⟨a, vs, rfl, h, z, r⟩ := asL_rep (ds := ds) s r (by simpa [asQ, asL] using e)
    exact ⟨a, vs, rfl, SqL.of h, z, r⟩
  | _ => simp [asQ] at e

/-! ### operators -/
def opOf : BOp → Operator
  | .add => .Add
  | .sub => .Sub
  | .mul => .Mult
  | .fdiv => .FloorDiv
  | .mod => .Mod
  | .pow => .Pow
/-- // by a divisor that is not 0, below 2 ^ 9000 -/
def CDivM (_ j : Int) : Prop := j ≠ 0 ∧ j.natAbs.log2 < 9000
theorem op_fdivM {X : Cx} : OpR X (binaryOp .FloorDiv) (rI CDivM fun i j => .int (i.fdiv j)) := opI fun _ _ _ _ _ _ _ hc q => PyProof.Rows.floordiv_int hc.1 q (.inl (PyProof.noPylong_of_log2 hc.2))
/-- a text so many times -/
def rMulS : R2 := fun x y H Q => ∃ (a : Str) (k : Int), x = .str a ∧ y = .int k ∧ MulOk a k ∧ Q (.str (Txt.mul a k)) H
theorem op_mulS {X : Cx} : OpR X (binaryOp .Mult) rMulS := by
  intro pins s σ H x y v u Q I rx ry w
  obtain ⟨a, k, rfl, rfl, hok, q⟩ := w
  obtain ⟨t, rfl⟩ := rx
  obtain ⟨t2, rfl⟩ := ry
  exact SB.mul hok fun t' k' => ⟨.str _, H, I.tok _, ⟨_, rfl⟩, q⟩
theorem mulS_ok {a : Str} {k : Int} (h : (0 ≤ k ∧ k ≤ 1000) ∧ a.length ≤ 1000000 ∧ a.length * k.toNat ≤ sizeLine) : MulOk a k := by
  obtain ⟨⟨h1, h2⟩, h3, h4⟩ := h
  refine ⟨by simp; omega, fun n1 _ => ?_, fun _ _ => by unfold Builtin.Str.tooLong; simp; exact h4⟩
  have : (9223372036854775807 : Int) / 1000 ≤ 9223372036854775807 / k := by
    have hk : 0 < k := by omega
    exact (Int.le_ediv_iff_mul_le hk).mpr (by
      have : (9223372036854775807 : Int) / 1000 * k ≤ 9223372036854775807 / 1000 * 1000 := Int.mul_le_mul_of_nonneg_left h2 (by decide)
      omega)
  have e : ((2 : Int) ^ 63 - 1) = 9223372036854775807 := by decide
  rw [e]
  omega
def rBin (K : PySem.W.Frag) : BOp → R2
  | .add => fun x y H Q => rI0 (fun i j => .int (i + j)) x y H Q ∨ (∃ i j, x = .str i ∧ y = .str j ∧ i.length + j.length ≤ sizeLine ∧ Q (.str (i ++ j)) H) ∨ rCatA K x y H Q ∨ rCat x y H Q
  | .sub => rI0 fun i j => .int (i - j)
  | .mul => fun x y H Q => rI CMul (fun i j => .int (i * j)) x y H Q ∨ rI CMulW (fun i j => .int (i * j)) x y H Q ∨ rRep x y H Q ∨ rMulS x y H Q
  | .fdiv => fun x y H Q => rI CDivW (fun i j => .int (i / j)) x y H Q ∨ rI CDivM (fun i j => .int (i.fdiv j)) x y H Q
  | .mod => fun x y H Q => rI (fun _ j => 0 < j) (fun i j => .int (i % j)) x y H Q ∨ rI (fun _ j => j ≠ 0) (fun i j => .int (i.fmod j)) x y H Q
  | .pow => rI CPow fun i j => .int (i ^ j.toNat)
theorem bin_ok {X : Cx} : ∀ o : BOp, OpR X (binaryOp (opOf o)) (rBin X.K o)
  | .add => op_add.or (op_add_str.or (op_catA.or op_cat))
  | .sub => op_sub
  | .mul => op_mul.or (op_mulW.or (op_rep.or op_mulS))
  | .fdiv => op_fdivW.or op_fdivM
  | .mod => op_mod.or op_modN
  | .pow => op_pow
theorem rep_int {i : Int} {v : V} (h : Rep K β H (.int i) v) : v = .int i := by simpa only [Rep] using h
theorem rep_bl {i : Bool} {v : V} (h : Rep K β H (.bl i) v) : v = .bl i := by simpa only [Rep] using h
theorem rep_non {v : V} (h : Rep K β H .non v) : v = .non := by simpa only [Rep] using h
theorem rep_str {i : Str} {v : V} (h : Rep K β H (.str i) v) : v = .str i ∧ i.length ≤ sizeLine := by simpa only [Rep] using h
theorem rep_tup {ds : List D} {v : V} (h : Rep K β H (.tup ds) v) : ∃ a vs, v = .ref a ∧ SqT K H a vs ∧ ds.length ≤ sizeLine ∧ Reps K β H ds vs := by
  simp only [Rep] at h
  obtain ⟨a, vs, e, t, z, r⟩ := h
  exact ⟨a, vs, e, t.sq, z, r⟩
theorem int_rep (i : Int) : Rep K β H (.int i) (.int i) := by simp only [Rep]
theorem bl_rep (i : Bool) : Rep K β H (.bl i) (.bl i) := by simp only [Rep]
theorem non_rep : Rep K β H .non .non := by simp only [Rep]
theorem str_rep {i : Str} (h : i.length ≤ sizeLine) : Rep K β H (.str i) (.str i) := by simp only [Rep]; exact ⟨trivial, h⟩

theorem mulOk_of {i j : Int} (h : mulOk i j = true) : CMul i j ∨ CMulW i j := by
  unfold mulOk at h
  simp only [Bool.or_eq_true, decide_eq_true_eq] at h
  rcases h with (h | h) | h
  · exact .inl (.inl h)
  · exact .inl (.inr h)
  · exact .inr h
theorem add_l (s : SRel K β H S) {d e : D} {x y : V} (rd : Rep K β H d x) (re : Rep K β H e y)
    (h : Go K (Rep K) E β H (match asL S d, asL S e with
      | some xs, some ys => if xs.length + ys.length ≤ sizeLine then .ok (.lst (xs ++ ys)) S else .stuck
      | _, _ => .stuck) Q) : rBin K .add x y H Q := by
  cases e1 : asL S d with
  | none => rw [e1] at h; exact h.elim
  | some xs =>
    cases e2 : asL S e with
    | none => rw [e1, e2] at h; exact h.elim
    | some ys =>
      rw [e1, e2] at h
      obtain ⟨a, vs, rfl, h1, z1, r1⟩ := asL_rep s rd e1
      obtain ⟨b, ws, rfl, h2, z2, r2⟩ := asL_rep s re e2
      by_cases z : xs.length + ys.length ≤ sizeLine
      · simp only [z, if_true] at h
        exact .inr (.inr (.inr ⟨a, b, vs, ws, rfl, rfl, h1, h2, by rw [← r1.length, ← r2.length]; exact z, go_new s (r1.append r2) (by rw [List.length_append]; exact z) h⟩))
      · simp only [z, if_false] at h; exact h.elim
theorem int2_go {C : Int → Int → Prop} {f : Int → Int → Int} (s : SRel K β H S) {i j : Int} {x y : V} (rd : Rep K β H (.int i) x) (re : Rep K β H (.int j) y) (c : C i j) (h : Go K (Rep K) E β H (.ok (.int (f i j)) S) Q) : rI C (fun i j => .int (f i j)) x y H Q := by
  rw [rep_int rd, rep_int re]
  exact ⟨i, j, rfl, rfl, c, Go.same h (int_rep _) s⟩
theorem add_go (s : SRel K β H S) {d e : D} {x y : V} (rd : Rep K β H d x) (re : Rep K β H e y) (h : Go K (Rep K) E β H (addD d e S) Q) : rBin K .add x y H Q := by
  unfold addD at h
  split at h
  · rename_i i j
    rw [rep_int rd, rep_int re]
    exact .inl ⟨i, j, rfl, rfl, Go.same h (int_rep _) s⟩
  · rename_i i j
    obtain ⟨rfl, z1⟩ := rep_str rd
    obtain ⟨rfl, z2⟩ := rep_str re
    split at h
    · rename_i z
      refine .inr (.inl ⟨i, j, rfl, rfl, z, Go.same h (str_rep ?_) s⟩)
      rw [show (i ++ j).length = i.length + j.length from Array.size_append]; exact z
    · exact h.elim
  · rename_i xs ys
    simp only [Rep] at rd re
    obtain ⟨a, vs, rfl, h1, z1, r1⟩ := rd
    obtain ⟨b, ws, rfl, h2, z2, r2⟩ := re
    split at h
    · rename_i z
      refine .inr (.inr (.inl ⟨a, b, vs, ws, rfl, rfl, h1.sq, h2.sq, by rw [← r1.length, ← r2.length]; exact z, fun e => ?_, fun _ e => ?_, fun _ _ => go_tup s (r1.append r2) (by rw [List.length_append]; exact z) h⟩))
      · subst e
        have e1 : xs = [] := List.length_eq_zero_iff.mp r1.length
        subst e1
        exact Go.same h (by simp only [Rep]; exact ⟨b, ws, rfl, h2, by simpa using z2, by simpa using r2⟩) s
      · subst e
        have e1 : ys = [] := List.length_eq_zero_iff.mp r2.length
        subst e1
        exact Go.same h (by simp only [Rep]; exact ⟨a, vs, rfl, h1, by simpa using z1, by simpa using r1⟩) s
    · exact h.elim
  · exact add_l s rd re h
theorem _root_.Pyx.Reps.times {K : PySem.W.Frag} {β : Bk} {H : Hp} {ds : List D} {vs : List V} (r : Reps K β H ds vs) : ∀ n : Nat, Reps K β H (List.replicate n ds).flatten (List.replicate n vs).flatten
  | 0 => by simpa using (Reps.nil : Reps K β H [] [])
  | n + 1 => by rw [List.replicate_succ, List.replicate_succ, List.flatten_cons, List.flatten_cons]; exact r.append (r.times n)
theorem bin_go (s : SRel K β H S) (o : BOp) {d e : D} {x y : V} (rd : Rep K β H d x) (re : Rep K β H e y) (h : Go K (Rep K) E β H (binD o d e S) Q) : rBin K o x y H Q := by
  cases o with
  | add => exact add_go s rd re h
  | sub =>
    simp only [binD] at h
    unfold subD at h
    split at h
    · rename_i i j
      rw [rep_int rd, rep_int re]
      exact ⟨i, j, rfl, rfl, Go.same h (int_rep _) s⟩
    · exact h.elim
  | mul =>
    simp only [binD] at h
    unfold mulD at h
    split at h
    · rename_i i j
      split at h
      · rename_i z
        rcases mulOk_of z with c | c
        · exact .inl (int2_go s rd re c h)
        · exact .inr (.inl (int2_go s rd re c h))
      · exact h.elim
    · rename_i xs k
      split at h
      · rename_i z
        simp only [Rep] at rd
        obtain ⟨a, vs, rfl, ⟨_, _, ha⟩, _, r⟩ := rd
        exact .inr (.inr (.inl ⟨a, k, vs, rfl, rep_int re, ha, z.1, z.2.1, by rw [← r.length]; exact z.2.2, go_new s (r.times k.toNat) (by simp; rw [Nat.mul_comm]; exact z.2.2) h⟩))
      · exact h.elim
    · rename_i a k
      split at h
      · rename_i z
        have e : x = .str a ∧ a.length ≤ sizeLine := by simpa only [Rep] using rd
        exact .inr (.inr (.inr ⟨a, k, e.1, rep_int re, mulS_ok ⟨z.1, z.2.1, z.2.2.1⟩, Go.same h (str_rep z.2.2.2) s⟩))
      · exact h.elim
    · exact h.elim
  | fdiv =>
    simp only [binD] at h
    unfold fdivD at h
    split at h
    · rename_i i j
      split at h
      · rename_i z
        exact .inl (int2_go s rd re z h)
      · split at h
        · rename_i z
          exact .inr (int2_go s rd re ⟨by omega, z.2⟩ h)
        · exact h.elim
    · exact h.elim
  | mod =>
    simp only [binD] at h
    unfold modD at h
    split at h
    · rename_i i j
      split at h
      · rename_i z
        exact .inl (int2_go (C := fun _ j => 0 < j) s rd re z h)
      · split at h
        · rename_i z
          exact .inr (int2_go (C := fun _ j => j ≠ 0) s rd re (by omega) h)
        · exact h.elim
    · exact h.elim
  | pow =>
    simp only [binD] at h
    unfold powD at h
    split at h
    · rename_i i j
      split at h
      · rename_i z
        exact int2_go s rd re z h
      · exact h.elim
    · exact h.elim
end
end Pyx
end
section
/-! Comparisons, items, slices, built-ins and methods by values. -/
namespace Pyx
open PySem L2

/-! ### data -/
mutual
def toP : D → PyData
  | .non => .none
  | .bl b => .bool b
  | .int i => .int i
  | .str s => .str s
  | .tup ds => .tuple (toPs ds)
  | .lst ds => .list (toPs ds)
  | .fz ds => .list (toPs ds)
  | .ref _ => .none
def toPs : List D → List PyData
  | [] => []
  | d :: ds => toP d :: toPs ds
end
mutual
theorem eqv_toP : ∀ x y : D, x.pure = true → y.pure = true → PyData.eqv (toP x) (toP y) = x.eq y
  | .non, y, _, hy => by cases y <;> simp_all [toP, PyData.eqv, D.eq, D.pure]
  | .bl _, y, _, hy => by cases y <;> simp_all [toP, PyData.eqv, D.eq, D.pure]
  | .int _, y, _, hy => by cases y <;> simp_all [toP, PyData.eqv, D.eq, D.pure]
  | .str _, y, _, hy => by cases y <;> simp_all [toP, PyData.eqv, D.eq, D.pure]
  | .tup xs, y, hx, hy => by
    cases y with
    | tup ys => simp only [toP, PyData.eqv, D.eq]; simp only [D.pure] at hx hy; exact eqv_toPs xs ys hx hy
    | _ => simp_all [toP, PyData.eqv, D.eq, D.pure]
  | .lst xs, y, hx, hy => by
    cases y with
    | lst ys => simp only [toP, PyData.eqv, D.eq]; simp only [D.pure] at hx hy; exact eqv_toPs xs ys hx hy
    | fz ys => simp only [toP, PyData.eqv, D.eq]; simp only [D.pure] at hx hy; exact eqv_toPs xs ys hx hy
    | _ => simp_all [toP, PyData.eqv, D.eq, D.pure]
  | .fz xs, y, hx, hy => by
    cases y with
    | lst ys => simp only [toP, PyData.eqv, D.eq]; simp only [D.pure] at hx hy; exact eqv_toPs xs ys hx hy
    | fz ys => simp only [toP, PyData.eqv, D.eq]; simp only [D.pure] at hx hy; exact eqv_toPs xs ys hx hy
    | _ => simp_all [toP, PyData.eqv, D.eq, D.pure]
  | .ref _, _, hx, _ => by simp [D.pure] at hx
theorem eqv_toPs : ∀ xs ys : List D, D.pures xs = true → D.pures ys = true → PyData.eqvAll (toPs xs) (toPs ys) = D.eqs xs ys
  | [], [], _, _ => by simp [toPs, PyData.eqvAll, D.eqs]
  | [], _ :: _, _, _ => by simp [toPs, PyData.eqvAll, D.eqs]
  | _ :: _, [], _, _ => by simp [toPs, PyData.eqvAll, D.eqs]
  | x :: xs, y :: ys, hx, hy => by
    simp only [D.pures, Bool.and_eq_true] at hx hy
    simp only [toPs, PyData.eqvAll, D.eqs]
    rw [eqv_toP x y hx.1 hy.1, eqv_toPs xs ys hx.2 hy.2]
end
mutual
theorem depth_toP : ∀ x : D, (toP x).depth = x.depth
  | .non => by simp [toP, PyData.depth, D.depth]
  | .bl _ => by simp [toP, PyData.depth, D.depth]
  | .int _ => by simp [toP, PyData.depth, D.depth]
  | .str _ => by simp [toP, PyData.depth, D.depth]
  | .tup xs => by simp only [toP, PyData.depth, D.depth]; rw [depth_toPs xs]
  | .lst xs => by simp only [toP, PyData.depth, D.depth]; rw [depth_toPs xs]
  | .fz xs => by simp only [toP, PyData.depth, D.depth]; rw [depth_toPs xs]
  | .ref _ => by simp [toP, PyData.depth, D.depth]
theorem depth_toPs : ∀ xs : List D, PyData.depthAll (toPs xs) = D.depths xs
  | [] => by simp [toPs, PyData.depthAll, D.depths]
  | x :: xs => by simp only [toPs, PyData.depthAll, D.depths]; rw [depth_toP x, depth_toPs xs]
end
mutual
theorem lay_toP : ∀ x : D, x.sok = true → (toP x).canLay0 = true
  | .non, _ => by simp [toP, PyData.canLay0]
  | .bl _, _ => by simp [toP, PyData.canLay0]
  | .int _, _ => by simp [toP, PyData.canLay0]
  | .str _, h => by simpa [toP, PyData.canLay0, D.sok] using h
  | .tup xs, h => by simp only [toP, PyData.canLay0]; exact lay_toPs xs (by simpa [D.sok] using h)
  | .lst xs, h => by simp only [toP, PyData.canLay0]; exact lay_toPs xs (by simpa [D.sok] using h)
  | .fz xs, h => by simp only [toP, PyData.canLay0]; exact lay_toPs xs (by simpa [D.sok] using h)
  | .ref _, _ => by simp [toP, PyData.canLay0]
theorem lay_toPs : ∀ xs : List D, D.soks xs = true → PyData.canLayAll0 (toPs xs) = true
  | [], _ => by simp [toPs, PyData.canLayAll0]
  | x :: xs, h => by
    simp only [D.soks, Bool.and_eq_true] at h
    simp only [toPs, PyData.canLayAll0, Bool.and_eq_true]
    exact ⟨lay_toP x h.1, lay_toPs xs h.2⟩
end
section
variable {K : PySem.W.Frag} {E : XW} {β : Bk} {H : Hp} {S : Store} {Q : V → Hp → Prop}
mutual
theorem dp_of : ∀ {d : D} {v : V}, Rep K β H d v → d.pure = true → Dp K H v (toP d)
  | .non, _, h, _ => by rw [rep_non h]; exact .non
  | .bl _, _, h, _ => by rw [rep_bl h]; exact .bl _
  | .int _, _, h, _ => by rw [rep_int h]; exact .int _
  | .str _, _, h, _ => by rw [(rep_str h).1]; exact .str _
  | .tup xs, _, h, p => by
    simp only [Rep] at h
    obtain ⟨a, vs, rfl, t, _, r⟩ := h
    exact .tup t.sq (dp_ofs r (by simpa [D.pure] using p))
  | .lst xs, _, h, p => by
    simp only [Rep] at h
    obtain ⟨a, vs, rfl, ⟨_, _, t⟩, _, r⟩ := h
    exact .lst (SqL.of t) (dp_ofs r (by simpa [D.pure] using p))
  | .fz xs, _, h, p => by
    simp only [Rep] at h
    obtain ⟨a, vs, rfl, t, _, r⟩ := h
    exact .lst t.sq (dp_ofs r (by simpa [D.pure] using p))
  | .ref _, _, _, p => by simp [D.pure] at p
theorem dp_ofs : ∀ {ds : List D} {vs : List V}, Reps K β H ds vs → D.pures ds = true → DpAll K H vs (toPs ds)
  | [], _, h, _ => by rw [h.unnil]; exact .nil
  | d :: ds, _, h, p => by
    obtain ⟨v, vr, rfl, r, t⟩ := h.uncons
    simp only [D.pures, Bool.and_eq_true] at p
    exact .cons (dp_of r p.1) (dp_ofs t p.2)
end
theorem flatL_rep (s : SRel K β H S) {d x : D} {v : V} (r : Rep K β H d v) (e : flatL S d = some x) : Dp K H v (toP x) ∧ x.pure = true := by
  unfold flatL at e
  split at e
  · rename_i l
    split at e
    · rename_i ds q
      split at e
      · rename_i p
        cases e
        simp only [Rep] at r
        obtain ⟨a, g, rfl⟩ := r
        obtain ⟨a', g', qc⟩ := s.cell l _ q
        obtain ⟨vs, h, z, r⟩ := qc.lst
        rw [g] at g'; cases g'
        exact ⟨.lst (SqL.of h) (dp_ofs r p), by simpa [D.pure] using p⟩
      · cases e
    · cases e
  · split at e
    · rename_i p
      cases e
      exact ⟨dp_of r p, p⟩
    · cases e

/-! ### comparisons -/
def copOf : COp → CmpOp
  | .eq => .Eq
  | .ne => .NotEq
  | .lt => .Lt
  | .le => .LtE
  | .gt => .Gt
  | .ge => .GtE
  | .is => .Is
  | .isnot => .IsNot
  | .isin => .In
  | .notin => .NotIn
def rIs (n : Bool) : R2 := fun x y H Q => (y = .non ∧ Q (.bl (if n then !decide (x = .non) else decide (x = .non))) H) ∨ ∃ a b : Bool, x = .bl a ∧ y = .bl b ∧ Q (.bl (if n then !decide (a = b) else decide (a = b))) H
/-- y in the dict x -/
def rDIn (n : Bool) : R2 := fun x y H Q => ∃ a o, y = .ref a ∧ DGet H a x o ∧ Q (.bl (if n then !o.isSome else o.isSome)) H
theorem op_dIn {X : Cx} (hu : X.A.units + 65 < cLine) : OpR X (compareOp .In) (rDIn false) := by
  intro pins s σ H x y v u Q I rx ry ⟨a, o, ey, g, q⟩
  subst ey
  cases (show u = Value.ref a from ry)
  exact d_in (by omega) I g rx fun s' I' => ⟨.bl o.isSome, H, I', rfl, q⟩
theorem op_dNotIn {X : Cx} (hu : X.A.units + 65 < cLine) : OpR X (compareOp .NotIn) (rDIn true) := by
  intro pins s σ H x y v u Q I rx ry ⟨a, o, ey, g, q⟩
  subst ey
  cases (show u = Value.ref a from ry)
  exact d_notIn (by omega) I g rx fun s' I' => ⟨.bl (!o.isSome), H, I', rfl, q⟩
def rInn (K : PySem.W.Frag) (n : Bool) : R2 := fun x y H Q =>
  (∃ (c : Nat) (z : Str), x = .str ⟨#[c]⟩ ∧ y = .str z ∧ Q (.bl (if n then !decide (c ∈ z.cps.toList) else decide (c ∈ z.cps.toList))) H) ∨
  (∃ i j, x = .str i ∧ y = .str j ∧ Q (.bl (if n then !(!(Builtin.Str.occurrences j i 0 j.length 1).isEmpty) else !(Builtin.Str.occurrences j i 0 j.length 1).isEmpty)) H) ∨ rIn K n x y H Q ∨ (if n then rNotInD K else rInD K) x y H Q ∨ rDIn n x y H Q
def rCmp (K : PySem.W.Frag) : COp → R2
  | .eq => fun x y H Q => rEq x y H Q ∨ rEqD K x y H Q
  | .ne => fun x y H Q => rNe x y H Q ∨ rNeD K x y H Q
  | .lt => rI0 fun i j => .bl (decide (i < j))
  | .le => rI0 fun i j => .bl (decide (i ≤ j))
  | .gt => rI0 fun i j => .bl (decide (j < i))
  | .ge => rI0 fun i j => .bl (decide (j ≤ i))
  | .is => rIs false
  | .isnot => rIs true
  | .isin => rInn K false
  | .notin => rInn K true
theorem cmp_ok {X : Cx} (hu : X.A.units + 65 < cLine) : ∀ o : COp, OpR X (compareOp (copOf o)) (rCmp X.K o)
  | .eq => op_eq.or (op_eqD (by omega))
  | .ne => op_ne.or (op_neD (by omega))
  | .lt => op_lt
  | .le => op_le
  | .gt => op_gt
  | .ge => op_ge
  | .is => op_isN.or op_isBl
  | .isnot => op_notN.or op_notBl
  | .isin => op_in_sign.or (op_in_str.or (op_in_seq.or ((op_inD hu).or (op_dIn hu))))
  | .notin => op_notIn_sign.or (op_notIn_str.or (op_notIn_seq.or ((op_notInD hu).or (op_dNotIn hu))))
theorem go_bl {b : Bool} (s : SRel K β H S) (h : Go K (Rep K) E β H (.ok (.bl b) S) Q) : Q (.bl b) H := Go.same h (bl_rep _) s
/-- a truth value or none -/
theorem blR_go {o : Option Bool} (s : SRel K β H S) (h : Go K (Rep K) E β H (blR S o) Q) : ∃ b, o = some b ∧ Q (.bl b) H := by
  cases o with
  | none => exact h.elim
  | some b => exact ⟨b, rfl, go_bl s h⟩
theorem eqD_rep (s : SRel K β H S) {d e : D} {x y : V} {b : Bool} (rd : Rep K β H d x) (re : Rep K β H e y) (h : eqD S d e = some b) :
    (scal x y = true ∧ decide (x = y) = b) ∨ ∃ p q, Dp K H x p ∧ Dp K H y q ∧ SeqAt.shaped p = true ∧ SeqAt.shaped q = true ∧ PyData.eqv p q = b := by
  unfold eqD at h
  split at h
  · rename_i i j
    rw [(rep_str rd).1, (rep_str re).1]
    cases h
    exact .inl ⟨rfl, dec_str⟩
  · split at h
    · rename_i u w e1 e2
      split at h
      · rename_i c
        cases h
        obtain ⟨p1, q1⟩ := flatL_rep s rd e1
        obtain ⟨p2, q2⟩ := flatL_rep s re e2
        refine .inr ⟨_, _, p1, p2, ?_, ?_, eqv_toP u w q1 q2⟩
        · unfold SeqAt.shaped
          rw [lay_toP u c.2.2.1, depth_toP, decide_eq_true c.1]; rfl
        · unfold SeqAt.shaped
          rw [lay_toP w c.2.2.2, depth_toP, decide_eq_true c.2.1]; rfl
      · cases h
    · cases h
theorem ordD_some {p : Int → Int → Bool} {d e : D} {b : Bool} (h : ordD p d e = some b) : ∃ i j, d = .int i ∧ e = .int j ∧ b = p i j := by
  unfold ordD at h
  split at h
  · cases h; exact ⟨_, _, rfl, rfl, rfl⟩
  · cases h
theorem ord_go {f : Int → Int → Bool} (s : SRel K β H S) {d e : D} {x y : V} {b : Bool} (rd : Rep K β H d x) (re : Rep K β H e y) (h : ordD f d e = some b) (q : Q (.bl b) H) : rI0 (fun i j => .bl (f i j)) x y H Q := by
  obtain ⟨i, j, rfl, rfl, rfl⟩ := ordD_some h
  exact ⟨i, j, rep_int rd, rep_int re, q⟩
theorem is_rep {d e : D} {x y : V} {b : Bool} (rd : Rep K β H d x) (re : Rep K β H e y) (h : isD d e = some b) : (y = .non ∧ decide (x = .non) = b) ∨ ∃ p q : Bool, x = .bl p ∧ y = .bl q ∧ decide (p = q) = b := by
  unfold isD at h
  split at h
  all_goals first | cases h | skip
  · exact .inl ⟨rep_non re, by rw [rep_non rd]; rfl⟩
  · exact .inl ⟨rep_non re, by rw [rep_bl rd]; rfl⟩
  · exact .inl ⟨rep_non re, by rw [rep_int rd]; rfl⟩
  · exact .inl ⟨rep_non re, by rw [(rep_str rd).1]; rfl⟩
  · refine .inl ⟨rep_non re, ?_⟩
    simp only [Rep] at rd
    obtain ⟨a, vs, rfl, _⟩ := rd
    rfl
  · refine .inl ⟨rep_non re, ?_⟩
    simp only [Rep] at rd
    obtain ⟨a, vs, rfl, _⟩ := rd
    rfl
  · refine .inl ⟨rep_non re, ?_⟩
    simp only [Rep] at rd
    obtain ⟨a, vs, rfl, _⟩ := rd
    rfl
  · refine .inl ⟨rep_non re, ?_⟩
    simp only [Rep] at rd
    obtain ⟨a, _, rfl⟩ := rd
    rfl
  · rename_i p q
    exact .inr ⟨p, q, rep_bl rd, rep_bl re, by cases p <;> cases q <;> rfl⟩
theorem flat_rep {d : D} {v : V} (r : Rep K β H d v) (f : d.flat = true) : flatV v = true := by
  cases d with
  | non => rw [rep_non r]; rfl
  | bl _ => rw [rep_bl r]; rfl
  | int _ => rw [rep_int r]; rfl
  | str _ => rw [(rep_str r).1]; rfl
  | _ => simp [D.flat] at f
theorem eqV_rep {d e : D} {v w : V} (r : Rep K β H d v) (f : d.flat = true) (t : Rep K β H e w) (g : e.flat = true) : eqV v w = d.eq e := by
  cases d with
  | non => rw [rep_non r]; cases e with
    | non => rw [rep_non t]; rfl
    | bl _ => rw [rep_bl t]; rfl
    | int _ => rw [rep_int t]; rfl
    | str _ => rw [(rep_str t).1]; rfl
    | _ => simp [D.flat] at g
  | bl _ => rw [rep_bl r]; cases e with
    | non => rw [rep_non t]; rfl
    | bl _ => rw [rep_bl t]; simp [eqV, D.eq]
    | int _ => rw [rep_int t]; simp [eqV, D.eq]
    | str _ => rw [(rep_str t).1]; rfl
    | _ => simp [D.flat] at g
  | int _ => rw [rep_int r]; cases e with
    | non => rw [rep_non t]; rfl
    | bl _ => rw [rep_bl t]; simp [eqV, D.eq]
    | int _ => rw [rep_int t]; simp [eqV, D.eq]
    | str _ => rw [(rep_str t).1]; rfl
    | _ => simp [D.flat] at g
  | str _ => rw [(rep_str r).1]; cases e with
    | non => rw [rep_non t]; rfl
    | bl _ => rw [rep_bl t]; rfl
    | int _ => rw [rep_int t]; rfl
    | str _ => rw [(rep_str t).1]; simp [eqV, D.eq]
    | _ => simp [D.flat] at g
  | _ => simp [D.flat] at f
theorem flats_rep : ∀ {ds : List D} {vs : List V}, Reps K β H ds vs → ds.all D.flat = true → vs.all flatV = true
  | [], _, h, _ => by rw [h.unnil]; rfl
  | d :: ds, _, h, p => by
    obtain ⟨v, vr, rfl, r, t⟩ := h.uncons
    simp only [List.all_cons, Bool.and_eq_true] at p ⊢
    exact ⟨flat_rep r p.1, flats_rep t p.2⟩
theorem any_rep {e : D} {w : V} (t : Rep K β H e w) (g : e.flat = true) : ∀ {ds : List D} {vs : List V}, Reps K β H ds vs → ds.all D.flat = true → (vs.any fun v => eqV v w) = ds.any fun d => d.eq e
  | [], _, h, _ => by rw [h.unnil]; rfl
  | d :: ds, _, h, p => by
    obtain ⟨v, vr, rfl, r, q⟩ := h.uncons
    simp only [List.all_cons, Bool.and_eq_true] at p
    rw [List.any_cons, List.any_cons, eqV_rep r p.1 t g, any_rep t g q p.2]
theorem key_rep {d : D} {v : V} {k : Key} (r : Rep K β H d v) (h : keyD d = some k) : v = kV k := by
  cases d with
  | int i => cases h; exact rep_int r
  | str x => cases h; exact (rep_str r).1
  | _ => cases h
theorem keys_rep : ∀ {ds : List D} {vs : List V} {ks : List Key}, Reps K β H ds vs → keysD ds = some ks → vs = ks.map kV
  | [], _, ks, r, h => by cases h; rw [r.unnil]; rfl
  | d :: ds, _, ks, r, h => by
    obtain ⟨v, vr, rfl, r1, r2⟩ := r.uncons
    simp only [keysD] at h
    obtain ⟨k, e1, h⟩ := Option.bind_eq_some_iff.mp h
    obtain ⟨kr, e2, rfl⟩ := Option.map_eq_some_iff.mp h
    rw [key_rep r1 e1, keys_rep r2 e2]; rfl
/-- found alike -/
def RepO (K : PySem.W.Frag) (β : Bk) (H : Hp) : Option D → Option V → Prop
  | none, none => True
  | some d, some v => Rep K β H d v
  | _, _ => False
theorem val_rep {κ : Type} [DecidableEq κ] {k : κ} : ∀ {fs : List (κ × D)} {ws : List (κ × V)}, RepKV K β H fs ws → RepO K β H (valG fs k) (valV ws k)
  | [], _, h => by
    have h : _ = [] := h
    subst h; exact trivial
  | (g, d) :: r, _, ⟨v, wr, e, h, t⟩ => by
    subst e
    have ih := val_rep (k := k) t
    unfold valG valV at ih ⊢
    rw [List.find?_cons, List.find?_cons]
    by_cases c : g = k
    · simp only [c, decide_true]; exact h
    · simp only [c, decide_false]; exact ih
theorem dget_rep (s : SRel K β H S) {d e : D} {x y : V} {o : Option D} (rd : Rep K β H d x) (re : Rep K β H e y) (h : dgetD S d e = some o) : ∃ a w, x = .ref a ∧ DGet H a y w ∧ RepO K β H o w := by
  unfold dgetD at h
  split at h
  · rename_i l
    simp only [Rep] at rd
    obtain ⟨a, g, rfl⟩ := rd
    split at h
    · rename_i kvs q
      obtain ⟨a', g', ob, h1, ws, rfl, z, r⟩ := s.cell l _ q
      rw [g] at g'; cases g'
      obtain ⟨k, e1, rfl⟩ := Option.map_eq_some_iff.mp h
      refine ⟨a, valV ws k, rfl, ?_, val_rep r⟩
      rw [key_rep re e1]
      exact DGet.k h1
    · rename_i kvs q
      obtain ⟨a', g', ob, h1, ws, rfl, z, r⟩ := s.cell l _ q
      rw [g] at g'; cases g'
      split at h
      · rename_i ds
        obtain ⟨k, e1, rfl⟩ := Option.map_eq_some_iff.mp h
        simp only [Rep] at re
        obtain ⟨b, vs, rfl, t, _, rv⟩ := re
        refine ⟨a, valV ws k, rfl, ?_, val_rep r⟩
        have e2 := keys_rep rv e1
        exact DGet.t h1 (by rw [← e2]; exact t.2)
      · cases h
    · cases h
  · cases h
theorem repO_some {o : Option D} {w : Option V} (r : RepO K β H o w) : o.isSome = w.isSome := by
  cases o <;> cases w <;> first | rfl | exact r.elim
theorem anyD_rep {d : D} : ∀ {ds : List D}, d.pure = true → D.pures ds = true → ((toPs ds).any fun z => PyData.eqv z (toP d)) = ds.any fun y => y.eq d
  | [], _, _ => rfl
  | e :: ds, p, ps => by
    simp only [D.pures, Bool.and_eq_true] at ps
    simp only [toPs, List.any_cons]
    rw [eqv_toP e d ps.1 p, anyD_rep p ps.2]
theorem in_go (n : Bool) (s : SRel K β H S) {d e : D} {x y : V} {b : Bool} (rd : Rep K β H d x) (re : Rep K β H e y) (h : inD S d e = some b) (q : Q (.bl (if n then !b else b)) H) : rInn K n x y H Q := by
  unfold inD at h
  split at h
  · rename_i i j
    rw [(rep_str rd).1, (rep_str re).1]
    split at h
    · rename_i c e1
      cases h
      have e2 : i = ⟨#[c]⟩ := by
        cases i with | mk a => cases a; simp only at e1; rw [e1]
      exact .inl ⟨c, j, by rw [e2], rfl, q⟩
    · cases h
      exact .inr (.inl ⟨i, j, rfl, rfl, by cases n <;> simpa using q⟩)
  · split at h
    · rename_i o eo
      cases h
      obtain ⟨a, w, rfl, g, r⟩ := dget_rep s re rd eo
      exact .inr (.inr (.inr (.inr ⟨a, w, rfl, g, by rw [← repO_some r]; exact q⟩)))
    · split at h
      · rename_i ds e1
        split at h
        · rename_i c
          cases h
          rw [Bool.and_eq_true] at c
          obtain ⟨a, vs, rfl, hs, _, r⟩ := asQ_rep s re e1
          refine .inr (.inr (.inl ⟨a, vs, rfl, hs, flat_rep rd c.1, flats_rep r c.2, ?_⟩))
          have q2 : inV x vs = _ := any_rep rd c.1 r c.2
          rw [q2]
          cases n <;> exact q
        · split at h
          · rename_i ds2 e2
            split at h
            · rename_i c
              cases h
              simp only [deepOk, Bool.and_eq_true, decide_eq_true_eq] at c
              obtain ⟨⟨⟨⟨⟨c1, c2⟩, c3⟩, c4⟩, c5⟩, c6⟩ := c
              obtain ⟨a, vs, rfl, hs, _, r⟩ := asL_rep s re e2
              have h1 := dp_of rd c1
              have h2 : Dp K H (.ref a) (.list (toPs ds2)) := .lst (SqL.of hs) (dp_ofs r c2)
              have s1 : SeqAt.shaped (toP d) = true := by
                unfold SeqAt.shaped
                rw [lay_toP d c5, depth_toP, decide_eq_true c3]; rfl
              have s2 : SeqAt.shaped (.list (toPs ds2)) = true := by
                have e3 : PyData.list (toPs ds2) = toP (.lst ds2) := by simp only [toP]
                rw [e3]
                unfold SeqAt.shaped
                rw [lay_toP (.lst ds2) (by simpa [D.sok] using c6), depth_toP, decide_eq_true (by simpa [D.depth] using c4)]; rfl
              refine .inr (.inr (.inr (.inl ?_)))
              cases n with
              | false => exact ⟨_, _, h1, h2, s1, s2, by rw [anyD_rep c1 c2]; exact q⟩
              | true => exact ⟨_, _, h1, h2, s1, s2, by rw [anyD_rep c1 c2]; exact q⟩
            · cases h
          · cases h
      · cases h
theorem cmp_go (s : SRel K β H S) (o : COp) {d e : D} {x y : V} (rd : Rep K β H d x) (re : Rep K β H e y) (h : Go K (Rep K) E β H (cmpD o d e S) Q) : rCmp K o x y H Q := by
  obtain ⟨b, e1, q⟩ := blR_go s h
  cases o with
  | eq =>
    rcases eqD_rep s rd re e1 with ⟨h1, h2⟩ | ⟨p, w, h1, h2, h3, h4, h5⟩
    · exact .inl ⟨h1, by rw [h2]; exact q⟩
    · exact .inr ⟨p, w, h1, h2, h3, h4, by rw [h5]; exact q⟩
  | ne =>
    obtain ⟨c, e2, rfl⟩ := Option.map_eq_some_iff.mp e1
    rcases eqD_rep s rd re e2 with ⟨h1, h2⟩ | ⟨p, w, h1, h2, h3, h4, h5⟩
    · exact .inl ⟨h1, by rw [h2]; exact q⟩
    · exact .inr ⟨p, w, h1, h2, h3, h4, by rw [h5]; exact q⟩
  | lt => exact ord_go s rd re e1 q
  | le => exact ord_go s rd re e1 q
  | gt => exact ord_go s rd re e1 q
  | ge => exact ord_go s rd re e1 q
  | is =>
    rcases is_rep rd re e1 with ⟨h1, h2⟩ | ⟨p, w, h1, h2, h3⟩
    · exact .inl ⟨h1, by rw [h2]; exact q⟩
    · exact .inr ⟨p, w, h1, h2, by rw [h3]; exact q⟩
  | isnot =>
    obtain ⟨c, e2, rfl⟩ := Option.map_eq_some_iff.mp e1
    rcases is_rep rd re e2 with ⟨h1, h2⟩ | ⟨p, w, h1, h2, h3⟩
    · exact .inl ⟨h1, by rw [h2]; exact q⟩
    · exact .inr ⟨p, w, h1, h2, by rw [h3]; exact q⟩
  | isin => exact in_go false s rd re e1 q
  | notin =>
    obtain ⟨c, e2, rfl⟩ := Option.map_eq_some_iff.mp e1
    exact in_go true s rd re e2 q

/-! ### truth -/
theorem truth_rep (s : SRel K β H S) {d : D} {v : V} {b : Bool} (r : Rep K β H d v) (h : truth S d = some b) : TruV K v H b := by
  cases d with
  | non => rw [rep_non r]; cases h; rfl
  | bl _ => rw [rep_bl r]; cases h; rfl
  | int _ => rw [rep_int r]; cases h; rfl
  | str _ => obtain ⟨rfl, z⟩ := rep_str r; cases h; exact ⟨z, rfl⟩
  | tup ds =>
    simp only [Rep] at r
    obtain ⟨a, vs, rfl, t, z, r⟩ := r
    cases h
    refine .inr (.inl ⟨vs, t.sq, ?_⟩)
    have := r.length
    cases ds <;> cases vs <;> simp_all
  | lst ds =>
    simp only [Rep] at r
    obtain ⟨a, vs, rfl, ⟨_, _, t⟩, z, r⟩ := r
    cases h
    refine .inl ⟨vs, SqL.of t, ?_⟩
    have := r.length
    cases ds <;> cases vs <;> simp_all
  | fz ds =>
    simp only [Rep] at r
    obtain ⟨a, vs, rfl, t, z, r⟩ := r
    cases h
    refine .inl ⟨vs, t.sq, ?_⟩
    have := r.length
    cases ds <;> cases vs <;> simp_all
  | ref l =>
    simp only [truth] at h
    split at h
    · rename_i ds q
      cases h
      obtain ⟨a, vs, rfl, t, z, r⟩ := asL_rep (ds := ds) s r (by simp [asL, q])
      refine .inl ⟨vs, SqL.of t, ?_⟩
      have := r.length
      cases ds <;> cases vs <;> simp_all
    · cases h

/-! ### items -/
theorem atI_rep {ds : List D} {vs : List V} (r : Reps K β H ds vs) {i : Int} {d : D} (h : atI ds i = some d) : ∃ v, atI vs i = some v ∧ Rep K β H d v := by
  unfold atI at h ⊢
  rw [← r.length]
  cases e : ixN ds.length i with
  | none => rw [e] at h; cases h
  | some j => rw [e] at h; exact r.get h
theorem ix_go (s : SRel K β H S) {d e : D} {x y : V} (rd : Rep K β H d x) (re : Rep K β H e y) (h : Go K (Rep K) E β H (ixL d e S) Q) : rIx K x y H Q := by
  unfold ixL at h
  split at h
  · rename_i i
    rw [rep_int re]
    split at h
    · rename_i z
      obtain ⟨rfl, hz⟩ := rep_str rd
      split at h
      · rename_i c hc
        exact .inr (.inr ⟨z, i, c, rfl, rfl, hz, hc, Go.same h (str_rep (by show 1 ≤ sizeLine; decide)) s⟩)
      · exact h.elim
    · split at h
      · rename_i ds e1
        obtain ⟨w, e2, h⟩ := Go.give h
        obtain ⟨a, vs, rfl, hs, _, r⟩ := asQ_rep s rd e1
        obtain ⟨v, e3, rv⟩ := atI_rep r e2
        have q := Go.same h rv s
        rcases hs with hs | hs
        · exact .inl ⟨a, vs, i, v, rfl, rfl, hs, e3, q⟩
        · exact .inr (.inl ⟨a, vs, i, v, rfl, rfl, hs, e3, q⟩)
      · exact h.elim
  · exact h.elim
end
end Pyx
end
section
namespace Pyx
open PySem L2
theorem CallR.or {X : Cx} {f : Value} {r r' : List V → Hp → VK → Prop} (h : CallR X f r) (h' : CallR X f r') : CallR X f (fun xs H Q => r xs H Q ∨ r' xs H Q) := by
  intro pins s σ H xs us Q I rx q
  rcases q with q | q
  · exact h pins s σ H xs us Q I rx q
  · exact h' pins s σ H xs us Q I rx q
theorem tl_neg (n : Nat) : TL.tl (Str.ofString (toString (Int.negSucc n))) = 45 :: TL.numL (n + 1) := by
  have h := TL.tl_num (n + 1)
  rw [TL.tl_ofString] at h ⊢
  show ("-" ++ toString (n + 1)).toList.map Char.toNat = _
  rw [String.toList_append, List.map_append, ← h]
  rfl
/-- the text of a number is short where the number has not too many bits -/
theorem str_len {i : Int} (h : i.natAbs.log2 < 1920) : (Str.ofString (toString i)).length ≤ 1921 := by
  have b : ∀ n : Nat, n.log2 < 1920 → (TL.numL n).length ≤ 1920 := fun n hn => by
    refine TL.numL_len (by decide) (Nat.lt_of_lt_of_le (Nat.lt_log2_self) (Nat.le_trans (Nat.pow_le_pow_right (by decide) hn) ?_))
    exact Nat.pow_le_pow_left (by decide) 1920
  rw [TL.len_tl]
  cases i with
  | ofNat n =>
    have := b n h
    rw [show Int.ofNat n = ((n : Nat) : Int) from rfl, TL.tl_num]; omega
  | negSucc n =>
    have := b (n + 1) h
    rw [tl_neg]; simp only [List.length_cons]; omega
section
variable {K : PySem.W.Frag} {E : XW} {β : Bk} {H : Hp} {S : Store} {Q : V → Hp → Prop}
/-! ### slices -/
def rSl (K : PySem.W.Frag) : V → Option Int → Option Int → Hp → VK → Prop := fun x l h H Q => rSlS x l h H Q ∨ rSlA K x l h H Q ∨ rSlL K x l h H Q
theorem sl_ok {X : Cx} : SlR X (rSl X.K) := sl_str.or (sl_tupA.or sl_list)
theorem cut_rep {ds : List D} {vs : List V} (r : Reps K β H ds vs) (l h : Option Int) : Reps K β H (cut ds l h) (cutV vs l h) := by
  unfold cut cutV
  rw [r.length]
  exact (r.drop _).take _
theorem cut_length {α : Type} (xs : List α) (l h : Option Int) : (cut xs l h).length ≤ xs.length := by
  unfold cut
  rw [List.length_take, List.length_drop]
  omega
theorem cut_whole {α : Type} {xs : List α} {l h : Option Int} (c : HT.sIx xs.length 0 l = 0 ∧ HT.sIx xs.length xs.length h = xs.length) : cut xs l h = xs := by
  unfold cut
  rw [c.1, c.2]; simp
theorem sl_go {m : Bool} (s : SRel K β H S) {d : D} {x : V} {l h : Option Int} (rd : Rep K β H d x) (g : Go K (Rep K) E β H (slD m d l h S) Q) : rSl K x l h H Q := by
  have gen : (∀ es, d ≠ .tup es) → Go K (Rep K) E β H (match asQ S d with
    | some ds => mkL m (cut ds l h) S
    | none => .stuck) Q → rSl K x l h H Q := fun nt g => by
    split at g
    · rename_i ds e1
      obtain ⟨a, vs, rfl, hs, z, r⟩ := asQ_list s rd nt e1
      exact .inr (.inr ⟨a, vs, rfl, hs, (go_lst s (cut_rep r l h) g).2⟩)
    · exact g.elim
  cases d with
  | str z =>
    obtain ⟨rfl, hz⟩ := rep_str rd
    exact .inl ⟨z, rfl, hz, Go.same g (str_rep (Nat.le_trans (cutS_length z l h) hz)) s⟩
  | tup ds =>
    simp only [Rep] at rd
    obtain ⟨a, vs, rfl, t, z, r⟩ := rd
    simp only [slD] at g
    refine .inr (.inl ⟨a, vs, rfl, t.sq, fun c => ?_, fun c => go_tup s (cut_rep r l h) (Nat.le_trans (cut_length ds l h) z) g⟩)
    rw [← r.length] at c
    rw [cut_whole c] at g
    exact Go.same g (by simp only [Rep]; exact ⟨a, vs, rfl, t, z, r⟩) s
  | lst ds => exact gen (by intro es e; cases e) g
  | fz ds => exact gen (by intro es e; cases e) g
  | ref ds => exact gen (by intro es e; cases e) g
  | _ => exact gen (by intro es e; cases e) g

/-! ### built-in functions -/
def biF : Bi → Value
  | .len => .builtin "len"
  | .abs => .builtin "abs"
  | .max => .builtin "max"
  | .min => .builtin "min"
  | .sum => .builtin "sum"
  | .all => .builtin "all"
  | .any => .builtin "any"
  | .int => .type "int"
  | .str => .type "str"
  | .tuple => .type "tuple"
  | .list => .type "list"
  | .divmod => .builtin "divmod"
  | .gcd => .builtin "math.gcd"
  | .sorted => .builtin "sorted"
theorem paired_of_get {α β : Type} {F : α → β → Prop} : ∀ {xs : List α} {ys : List β}, xs.length = ys.length → (∀ (i : Nat) (x : α) (y : β), xs[i]? = some x → ys[i]? = some y → F x y) → Paired F xs ys
  | [], [], _, _ => .nil
  | [], _ :: _, h, _ => by simp at h
  | _ :: _, [], h, _ => by simp at h
  | x :: xs, y :: ys, h, k => .cons (k 0 x y rfl rfl) (paired_of_get (by simpa using h) fun i a b ha hb => k (i + 1) a b (by simpa using ha) (by simpa using hb))
/-- the signs of a text -/
def rListS : List V → Hp → VK → Prop := fun xs H Q => ∃ a : Str, xs = [.str a] ∧ a.length ≤ sizeLine ∧ ∀ l, H l = none → Q (.ref l) (upd H l (.lst (a.cps.toList.map fun c => V.str ⟨#[c]⟩)))
theorem call_list_signs {X : Cx} (hc : X.calm = true) : CallR X (.type "list") rListS := by
  intro pins s σ H xs us Q I rel w
  obtain ⟨a, rfl, z, q⟩ := w
  obtain ⟨u, rfl, ru⟩ := vals1 rel
  obtain ⟨t, rfl⟩ := ru
  refine call_list_str (I.ok.hd hc) a t (fun h' tk acc' c' kp e it => ?_) z
  obtain ⟨h1, h2⟩ := it
  have hv : Vals (a.cps.toList.map fun c => V.str ⟨#[c]⟩) acc'.toList := by
    refine paired_of_get (by rw [List.length_map]; simpa using h1.symm) fun i v w hv hw => ?_
    rw [List.getElem?_map] at hv
    obtain ⟨c, hc, rfl⟩ := Option.map_eq_some_iff.mp hv
    have hw : acc'[i]? = some w := by simpa using hw
    obtain ⟨c', u, e1, rfl⟩ := h2 i w hw
    have : c = c' := by
      have hc : a.cps[i]? = some c := by simpa using hc
      rw [hc] at e1; cases e1; rfl
    subst this
    exact ⟨u, rfl⟩
  refine ⟨.ref s.heap.objs.size, _, I.laid (t' := tk) kp (Nat.le_refl _) (show ObjOk X.prog X.w _ h' _ (.lst _) from ⟨?_, acc'.toList, c', hv, by simpa using e⟩), rfl, q _ (I.hok.fresh (Nat.le_refl _))⟩
  rw [List.length_map]; show a.cps.toList.length ≤ sizeLine; rw [Array.length_toList]; exact z
def rBi (K : PySem.W.Frag) : Bi → List V → Hp → VK → Prop
  | .len => fun xs H Q => (∃ p ys, xs = [.ref p] ∧ (SqL K H p ys ∨ SqT K H p ys) ∧ Q (.int ys.length) H) ∨ (∃ z, xs = [.str z] ∧ z.length ≤ sizeLine ∧ Q (.int z.length) H)
  | .abs => fun xs H Q => ∃ i, xs = [.int i] ∧ Q (.int (if i < 0 then -i else i)) H
  | .max => fun xs H Q => (∃ i j, xs = [.int i, .int j] ∧ Q (.int (if j > i then j else i)) H) ∨ rMax K xs H Q
  | .min => fun xs H Q => (∃ i j, xs = [.int i, .int j] ∧ Q (.int (if j < i then j else i)) H) ∨ rMin K xs H Q
  | .sum => rSum K
  | .all => rAll K
  | .any => rAny K
  | .int => fun xs H Q => ((∃ i, xs = [.int i] ∧ Q (.int i) H) ∨ ∃ k, xs = [.bl k] ∧ Q (.int (if k then 1 else 0)) H) ∨ (∃ a n, xs = [.str a] ∧ PySem.intText? a = some n ∧ a.length ≤ 640 ∧ Q (.int n) H)
  | .str => fun xs H Q => ∃ i, xs = [.int i] ∧ i.natAbs.log2 < 1920 ∧ Q (.str (toString i)) H
  | .tuple => fun xs H Q => ∃ p ys, xs = [.ref p] ∧ ((SqL K H p ys ∧ ∀ l, H l = none → Q (.ref l) (upd H l (.tup ys))) ∨ (SqT K H p ys ∧ Q (.ref p) H))
  | .list => fun xs H Q => (∃ p ys, xs = [.ref p] ∧ (SqL K H p ys ∨ SqT K H p ys) ∧ ∀ l, H l = none → Q (.ref l) (upd H l (.lst ys))) ∨ rListD xs H Q ∨
    (∃ d kvs, xs = [V.ref d] ∧ Rd H d (.dT kvs) ∧ ∀ p bs, H p = none → IsKeys H kvs bs → Q (.ref p) (upd H p (.lst (bs.map V.ref)))) ∨ rListS xs H Q
  | .divmod => fun xs H Q => ∃ i j, xs = [.int i, .int j] ∧ CDiv i j ∧ ∀ p, H p = none → Q (.ref p) (upd H p (.tup [.int (i / j), .int (i % j)]))
  | .gcd => rGcd
  | .sorted => fun xs H Q => rSortedI K xs H Q ∨ rSortedPO K xs H Q
theorem bi_ok {X : Cx} (hc : X.calm = true) : ∀ b : Bi, CallR X (biF b) (rBi X.K b)
  | .len => CallR.or call_len_seq call_len_str
  | .abs => call_abs
  | .max => CallR.or (call_max2 hc) (cr_max hc)
  | .min => CallR.or (call_min2 hc) (cr_min hc)
  | .sum => cr_sum hc
  | .all => cr_all hc
  | .any => cr_any hc
  | .int => CallR.or call_int1 call_int_str
  | .str => call_str_int
  | .tuple => call_tuple_of
  | .list => CallR.or call_list_of (CallR.or (call_list_dK hc) (CallR.or (call_list_dT hc) (call_list_signs hc)))
  | .divmod => call_divmod
  | .gcd => cr_gcd
  | .sorted => CallR.or cr_sortedI cr_sortedPO
theorem signs_rep {K : PySem.W.Frag} {β : Bk} {H : Hp} : ∀ l : List Nat, Reps K β H (l.map fun c => D.str ⟨#[c]⟩) (l.map fun c => V.str ⟨#[c]⟩)
  | [] => Reps.nil
  | c :: l => Reps.cons (str_rep (show 1 ≤ sizeLine by decide)) (signs_rep l)
theorem reps1 {d : D} {vs : List V} (r : Reps K β H [d] vs) : ∃ v, vs = [v] ∧ Rep K β H d v := by
  obtain ⟨v, vr, rfl, r1, t⟩ := r.uncons
  rw [t.unnil]
  exact ⟨v, rfl, r1⟩
theorem reps2 {d e : D} {vs : List V} (r : Reps K β H [d, e] vs) : ∃ v w, vs = [v, w] ∧ Rep K β H d v ∧ Rep K β H e w := by
  obtain ⟨v, vr, rfl, r1, t⟩ := r.uncons
  obtain ⟨w, rfl, r2⟩ := reps1 t
  exact ⟨v, w, rfl, r1, r2⟩
theorem ints_rep : ∀ {ds : List D} {vs : List V} {is : List Int}, Reps K β H ds vs → intsOf ds = some is → vs = is.map V.int
  | [], _, _, r, e => by rw [r.unnil]; cases e; rfl
  | d :: ds, _, is, r, e => by
    obtain ⟨v, vr, rfl, r1, t⟩ := r.uncons
    cases d with
    | int i =>
      simp only [intsOf] at e
      obtain ⟨js, e1, rfl⟩ := Option.map_eq_some_iff.mp e
      rw [ints_rep t e1, rep_int r1]; rfl
    | _ => simp [intsOf] at e
theorem bools_rep : ∀ {ds : List D} {vs : List V} {is : List Bool}, Reps K β H ds vs → boolsOf ds = some is → vs = is.map V.bl
  | [], _, _, r, e => by rw [r.unnil]; cases e; rfl
  | d :: ds, _, is, r, e => by
    obtain ⟨v, vr, rfl, r1, t⟩ := r.uncons
    cases d with
    | bl i =>
      simp only [boolsOf] at e
      obtain ⟨js, e1, rfl⟩ := Option.map_eq_some_iff.mp e
      rw [bools_rep t e1, rep_bl r1]; rfl
    | _ => simp [boolsOf] at e
theorem strs_rep : ∀ {ds : List D} {vs : List V} {is : List Str}, Reps K β H ds vs → strsOf ds = some is → vs = is.map V.str
  | [], _, _, r, e => by rw [r.unnil]; cases e; rfl
  | d :: ds, _, is, r, e => by
    obtain ⟨v, vr, rfl, r1, t⟩ := r.uncons
    cases d with
    | str i =>
      simp only [strsOf] at e
      obtain ⟨js, e1, rfl⟩ := Option.map_eq_some_iff.mp e
      rw [strs_rep t e1, (rep_str r1).1]; rfl
    | _ => simp [strsOf] at e
theorem reps_strs : ∀ {ys : List Str}, (ys.all fun z => decide (z.length ≤ sizeLine)) = true → Reps K β H (ys.map D.str) (ys.map V.str)
  | [], _ => Reps.nil
  | y :: ys, h => by
    simp only [List.all_cons, Bool.and_eq_true, decide_eq_true_eq] at h
    exact Reps.cons (str_rep h.1) (reps_strs h.2)
theorem intR_go {o : Option Int} (s : SRel K β H S) (h : Go K (Rep K) E β H (intR S o) Q) : ∃ i, o = some i ∧ Q (.int i) H := by
  cases o with
  | none => exact h.elim
  | some b => exact ⟨b, rfl, Go.same h (int_rep _) s⟩
theorem intsD_rep (s : SRel K β H S) {d : D} {v : V} {is : List Int} (r : Rep K β H d v) (h : intsD S d = some is) : ∃ a, v = .ref a ∧ SqL K H a (is.map V.int) := by
  obtain ⟨ds, e1, e2⟩ := Option.bind_eq_some_iff.mp h
  obtain ⟨a, vs, rfl, q, _, t⟩ := asL_rep s r e1
  rw [ints_rep t e2] at q
  exact ⟨a, rfl, SqL.of q⟩
theorem boolsD_rep (s : SRel K β H S) {d : D} {v : V} {is : List Bool} (r : Rep K β H d v) (h : boolsD S d = some is) : ∃ a, v = .ref a ∧ SqL K H a (is.map V.bl) := by
  obtain ⟨ds, e1, e2⟩ := Option.bind_eq_some_iff.mp h
  obtain ⟨a, vs, rfl, q, _, t⟩ := asL_rep s r e1
  rw [bools_rep t e2] at q
  exact ⟨a, rfl, SqL.of q⟩
theorem maxI_max : ∀ {is : List Int} {m : Int}, maxI is = some m → m ∈ is ∧ ∀ y ∈ is, y ≤ m
  | [], _, h => by cases h
  | i :: is, m, h => by
    unfold maxI at h
    split at h
    · rename_i e
      cases h
      cases is with
      | nil => simp
      | cons j js => unfold maxI at e; split at e <;> cases e
    · rename_i j e
      cases h
      obtain ⟨h1, h2⟩ := maxI_max e
      split
      · rename_i c
        refine ⟨List.mem_cons_of_mem _ h1, fun y hy => ?_⟩
        rcases List.mem_cons.mp hy with rfl | hy
        · omega
        · exact h2 y hy
      · rename_i c
        refine ⟨List.mem_cons_self .., fun y hy => ?_⟩
        rcases List.mem_cons.mp hy with rfl | hy
        · omega
        · have := h2 y hy; omega
theorem minI_min : ∀ {is : List Int} {m : Int}, minI is = some m → m ∈ is ∧ ∀ y ∈ is, m ≤ y
  | [], _, h => by cases h
  | i :: is, m, h => by
    unfold minI at h
    split at h
    · rename_i e
      cases h
      cases is with
      | nil => simp
      | cons j js => unfold minI at e; split at e <;> cases e
    · rename_i j e
      cases h
      obtain ⟨h1, h2⟩ := minI_min e
      split
      · rename_i c
        refine ⟨List.mem_cons_of_mem _ h1, fun y hy => ?_⟩
        rcases List.mem_cons.mp hy with rfl | hy
        · omega
        · exact h2 y hy
      · rename_i c
        refine ⟨List.mem_cons_self .., fun y hy => ?_⟩
        rcases List.mem_cons.mp hy with rfl | hy
        · omega
        · have := h2 y hy; omega
theorem same_max {is : List Int} {m n : Int} (h1 : m ∈ is) (h2 : ∀ y ∈ is, y ≤ m) (h3 : n ∈ is) (h4 : ∀ y ∈ is, y ≤ n) : m = n := by
  have := h2 n h3; have := h4 m h1; omega
theorem same_min {is : List Int} {m n : Int} (h1 : m ∈ is) (h2 : ∀ y ∈ is, m ≤ y) (h3 : n ∈ is) (h4 : ∀ y ∈ is, n ≤ y) : m = n := by
  have := h2 n h3; have := h4 m h1; omega
theorem len_go (s : SRel K β H S) {d : D} {v : V} (r : Rep K β H d v) (h : Go K (Rep K) E β H (lenD S d) Q) : rBi K .len [v] H Q := by
  have gen : Go K (Rep K) E β H (match asQ S d with
    | some ds => .ok (.int ds.length) S
    | none => .stuck) Q → rBi K .len [v] H Q := fun g => by
    split at g
    · rename_i ds e1
      obtain ⟨a, vs, rfl, hs, z, r⟩ := asQ_rep s r e1
      exact .inl ⟨a, vs, rfl, hs, by rw [← r.length]; exact Go.same g (int_rep _) s⟩
    · exact g.elim
  cases d with
  | str z =>
    obtain ⟨rfl, hz⟩ := rep_str r
    exact .inr ⟨z, rfl, hz, Go.same h (int_rep _) s⟩
  | _ => exact gen h
theorem kD_rep {k : Key} (h : kOk k = true) : Rep K β H (kD k) (kV k) := by
  cases k with
  | inl i => exact int_rep i
  | inr x => exact str_rep (of_decide_eq_true h)
theorem kDs_rep : ∀ {ks : List Key}, ks.all kOk = true → Reps K β H (ks.map kD) (ks.map kV)
  | [], _ => Reps.nil
  | k :: ks, h => by
    simp only [List.all_cons, Bool.and_eq_true] at h
    exact Reps.cons (kD_rep h.1) (kDs_rep h.2)
theorem out_tup (s : SRel K β H S) {b : Addr} {vs : List V} (h : H b = some (.tup vs)) : b ∉ β.b := fun m => by
  obtain ⟨l, hl⟩ := List.mem_iff_getElem?.mp m
  have hs : l < S.length := by rw [← s.len]; exact (List.getElem?_eq_some_iff.mp hl).1
  obtain ⟨a', g, c⟩ := s.cell l S[l] (by simp [hs])
  rw [hl] at g; cases g
  exact c.not.1 vs h
theorem keysK_rep {fs : List (Key × D)} : ∀ {ws : List (Key × V)}, RepKV K β H fs ws → (fs.all fun kv => kOk kv.1) = true → Reps K β H (fs.map fun kv => kD kv.1) (ws.map fun kv => kV kv.1) := by
  induction fs with
  | nil => intro ws h _; have h : _ = [] := h; subst h; exact Reps.nil
  | cons p r ih =>
    obtain ⟨k, d⟩ := p
    rintro _ ⟨v, wr, rfl, h, t⟩ a
    simp only [List.all_cons, Bool.and_eq_true] at a
    exact Reps.cons (kD_rep a.1) (ih t a.2)
theorem keysT_rep (s : SRel K β H S) {fs : List (List Key × D)} : ∀ {ws : List (List Key × V)} {bs : List Addr}, RepKV K β H fs ws → IsKeys H ws bs → (fs.all fun kv => decide (kv.1.length ≤ sizeLine) && kv.1.all kOk) = true →
    Reps K β H (fs.map fun kv => D.tup (kv.1.map kD)) (bs.map V.ref) := by
  induction fs with
  | nil =>
    intro ws bs h k _
    have h : _ = [] := h
    subst h
    cases k
    exact Reps.nil
  | cons p r ih =>
    obtain ⟨k, d⟩ := p
    rintro _ bs ⟨v, wr, rfl, h, t⟩ kk a
    cases kk with
    | cons hb kr =>
      rename_i b br
      simp only [List.all_cons, Bool.and_eq_true, decide_eq_true_eq] at a
      refine Reps.cons ?_ (ih t kr a.2)
      simp only [Rep]
      exact ⟨b, _, rfl, ⟨out_tup s hb, hb⟩, by rw [List.length_map]; exact a.1.1, kDs_rep a.1.2⟩
theorem list_dict (s : SRel K β H S) {d : D} {v : V} {ks : List D} {m : Bool} (r : Rep K β H d v) (e : dkeysD S d = some ks) (g : Go K (Rep K) E β H (mkL m ks S) Q) : rBi K .list [v] H Q := by
  unfold dkeysD at e
  split at e
  · rename_i l
    simp only [Rep] at r
    obtain ⟨a, ga, rfl⟩ := r
    split at e
    · rename_i kvs q
      obtain ⟨a', g', ob, h1, ws, rfl, z, rk⟩ := s.cell l _ q
      rw [ga] at g'; cases g'
      split at e
      · rename_i c
        cases e
        exact .inr (.inl ⟨a, ws, rfl, h1, (go_lst s (keysK_rep rk c) g).2⟩)
      · cases e
    · rename_i kvs q
      obtain ⟨a', g', ob, h1, ws, rfl, z, rk⟩ := s.cell l _ q
      rw [ga] at g'; cases g'
      split at e
      · rename_i c
        cases e
        exact .inr (.inr (.inl ⟨a, ws, rfl, .inl h1, fun p bs hp hk => (go_lst s (keysT_rep s rk hk c) g).2 p hp⟩))
      · cases e
    · cases e
  · cases e
theorem lexLe_trans (a b c : Int × Int) (h : lexLe a b = true) (k : lexLe b c = true) : lexLe a c = true := by
  simp only [lexLe, decide_eq_true_eq] at *
  omega
theorem lexLe_total (a b : Int × Int) : (lexLe a b || lexLe b a) = true := by
  simp only [lexLe, Bool.or_eq_true, decide_eq_true_eq]
  omega
theorem lexLe_anti (a b : Int × Int) (h : lexLe a b = true) (k : lexLe b a = true) : a = b := by
  simp only [lexLe, decide_eq_true_eq] at *
  exact Prod.ext (by omega) (by omega)
/-- pairs of numbers, by what they stand at -/
theorem pairs_rep : ∀ {ds : List D} {vs : List V} {ps : List (Int × Int)}, Reps K β H ds vs → pairsD ds = some ps →
    ∃ k : V → Int × Int, (∀ v ∈ vs, ∃ t, v = .ref t ∧ t ∉ β.b ∧ H t = some (.tup [.int (k v).1, .int (k v).2])) ∧ vs.map k = ps := by
  have key : ∀ {ds : List D} {vs : List V} {ps : List (Int × Int)}, Reps K β H ds vs → pairsD ds = some ps → ∀ k : V → Int × Int, (∀ t i j, H t = some (.tup [.int i, .int j]) → k (.ref t) = (i, j)) → (∀ v ∈ vs, ∃ t, v = .ref t ∧ t ∉ β.b ∧ H t = some (.tup [.int (k v).1, .int (k v).2])) ∧ vs.map k = ps := by
    intro ds
    induction ds with
    | nil =>
      intro vs ps r e k hk
      rw [r.unnil]
      cases e
      exact ⟨fun v m => (by cases m), rfl⟩
    | cons d ds ih =>
      intro vs ps r e k hk
      obtain ⟨v, vr, rfl, r1, r2⟩ := r.uncons
      unfold pairsD at e
      split at e
      · rename_i q; cases q
      · rename_i i j dr q
        cases q
        obtain ⟨pr, e1, rfl⟩ := Option.map_eq_some_iff.mp e
        obtain ⟨h1, h2⟩ := ih r2 e1 k hk
        simp only [Rep] at r1
        obtain ⟨t, ws, rfl, tp, _, rw2⟩ := r1
        obtain ⟨x, y, rfl, rx, ry⟩ := reps2 rw2
        have hx : x = .int i := by simpa only [Rep] using rx
        have hy : y = .int j := by simpa only [Rep] using ry
        subst hx hy
        have e3 := hk t i j tp.2
        refine ⟨fun w m => ?_, ?_⟩
        · rcases List.mem_cons.mp m with rfl | m
          · exact ⟨t, rfl, tp.1, by rw [e3]; exact tp.2⟩
          · exact h1 w m
        · rw [List.map_cons, e3, h2]
      · cases e
  intro ds vs ps r e
  refine ⟨(fun v => match v with
    | .ref t => (match H t with
      | some (.tup [.int i, .int j]) => (i, j)
      | _ => (0, 0))
    | _ => (0, 0)), ?_⟩
  refine key r e _ fun t i j h => ?_
  simp only [h]
theorem prs_rep {k : V → Int × Int} : ∀ {ys : List V}, (∀ v ∈ ys, ∃ t, v = .ref t ∧ t ∉ β.b ∧ H t = some (.tup [.int (k v).1, .int (k v).2])) → Reps K β H (ys.map fun y => prD (k y)) ys
  | [], _ => Reps.nil
  | y :: ys, h => by
    refine Reps.cons ?_ (prs_rep fun v m => h v (List.mem_cons_of_mem _ m))
    obtain ⟨t, rfl, hb, ht⟩ := h y List.mem_cons_self
    simp only [prD, Rep]
    exact ⟨t, _, rfl, ⟨hb, ht⟩, by show 2 ≤ sizeLine; decide, Reps.cons (int_rep _) (Reps.one (int_rep _))⟩
theorem ints_repsF : ∀ ns : List Int, Reps K β H (ns.map D.int) (ns.map V.int)
  | [] => Reps.nil
  | i :: ns => Reps.cons (int_rep i) (ints_repsF ns)
theorem sorted_go (s : SRel K β H S) {d : D} {v : V} {m : Bool} (r : Rep K β H d v) (g : Go K (Rep K) E β H (sortedD m S d) Q) : rBi K .sorted [v] H Q := by
  unfold sortedD at g
  split at g
  · rename_i ds e
    obtain ⟨a, vs, rfl, hs, z, rs⟩ := asL_rep s r e
    split at g
    · rename_i is ei
      have ev := ints_rep rs ei
      subst ev
      refine .inl ⟨a, is, rfl, SqL.of hs, fun ns' p pm sr hp => ?_⟩
      have eq : is.mergeSort (fun a b => decide (a ≤ b)) = ns' := by
        refine List.Perm.eq_of_pairwise (le := fun a b : Int => a ≤ b) (fun a b _ _ h1 h2 => Int.le_antisymm h1 h2) ?_ sr ((List.mergeSort_perm _ _).trans pm.symm)
        have := List.pairwise_mergeSort (le := fun a b : Int => decide (a ≤ b)) (fun a b c h k => by simp only [decide_eq_true_eq] at *; omega) (fun a b => by simp only [Bool.or_eq_true, decide_eq_true_eq]; omega) is
        exact this.imp fun h => of_decide_eq_true h
      rw [eq] at g
      exact (go_lst s (ints_repsF ns') g).2 p hp
    · split at g
      · rename_i ps ep
        obtain ⟨k, h1, h2⟩ := pairs_rep rs ep
        refine .inr ⟨a, vs, k, rfl, SqL.of hs, fun x mx => let ⟨t, e, _, h⟩ := h1 x mx; ⟨t, e, h⟩, fun ys p sr st hp => ?_⟩
        have eq : ps.mergeSort lexLe = ys.map k := by
          refine List.Perm.eq_of_pairwise (le := fun a b => lexLe a b = true) (fun a b _ _ => lexLe_anti a b) (List.pairwise_mergeSort lexLe_trans lexLe_total ps) ?_ ((List.mergeSort_perm _ _).trans ?_)
          · rw [List.pairwise_map]
            refine List.Pairwise.imp (fun {x y} h => ?_) sr
            have h := SrtO.lexB_no.mp h
            simp only [lexLe, decide_eq_true_eq]
            omega
          · rw [← h2]; exact (st.perm.map k).symm
        have g2 : Go K (Rep K) E β H (mkL m (ys.map fun y => prD (k y)) S) Q := by
          have e3 : (ps.mergeSort lexLe).map prD = ys.map fun y => prD (k y) := by rw [eq, List.map_map]; rfl
          rw [← e3]; exact g
        exact (go_lst s (prs_rep fun v m => h1 v (st.perm.mem_iff.mp m)) g2).2 p hp
      · exact g.elim
  · exact g.elim
theorem bi_go (s : SRel K β H S) (b : Bi) (m : Bool) {ds : List D} {vs : List V} (r : Reps K β H ds vs) (h : Go K (Rep K) E β H (biD b m ds S) Q) : rBi K b vs H Q := by
  have one : ∀ {f : D → R D}, Go K (Rep K) E β H (match (generalizing := false) ds with
      | [d] => f d
      | _ => .stuck) Q → ∃ d v, ds = [d] ∧ vs = [v] ∧ Rep K β H d v ∧ Go K (Rep K) E β H (f d) Q := fun {f} g => by
    split at g
    · rename_i d
      obtain ⟨v, rfl, r1⟩ := reps1 r
      exact ⟨d, v, rfl, rfl, r1, g⟩
    · exact g.elim
  have two : ∀ {f : D → D → R D}, Go K (Rep K) E β H (match (generalizing := false) ds with
      | [d, e] => f d e
      | _ => .stuck) Q → ∃ d e v w, ds = [d, e] ∧ vs = [v, w] ∧ Rep K β H d v ∧ Rep K β H e w ∧ Go K (Rep K) E β H (f d e) Q := fun {f} g => by
    split at g
    · rename_i d e
      obtain ⟨v, w, rfl, r1, r2⟩ := reps2 r
      exact ⟨d, e, v, w, rfl, rfl, r1, r2, g⟩
    · exact g.elim
  cases b with
  | len =>
    obtain ⟨d, v, rfl, rfl, r1, g⟩ := one (f := lenD S) h
    exact len_go s r1 g
  | abs =>
    obtain ⟨d, v, rfl, rfl, r1, g⟩ := one (f := fun d => intR S (absD d)) h
    obtain ⟨i, e, q⟩ := intR_go s g
    cases d with
    | int j => cases e; exact ⟨j, by rw [rep_int r1], q⟩
    | _ => simp [absD] at e
  | max =>
    obtain ⟨i, e, q⟩ := intR_go s h
    unfold maxD at e
    split at e
    · cases e
      obtain ⟨v, w, rfl, r1, r2⟩ := reps2 r
      exact .inl ⟨_, _, by rw [rep_int r1, rep_int r2], q⟩
    · obtain ⟨is, e1, e2⟩ := Option.bind_eq_some_iff.mp e
      obtain ⟨v, rfl, r1⟩ := reps1 r
      obtain ⟨a, rfl, hs⟩ := intsD_rep s r1 e1
      obtain ⟨h1, h2⟩ := maxI_max e2
      exact .inr ⟨a, is, rfl, hs, List.length_pos_of_mem h1, fun m h3 h4 => by rw [same_max h3 h4 h1 h2]; exact q⟩
    · cases e
  | min =>
    obtain ⟨i, e, q⟩ := intR_go s h
    unfold minD at e
    split at e
    · cases e
      obtain ⟨v, w, rfl, r1, r2⟩ := reps2 r
      exact .inl ⟨_, _, by rw [rep_int r1, rep_int r2], q⟩
    · obtain ⟨is, e1, e2⟩ := Option.bind_eq_some_iff.mp e
      obtain ⟨v, rfl, r1⟩ := reps1 r
      obtain ⟨a, rfl, hs⟩ := intsD_rep s r1 e1
      obtain ⟨h1, h2⟩ := minI_min e2
      exact .inr ⟨a, is, rfl, hs, List.length_pos_of_mem h1, fun m h3 h4 => by rw [same_min h3 h4 h1 h2]; exact q⟩
    · cases e
  | sum =>
    obtain ⟨d, v, rfl, rfl, r1, g⟩ := one (f := fun d => intR S ((intsD S d).map List.sum)) h
    obtain ⟨i, e, q⟩ := intR_go s g
    obtain ⟨is, e1, rfl⟩ := Option.map_eq_some_iff.mp e
    obtain ⟨a, rfl, hs⟩ := intsD_rep s r1 e1
    exact ⟨a, is, rfl, hs, q⟩
  | all =>
    obtain ⟨d, v, rfl, rfl, r1, g⟩ := one (f := fun d => blR S ((boolsD S d).map fun (bs : List Bool) => bs.all id)) h
    obtain ⟨i, e, q⟩ := blR_go s g
    obtain ⟨is, e1, rfl⟩ := Option.map_eq_some_iff.mp e
    obtain ⟨a, rfl, hs⟩ := boolsD_rep s r1 e1
    exact ⟨a, is, rfl, hs, q⟩
  | any =>
    obtain ⟨d, v, rfl, rfl, r1, g⟩ := one (f := fun d => blR S ((boolsD S d).map fun (bs : List Bool) => bs.any id)) h
    obtain ⟨i, e, q⟩ := blR_go s g
    obtain ⟨is, e1, rfl⟩ := Option.map_eq_some_iff.mp e
    obtain ⟨a, rfl, hs⟩ := boolsD_rep s r1 e1
    exact ⟨a, is, rfl, hs, q⟩
  | int =>
    obtain ⟨d, v, rfl, rfl, r1, g⟩ := one (f := fun d => intR S (intD d)) h
    obtain ⟨i, e, q⟩ := intR_go s g
    cases d with
    | int j => cases e; exact .inl (.inl ⟨_, by rw [rep_int r1], q⟩)
    | bl j => cases e; exact .inl (.inr ⟨_, by rw [rep_bl r1], q⟩)
    | str z =>
      simp only [intD] at e
      split at e
      · rename_i n e1
        split at e
        · rename_i z1
          cases e
          exact .inr ⟨z, _, by rw [(rep_str r1).1], e1, z1, q⟩
        · cases e
      · cases e
    | _ => simp [intD] at e
  | str =>
    obtain ⟨d, v, rfl, rfl, r1, g⟩ := one (f := strD S) h
    cases d with
    | int j =>
      simp only [strD] at g
      split at g
      · rename_i z
        refine ⟨j, by rw [rep_int r1], z, Go.same g (str_rep (Nat.le_trans (str_len z) (by decide))) s⟩
      · exact g.elim
    | _ => exact False.elim g
  | tuple =>
    obtain ⟨d, v, rfl, rfl, r1, g⟩ := one (f := tupD S) h
    have gen : (∀ es, d ≠ .tup es) → Go K (Rep K) E β H (match asQ S d with
      | some ds => .ok (.tup ds) S
      | none => .stuck) Q → rBi K .tuple [v] H Q := fun nt g => by
      split at g
      · rename_i ds e1
        obtain ⟨a, vs, rfl, hs, z, r⟩ := asQ_list s r1 nt e1
        exact ⟨a, vs, rfl, .inl ⟨hs, go_tup s r z g⟩⟩
      · exact g.elim
    cases d with
    | tup es =>
      simp only [Rep] at r1
      obtain ⟨a, vs, rfl, t, z, r2⟩ := r1
      exact ⟨a, vs, rfl, .inr ⟨t.sq, Go.same g (by simp only [Rep]; exact ⟨a, vs, rfl, t, z, r2⟩) s⟩⟩
    | _ => exact gen (by intro es e; cases e) g
  | list =>
    obtain ⟨d, v, rfl, rfl, r1, g⟩ := one (f := listD m S) h
    unfold listD at g
    split at g
    · rename_i ks e1
      exact list_dict s r1 e1 g
    · split at g
      · rename_i a _
        have e : v = .str a ∧ a.length ≤ sizeLine := by simpa only [Rep] using r1
        refine .inr (.inr (.inr ⟨a, by rw [e.1], e.2, ?_⟩))
        have rs : Reps K β H (signsD a) (a.cps.toList.map fun c => V.str ⟨#[c]⟩) := signs_rep a.cps.toList
        exact (go_lst s rs g).2
      · split at g
        rotate_left
        · exact g.elim
        rename_i ds e1
        obtain ⟨a, vs, rfl, hs, z, r⟩ := asQ_rep s r1 e1
        exact .inl ⟨a, vs, rfl, hs, (go_lst s r g).2⟩
  | divmod =>
    obtain ⟨d, e, v, w, rfl, rfl, r1, r2, g⟩ := two (f := divmodD S) h
    unfold divmodD at g
    split at g
    · rename_i i j
      split at g
      · rename_i c
        exact ⟨i, j, by rw [rep_int r1, rep_int r2], c, go_tup s (Reps.cons (int_rep _) (Reps.one (int_rep _))) (by show 2 ≤ sizeLine; decide) g⟩
      · exact g.elim
    · exact g.elim
  | gcd =>
    obtain ⟨d, e, v, w, rfl, rfl, r1, r2, g⟩ := two (f := fun d e => intR S (gcdD d e)) h
    obtain ⟨i, e1, q⟩ := intR_go s g
    unfold gcdD at e1
    split at e1
    · cases e1
      exact ⟨_, _, by rw [rep_int r1, rep_int r2], q⟩
    · cases e1
  | sorted =>
    obtain ⟨d, v, rfl, rfl, r1, g⟩ := one (f := sortedD m S) h
    exact sorted_go s r1 g

/-! ### methods of built-in types -/
def mtT : Mt → String
  | .append => "list"
  | .extend => "list"
  | .pop => "list"
  | .split => "str"
  | .join => "str"
  | .startswith => "str"
  | .endswith => "str"
  | .index => "list"
def mtId : Mt → String
  | .append => "list.append"
  | .extend => "list.extend"
  | .pop => "list.pop"
  | .split => "str.split"
  | .join => "str.join"
  | .startswith => "str.startswith"
  | .endswith => "str.endswith"
  | .index => "list.index"
def rMt (K : PySem.W.Frag) : Mt → V → List V → Hp → VK → Prop
  | .append => rAppend
  | .extend => rExtend
  | .split => fun x xs H Q => ∃ a b, x = .str a ∧ xs = [.str b] ∧ (b.length == 0) = false ∧ a.length + 2 ≤ sizeLine ∧ rNewStrs (Txt.split a b) H Q
  | .join => fun x xs H Q => ∃ a p, ∃ ys : List Str, x = .str a ∧ xs = [.ref p] ∧ (SqL K H p (ys.map V.str) ∨ SqT K H p (ys.map V.str)) ∧ (ys.map (·.length)).sum + ys.length * a.length ≤ 16777216 ∧ Q (.str (Txt.join a ys)) H
  | .startswith => fun x xs H Q => ∃ a b, x = .str a ∧ xs = [.str b] ∧ Q (.bl (Txt.startswith a b)) H
  | .endswith => fun x xs H Q => ∃ a b, x = .str a ∧ xs = [.str b] ∧ Q (.bl (Txt.endswith a b)) H
  | _ => fun _ _ _ _ => False
theorem mt_ok {X : Cx} : ∀ t : Mt, MtR X (mtId t) (rMt X.K t)
  | .append => mt_append
  | .extend => mt_extend
  | .split => mt_split
  | .join => mt_join
  | .startswith => mt_startswith
  | .endswith => mt_endswith
  | .pop => fun _ _ _ _ _ _ _ _ _ _ _ _ h => h.elim
  | .index => fun _ _ _ _ _ _ _ _ _ _ _ _ h => h.elim
theorem lstAt_rep (s : SRel K β H S) {d : D} {v : V} {l : Nat} {ds : List D} (r : Rep K β H d v) (h : lstAt S d = some (l, ds)) : ∃ a vs, v = .ref a ∧ β.b[l]? = some a ∧ H a = some (.lst vs) ∧ ds.length ≤ sizeLine ∧ Reps K β H ds vs := by
  unfold lstAt at h
  split at h
  · rename_i k
    split at h
    · rename_i es q
      cases h
      simp only [Rep] at r
      obtain ⟨a, g, rfl⟩ := r
      obtain ⟨a', g', qc⟩ := s.cell _ _ q
      obtain ⟨vs, h, z, r⟩ := qc.lst
      rw [g] at g'; cases g'
      exact ⟨a, vs, rfl, g, h, z, r⟩
    · cases h
  · cases h
theorem mt_go (s : SRel K β H S) (t : Mt) (m : Bool) {d : D} {v : V} {ds : List D} {vs : List V} (rd : Rep K β H d v) (r : Reps K β H ds vs) (h : Go K (Rep K) E β H (mtD t m d ds S) Q) : rMt K t v vs H Q := by
  unfold mtD at h
  split at h
  · rename_i e
    obtain ⟨w, rfl, r1⟩ := reps1 r
    unfold appendD at h
    split at h
    · rename_i l es e1
      obtain ⟨a, ws, rfl, g, ha, z, r2⟩ := lstAt_rep s rd e1
      split at h
      · rename_i c
        obtain ⟨x, s'⟩ := s.write g (ds := es ++ [e]) (vs := ws ++ [w]) (by rw [List.length_append]; exact c) (r2.append (Reps.one r1))
        exact ⟨a, ws, w, rfl, rfl, ha, by rw [← r2.length]; exact c, h .non _ _ x non_rep s'⟩
      · exact h.elim
    · exact h.elim
  · rename_i e
    obtain ⟨w, rfl, r1⟩ := reps1 r
    unfold extendD at h
    split at h
    · rename_i l es fs e1 e2
      obtain ⟨a, ws, rfl, g, ha, z, r2⟩ := lstAt_rep s rd e1
      obtain ⟨b, us, rfl, hb, z2, r3⟩ := asL_rep s r1 e2
      split at h
      · rename_i c
        obtain ⟨x, s'⟩ := s.write g (ds := es ++ fs) (vs := ws ++ us) (by rw [List.length_append]; exact c) (r2.append r3)
        exact ⟨a, b, ws, us, rfl, rfl, ha, hb, by rw [← r2.length, ← r3.length]; exact c, h .non _ _ x non_rep s'⟩
      · exact h.elim
    · exact h.elim
  · rename_i e
    obtain ⟨w, rfl, r1⟩ := reps1 r
    unfold splitD at h
    split at h
    · rename_i z y
      split at h
      · rename_i c
        exact ⟨z, y, (rep_str rd).1, by rw [(rep_str r1).1], c.1, c.2.1, (go_lst s (reps_strs c.2.2) h).2⟩
      · exact h.elim
    · exact h.elim
  · rename_i e
    obtain ⟨w, rfl, r1⟩ := reps1 r
    unfold joinD at h
    split at h
    · rename_i z ys e1
      obtain ⟨es, e2, e3⟩ := Option.bind_eq_some_iff.mp e1
      obtain ⟨a, us, rfl, hs, _, r2⟩ := asQ_rep s r1 e2
      rw [strs_rep r2 e3] at hs
      split at h
      · rename_i c
        exact ⟨z, a, ys, (rep_str rd).1, rfl, hs, c.1, Go.same h (str_rep c.2) s⟩
      · exact h.elim
    · exact h.elim
  · rename_i e
    obtain ⟨w, rfl, r1⟩ := reps1 r
    obtain ⟨b, e1, q⟩ := blR_go s h
    unfold startsD at e1
    split at e1
    · cases e1
      exact ⟨_, _, (rep_str rd).1, by rw [(rep_str r1).1], q⟩
    · cases e1
  · rename_i e
    obtain ⟨w, rfl, r1⟩ := reps1 r
    obtain ⟨b, e1, q⟩ := blR_go s h
    unfold endsD at e1
    split at e1
    · cases e1
      exact ⟨_, _, (rep_str rd).1, by rw [(rep_str r1).1], q⟩
    · cases e1
  · exact False.elim h
/-- the receiver is of the method's type -/
theorem mt_ty (s : SRel K β H S) (t : Mt) {d : D} {v : V} (rd : Rep K β H d v) (h : mtTy t d S = true) : tyV K (mtT t) v H := by
  have lst : (lstAt S d).isSome = true → tyV K "list" v H := fun h => by
    obtain ⟨⟨l, es⟩, e1⟩ := Option.isSome_iff_exists.mp h
    obtain ⟨a, ws, rfl, g, ha, z, r2⟩ := lstAt_rep s rd e1
    exact .inl ⟨rfl, ws, SqL.of ha⟩
  have isS : ∀ {z : Str}, d = .str z → tyV K "str" v H := fun {z} e1 => by
    subst e1
    rw [(rep_str rd).1]; rfl
  cases t with
  | append => exact lst h
  | extend => exact lst h
  | pop => exact lst h
  | index =>
    obtain ⟨es, e1⟩ := Option.isSome_iff_exists.mp (show (asL S d).isSome = true from h)
    obtain ⟨a, vs, rfl, q, _, _⟩ := asL_rep s rd e1
    exact .inl ⟨rfl, vs, SqL.of q⟩
  | split => cases d <;> first | exact isS rfl | (simp [mtTy] at h)
  | join => cases d <;> first | exact isS rfl | (simp [mtTy] at h)
  | startswith => cases d <;> first | exact isS rfl | (simp [mtTy] at h)
  | endswith => cases d <;> first | exact isS rfl | (simp [mtTy] at h)
/-! ### isinstance -/
/-- what kind of thing a value is -/
def kdN (S : Store) : D → Option String
  | .non => some "NoneType"
  | .bl _ => some "bool"
  | .int _ => some "int"
  | .str _ => some "str"
  | .tup _ => some "tuple"
  | .lst _ => some "list"
  | .fz _ => some "list"
  | .ref l => match S[l]? with
    | some (.lst _) => some "list"
    | _ => none
def tyN : Ty → String
  | .int => "int"
  | .bool => "bool"
  | .str => "str"
  | .tuple => "tuple"
  | .list => "list"
  | .dict => "dict"
def tyIs (a b : String) : Bool := a == b || (a == "bool" && b == "int")
theorem kd_ty (s : SRel K β H S) {d : D} {v : V} {k : String} (r : Rep K β H d v) (h : kdN S d = some k) : TyX K H v (.type k) := by
  cases d with
  | non => cases h; rw [rep_non r]; exact .base .non
  | bl b => cases h; rw [rep_bl r]; exact .base (.bl b)
  | int i => cases h; rw [rep_int r]; exact .base (.int i)
  | str i => cases h; rw [(rep_str r).1]; exact .base (.str i)
  | tup ds =>
    cases h
    simp only [Rep] at r
    obtain ⟨a, vs, rfl, t, _, _⟩ := r
    exact .base (.tup t.2)
  | lst ds =>
    cases h
    simp only [Rep] at r
    obtain ⟨a, vs, rfl, ⟨_, _, t⟩, _, _⟩ := r
    exact .base (.lst t)
  | fz ds =>
    cases h
    simp only [Rep] at r
    obtain ⟨a, vs, rfl, t, _, _⟩ := r
    rcases t with ⟨_, o, t⟩ | ⟨o, its, n, t, c, _⟩
    · exact .base (.frz t)
    · exact .kList t c
  | ref l =>
    simp only [kdN] at h
    split at h
    · rename_i ds q
      cases h
      obtain ⟨a, vs, rfl, t, _, _⟩ := asL_rep (ds := ds) s r (by simp [asL, q])
      exact .base (.lst t)
    · cases h
theorem kit_ty (k : String) (t : Ty) (h : k ∈ ["NoneType", "bool", "int", "str", "tuple", "list"]) : PySem.W.kitOne K (.type k) (.type (tyN t)) = some (tyIs k (tyN t)) := by
  simp only [List.mem_cons, List.not_mem_nil, or_false] at h
  rcases h with rfl | rfl | rfl | rfl | rfl | rfl <;> cases t <;> rfl
end
end Pyx
end
section
/-! From the machine's syntax to the small one. -/
namespace Pyx
open PySem

/-- the names of a block by places; fn: whose cells were made here -/
structure Sc where
  N : List Str
  sc : Scope
  fn : Str → Bool
  /-- an exception is handled; the slot of the one at hand -/
  hot : Bool
  xs : Option Nat
/-- what the program's top holds, by names; mu: where a list is made that is written later -/
structure Pr where
  ps : Str → Option (List Str)
  gl : Str → Option D
  bl : Str → Bool
  mu : Pos → Bool
  /-- the keyword calls that are known to bind -/
  kw : Str → Nat → List Str → Bool
  /-- the classes with a field, with a method -/
  fl : Str → List Str
  mc : Str → List Str
  /-- how many parameters a class's method has, its __init__ -/
  ms : Str → Str → Option Nat
  ci : Str → Option Nat
  /-- where a dict of tuples is made -/
  dk : Pos → Bool
  /-- the field of an error class -/
  ex : Str → Option Str
  /-- the error classes with a field; which of them are of a class; which an except clause of a class takes -/
  ef : Str → List Str
  xi : Str → Option (List (Str × Bool))
  xm : Str → Option (List (Str × Bool))
  /-- defs that are called where an exception is handled -/
  hp : Str → Option (List Str)

def esOf : List E → Es
  | [] => .nil
  | e :: es => .cons e (esOf es)
def onX (c : Sc) (i : Nat) : Bool := c.xs == some i
def plc (c : Sc) (x : Str) : Option Nat :=
  match c.N.findIdx? (· == x), c.sc.names.lookup x with
  | some i, some .local => if onX c i then none else some i
  | some i, some .cell => if onX c i then none else some i
  | some i, some .free => if onX c i then none else some i
  | _, _ => none
def stq (c : Sc) (x : Str) : Option Nat :=
  match c.N.findIdx? (· == x), c.sc.names.lookup x with
  | some i, some .local => if onX c i then none else some i
  | some i, some .cell => if onX c i then none else if c.fn x then some i else none
  | _, _ => none
def isGl (c : Sc) (x : Str) : Bool := c.sc.names.lookup x == some .globalImplicit
def okN (x : Str) : Bool := !(x == ("__debug__" : Str)) && !(x == ("__classdict__" : Str)) && !(x == ("__name__" : Str))
/-- the slot of the exception at hand, by its name -/
def exq (c : Sc) (x : Str) : Option Nat :=
  match c.N.findIdx? (· == x), c.sc.names.lookup x with
  | some i, some .local => if onX c i && okN x then some i else none
  | _, _ => none
def trK : Const → E
  | .int i => .con (.int i)
  | .bool b => .con (.bl b)
  | .none => .con .non
  | .str s => if s.length ≤ sizeLine then .con (.str s) else .never
  | _ => .never
def trN (P : Pr) (c : Sc) (x : Str) : E :=
  if okN x then (match plc c x with
    | some i => .var i
    | none => if isGl c x && (P.gl x).isSome then .glob x else .never) else .never
def trBop : Operator → Option BOp
  | .Add => some .add
  | .Sub => some .sub
  | .Mult => some .mul
  | .FloorDiv => some .fdiv
  | .Mod => some .mod
  | .Pow => some .pow
  | _ => none
def trCop : CmpOp → COp
  | .Eq => .eq
  | .NotEq => .ne
  | .Lt => .lt
  | .LtE => .le
  | .Gt => .gt
  | .GtE => .ge
  | .Is => .is
  | .IsNot => .isnot
  | .In => .isin
  | .NotIn => .notin
def isStar : Expr → Bool
  | .Starred _ _ => true
  | _ => false
def isSet : Expr → Bool
  | .Set _ _ _ => true
  | _ => false
def isSlice : Expr → Bool
  | .Slice _ _ _ _ => true
  | _ => false
def isComp : Expr → Bool
  | .ListComp _ _ _ _ => true
  | .SetComp _ _ _ _ => true
  | .DictComp _ _ _ _ _ => true
  | _ => false
def isCall0 : Expr → Bool
  | .Call _ [] [] _ => true
  | _ => false
def noStar (es : List Expr) : Bool := es.all fun e => !isStar e
def trBool (f : Expr → E) (o : BoolOp) : List Expr → E
  | [] => .never
  | [e] => f e
  | e :: es => match o with
    | .And => .and (f e) (trBool f o es)
    | .Or => .or (f e) (trBool f o es)
def trCmp (f : Expr → E) (a : Expr) (ops : List CmpOp) (bs : List Expr) : E :=
  match ops, bs with
  | [o], [b] => if isSet b then .never else .cmp (trCop o) (f a) (f b)
  | [o, p], [b, d] => if isSet b || isSet d then .never else .cmp2 (trCop o) (trCop p) (f a) (f b) (f d)
  | _, _ => .never
def trO (f : Expr → E) : Option Expr → Ob
  | none => .none
  | some e => .some (f e)
def trSub (P : Pr) (f : Expr → E) (a i : Expr) (pos : Pos) : E :=
  match i with
  | .Slice lo hi none _ => .sl (P.mu pos) (f a) (trO f lo) (trO f hi)
  | .Slice none none (some (.UnaryOp .USub (.Constant (.int 1) _ _) _)) _ => .rev (f a)
  | .Slice _ _ _ _ => .never
  | i => .ix (f a) (f i)
def trTy : Str → Option Ty := fun x =>
  if x = "int" then some .int else if x = "bool" then some .bool else if x = "str" then some .str
  else if x = "tuple" then some .tuple else if x = "list" then some .list else if x = "dict" then some .dict else none
def trBi : Str → Option Bi := fun x =>
  if x = "len" then some .len else if x = "abs" then some .abs else if x = "max" then some .max else if x = "min" then some .min
  else if x = "sum" then some .sum else if x = "all" then some .all else if x = "any" then some .any else if x = "int" then some .int
  else if x = "str" then some .str else if x = "tuple" then some .tuple else if x = "list" then some .list
  else if x = "divmod" then some .divmod else if x = "sorted" then some .sorted else none
def trMt : Str → Option Mt := fun x =>
  if x = "append" then some .append else if x = "extend" then some .extend else if x = "split" then some .split else if x = "join" then some .join
  else if x = "startswith" then some .startswith else if x = "endswith" then some .endswith else none
def tyName (P : Pr) (c : Sc) : Expr → Option Ty
  | .Name x _ => if isGl c x && P.bl x && okN x then trTy x else none
  | _ => none
def kwNames : List Keyword → Option (List Str)
  | [] => some []
  | ⟨some x, _, _⟩ :: ks => (kwNames ks).map (x :: ·)
  | _ => none
/-- for each parameter the place of its value among the positional ones and the keywords -/
def kwPlan (ps : List Str) (n : Nat) (ks : List Str) : Option (List Nat) :=
  if n + ks.length = ps.length then ((ps.drop n).mapM fun x => (ks.findIdx? (· == x)).map (n + ·)).map (List.range n ++ ·) else none
/-- methods of dicts and of own classes -/
def trMth (P : Pr) (f : Expr → E) (o : Expr) (m : Str) (as : List Expr) : E :=
  if m = "get" then (match as with
    | [k] => .dgt (f o) (f k)
    | [k, z] => .dgt2 (f o) (f k) (f z)
    | _ => .never)
  else if (P.mc m).all (fun c => P.ms c m == some (as.length + 1)) ∧ as.length < 29 then .mth (f o) m (P.mc m) (esOf (as.map f)) else .never
def trCall (P : Pr) (c : Sc) (f : Expr → E) (g : Expr) (as : List Expr) (kws : List Keyword) (pos : Pos) : E :=
  if noStar as then (match g with
    | .Name x _ => if isGl c x && okN x then (match P.ps x, kws with
      | some ps, [] => if as.length = ps.length then .call x (esOf (as.map f)) else .never
      | some ps, _ :: _ => (match kwNames kws with
        | some ks => if P.kw x as.length ks then (match kwPlan ps as.length ks with
          | some pl => .callk x (esOf (as.map f)) pl (esOf (kws.map fun k => f k.value))
          | none => .never) else .never
        | none => .never)
      | none, [] => if P.bl x then (if x = "isinstance" then (match as with
          | [a, .Tuple ts _ _] => (match ts.mapM (tyName P c) with
            | some tys => if tys.length = 0 ∨ 100 < tys.length then .never else .isin (f a) tys
            | none => .never)
          | [a, t] => (match tyName P c t with
            | some ty => .isin (f a) [ty]
            | none => .never)
          | _ => .never) else match trBi x with
            | some b => if as = [] then .never else .bi b (P.mu pos) (esOf (as.map f))
            | none => .never) else (match P.ci x with
          | some np => if as.length + 1 = np ∧ as ≠ [] then .mk x (esOf (as.map f)) else .never
          | none => .never)
      | none, _ => .never) else .never
    | .Attribute o m apos => if !isCall0 o && (apos.endLine == pos.line) then (match trMt m, kws, as with
      | some t, [], [a] => .mt t (P.mu pos) (f o) (esOf [f a])
      | none, [], as => trMth P f o m as
      | _, _, _ => .never) else .never
    | _ => .never) else .never
/-- a hot def's key -/
def hkey (x : Str) : Str := x ++ "!"
/-- calls where an exception is handled -/
def trHot (P : Pr) (c : Sc) (f : Expr → E) (g : Expr) (as : List Expr) (kws : List Keyword) (pos : Pos) : E :=
  match g, as, kws with
  | .Name x _, [.Name y yp, .Name z zp], [] => if x = "isinstance" ∧ (isGl c x && P.bl x) = true then (match exq c y with
      | some sl => (match P.xi z with
        | some ms => if isGl c z && okN z then .xis sl ms else .never
        | none => .never)
      | none => (match tyName P c (.Name z zp) with
        | some ty => .isin (f (.Name y yp)) [ty]
        | none => .never)) else (match P.hp x with
      | some ps => if isGl c x && okN x && decide (2 = ps.length) then .call (hkey x) (esOf ([.Name y yp, .Name z zp].map f)) else .never
      | none => .never)
  | .Name x _, a :: as, [] => (match P.hp x with
    | some ps => if isGl c x && okN x && noStar (a :: as) && decide ((a :: as).length = ps.length) then .call (hkey x) (esOf ((a :: as).map f)) else .never
    | none => .never)
  | _, _, _ => .never
/-- len(set(a)), other calls -/
def trLen (P : Pr) (c : Sc) (f : Expr → E) (g : Expr) (as : List Expr) (kws : List Keyword) (pos : Pos) : E :=
  if c.hot then trHot P c f g as kws pos else match g, as, kws with
  | .Name x _, [.Call (.Name y _) [a] [] _], [] => if x = "len" ∧ y = "set" then (if isGl c x && isGl c y && P.bl x && P.bl y && !isStar a then .lset (f a) else .never) else trCall P c f g as kws pos
  | _, _, _ => trCall P c f g as kws pos
def tgsOf : List Tg → Tgs
  | [] => .nil
  | t :: ts => .cons t (tgsOf ts)
def trSrc (P : Pr) (c : Sc) (f : Expr → E) (tg e : Expr) : Option Src :=
  match e with
  | .Call (.Name x p) as [] q =>
    if isGl c x && P.bl x && okN x then
      (if x = "range" then (if noStar as && (as.length == 1 || as.length == 2) then some (.rng (esOf (as.map f))) else none)
      else if x = "enumerate" then (match as, tg with
        | [a], .Tuple _ _ _ => if noStar as then some (.enum (f a)) else none
        | _, _ => none)
      else if x = "zip" then (match as, tg with
        | [a, b], .Tuple _ _ _ => if noStar as then some (.zip (f a) (f b)) else none
        | _, _ => none)
      else if x = "reversed" then none
      else some (.val (f (.Call (.Name x p) as [] q)))) else some (.val (f (.Call (.Name x p) as [] q)))
  | .Set _ _ _ => none
  | e => some (.val (f e))
/-- the block's own names and their places -/
def ownOf (c : Sc) (scope : Scope) : Option (List (Str × Nat)) :=
  some ((scope.names.filter fun y => y.2 == .local || y.2 == .cell).filterMap fun y => (c.N.findIdx? (· == y.1)).map fun i => (y.1, i))
def inner (c : Sc) (scope : Scope) : Sc := ⟨c.N, L2.relS scope c.sc, fun x => scope.names.lookup x == some .cell, c.hot, c.xs⟩
mutual
def Tg.slots : Tg → List Nat
  | .var i => [i]
  | .sub _ _ => []
  | .tup ts => Tgs.slots ts
def Tgs.slots : Tgs → List Nat
  | .nil => []
  | .cons t ts => t.slots ++ ts.slots
end
mutual
def Tg.plain : Tg → Bool
  | .var _ => true
  | .sub _ _ => false
  | .tup ts => Tgs.plain ts
def Tgs.plain : Tgs → Bool
  | .nil => true
  | .cons t ts => t.plain && ts.plain
end
mutual
def trT (c : Sc) (f : Expr → E) : Nat → Expr → Option Tg
  | 0, _ => none
  | n + 1, e => match e with
    | .Name x _ => (stq c x).map .var
    | .Subscript o i _ => if isSlice i then none else some (.sub (f o) (f i))
    | .Tuple es _ _ => if c.hot then none else if noStar es then (trTs c f n es).map .tup else none
    | _ => none
def trTs (c : Sc) (f : Expr → E) : Nat → List Expr → Option Tgs
  | 0, _ => none
  | _ + 1, [] => some .nil
  | n + 1, e :: es => match trT c f n e, trTs c f n es with
    | some t, some ts => some (.cons t ts)
    | _, _ => none
end
def trComp (P : Pr) (c : Sc) (f : Sc → Expr → E) (n : Nat) (elt : Expr) (gens : List Comprehension) (scope : Scope) (pos : Pos) : E :=
  if c.hot then .never else match gens, ownOf c scope with
  | [⟨tg, iter, ifs, 0⟩], some own =>
    if L2.blkC c.N c.sc scope own = true ∧ ifs.length ≤ 1 then
      (match trSrc P c (f c) tg iter, trT (inner c scope) (f (inner c scope)) n tg with
      | some s, some t => if t.plain && (t.slots.all fun i => (own.map (·.2)).contains i) then
          .comp (P.mu pos) (own.map (·.2)) (f (inner c scope) elt) t s (esOf (ifs.map (f (inner c scope)))) else .never
      | _, _ => .never) else .never
  | [⟨tg, iter, ifs, 0⟩, ⟨tg1, iter1, ifs1, 0⟩], some own =>
    if L2.blkC c.N c.sc scope own = true ∧ ifs.length ≤ 1 ∧ ifs1.length ≤ 1 then
      (match trSrc P c (f c) tg iter, trT (inner c scope) (f (inner c scope)) n tg, trSrc P (inner c scope) (f (inner c scope)) tg1 iter1, trT (inner c scope) (f (inner c scope)) n tg1 with
      | some s, some t, some s1, some t1 => if t.plain && t1.plain && (t.slots.all fun i => (own.map (·.2)).contains i) && (t1.slots.all fun i => (own.map (·.2)).contains i) then
          .comp2 (P.mu pos) (own.map (·.2)) (f (inner c scope) elt) t s (esOf (ifs.map (f (inner c scope)))) t1.slots t1 s1 (esOf (ifs1.map (f (inner c scope)))) else .never
      | _, _, _, _ => .never) else .never
  | _, _ => .never
def trAtt (P : Pr) (c : Sc) (f : Expr → E) (a : Expr) (x : Str) : E :=
  if c.hot then (match a with
    | .Name y _ => (match exq c y with
      | some sl => .xf sl x (P.ef x)
      | none => .fld (f a) x (P.fl x))
    | a => if isCall0 a then .never else .fld (f a) x (P.fl x))
  else if isCall0 a then .never else .fld (f a) x (P.fl x)
def trE (P : Pr) : Nat → Sc → Expr → E
  | 0, _, _ => .never
  | n + 1, c, e => match e with
    | .Constant k _ _ => trK k
    | .Name x _ => trN P c x
    | .BinOp a o b _ => (match trBop o with
      | some o' => .bin o' (trE P n c a) (trE P n c b)
      | none => .never)
    | .UnaryOp .USub a _ => .neg (trE P n c a)
    | .UnaryOp .Not a _ => .not (trE P n c a)
    | .BoolOp o es _ => trBool (trE P n c) o es
    | .Compare a ops bs _ => trCmp (trE P n c) a ops bs
    | .IfExp t a b _ => .ite (trE P n c t) (trE P n c a) (trE P n c b)
    | .Tuple es _ _ => if noStar es then .tup (esOf (es.map (trE P n c))) else .never
    | .List es pos => if noStar es then .lst (P.mu pos) (esOf (es.map (trE P n c))) else .never
    | .Subscript a i pos => trSub P (trE P n c) a i pos
    | .Call g as kws pos => trLen P c (trE P n c) g as kws pos
    | .ListComp elt gens scope pos => trComp P c (trE P n) n elt gens scope pos
    | .Attribute a x _ => trAtt P c (trE P n c) a x
    | .Dict ks vs pos => (match ks, vs with
      | [], [] => .dnew (P.dk pos)
      | [some k], [v] => .dlit (P.dk pos) (trE P n c k) (trE P n c v)
      | _, _ => .never)
    | _ => .never

/-- what swappedStores says where it says something without a look at the machine -/
def swp (c : Sc) (targets : List Expr) (value : Expr) : Option (Option (List Str)) :=
  match targets, value with
  | [.Tuple ts _ _], .Tuple vs _ _ =>
    if !(ts.length == 2 || ts.length == 3) || vs.length != ts.length then some none
    else if vs.any isStar then none
    else
      let line := (ts.head?.map (·.pos.line)).getD 0
      let names := ts.filterMap fun
        | .Name id pos => if c.sc.names.lookup id == some .local && pos.line == line then some id else none
        | _ => none
      if names.length != ts.length || names.eraseDups.length != names.length then some none
      else if vs.all (foldedForSure 8) then some none
      else if vs.all (constantsAlone 8) then none
      else some (some names)
  | [.List _ _], _ => none
  | [_], _ => some none
  | _, _ => none
/-- does swapsWith say no, yes -/
def swc (c : Sc) (e : Expr) (t : Expr) : Option Bool :=
  match e with
  | .ListComp _ _ s p => (match t with
    | .Name x q => some (c.sc.names.lookup x == some .local && q.line == p.line && !(s.names.any fun (n, k) => n == x && (k == .local || k == .cell)))
    | _ => some false)
  | .SetComp _ _ _ _ => none
  | .DictComp _ _ _ _ _ => none
  | _ => some false
def ssOf : List S → Ss
  | [] => .nil
  | s :: ss => .cons s (ssOf ss)
def trF (P : Pr) (n : Nat) (c : Sc) (o : Expr) (x : Str) (e t : Expr) : S :=
  if isCall0 o = false ∧ swc c e t = some false then .setf (trE P n c o) x (P.fl x) (trE P n c e) else .never
def trA (P : Pr) (n : Nat) (c : Sc) (t e : Expr) : S :=
  if c.hot && (swp c [t] e != some none) then .never else match trT c (trE P n c) n t, swp c [t] e, swc c e t with
  | some t', some none, some _ => .asg t' (trE P n c e)
  | some t', some (some _), some false => (match t, e with
    | .Tuple [.Name x _, .Name y _] _ _, .Tuple [_, _] _ _ => if x = y then .never else .asg t' (trE P n c e)
    | .Tuple [.Name x _, .Name y _, .Name z _] _ _, .Tuple [_, _, _] _ _ => if x = y || x = z || y = z then .never else .asg t' (trE P n c e)
    | _, _ => .never)
  | _, _, _ => .never
def trRs (P : Pr) (n : Nat) (c : Sc) (o o2 : Option Expr) : S :=
  if c.hot then .never else match o, o2 with
  | some (.Call (.Name x _) [e] [] _), none => (match P.ex x with
    | some f => if isGl c x && okN x && !isStar e then .raise x (some f) (esOf [trE P n c e]) else .never
    | none => .never)
  | _, _ => .never
/-- except x as y: who is taken, y's slot -/
def exh (P : Pr) (c : Sc) (x y : Str) : Option (List (Str × Bool) × Nat) :=
  match P.xm x, c.N.findIdx? (· == y), c.sc.names.lookup y with
  | some ms, some i, some .local => if isGl c x && okN x then some (ms, i) else none
  | _, _, _ => none
/-- the one statement of a try -/
def trTk (P : Pr) (n : Nat) (c : Sc) : Stmt → Option (Tk × E)
  | .Assign [.Name y yp] e _ => (match stq c y, c.sc.names.lookup y, swp c [.Name y yp] e, swc c e (.Name y yp) with
    | some i, some .local, some none, some false => some (.asg i, trE P n c e)
    | _, _, _, _ => none)
  | .Expr e _ => if isComp e then none else some (.drop, trE P n c e)
  | .Return (some e) _ => some (.ret, trE P n c e)
  | _ => none
def trS (P : Pr) : Nat → Sc → Stmt → S
  | 0, _, _ => .never
  | n + 1, c, s => match s with
    | .Assign [.Attribute o x p] e _ => trF P n c o x e (.Attribute o x p)
    | .Assign [t] e _ => trA P n c t e
    | .Expr e _ => if isComp e then .never else .expr (trE P n c e)
    | .Return (some e) _ => .ret (trE P n c e)
    | .Return none _ => .retN
    | .If t a b _ => .ite (trE P n c t) (ssOf (a.map (trS P n c))) (ssOf (b.map (trS P n c)))
    | .For tg it b [] _ => if c.hot then .never else (match trSrc P c (trE P n c) tg it, trT c (trE P n c) n tg with
      | some s', some t' => .for t' s' (ssOf (b.map (trS P n c)))
      | _, _ => .never)
    | .While t b [] _ => .while (trE P n c t) (ssOf (b.map (trS P n c)))
    | .Raise o o2 _ => trRs P n c o o2
    | .Try [s] [.ExceptHandler (some (.Name x _)) (some y) (b :: bs) _] [] [] _ => if c.hot then .never else (match exh P c x y with
      | some (ms, sl) => (match trTk P n c s with
        | some (k, e) => .tryx k e ms sl (ssOf ((b :: bs).map (trS P n { c with hot := true, xs := some sl })))
        | none => .never)
      | none => .never)
    | .Pass _ => .pass
    | .Break _ => .brk
    | .Continue _ => .cont
    | _ => .never
end Pyx
end
section
/-! The reckoning is what the machine does: expressions. -/
namespace Pyx
open PySem L2

theorem R.bind_assoc {α β γ : Type} (r : R α) (f : α → Store → R β) (g : β → Store → R γ) : (r.bind f).bind g = r.bind fun a S => (f a S).bind g := by
  cases r <;> rfl
theorem R.bind_congr {α β : Type} {r : R α} {f g : α → Store → R β} (h : ∀ a S, f a S = g a S) : r.bind f = r.bind g := by
  cases r with
  | ok a S => exact h a S
  | _ => rfl
abbrev NX : XW := fun _ _ _ => False
/-- at a store; at any -/
def FlyE [Fly] (K : PySem.W.Frag) (σ : St) : XW := fun x β H => ∀ cls d, ExcRep K β H x cls d → Fly.f σ cls d H
def FlyA [Fly] (K : PySem.W.Frag) : XW := fun x β H => ∀ σ, FlyE K σ x β H
/-- the ways out of the context are open -/
def Open [Fly] (X : Cx) : Prop := ∀ σ, PassesAt (L2N.CX X.prog X.w) X σ (Fly.f σ)
abbrev FnX (X : Cx) (n : Nat) (f : Addr) (fd : FuncData) (ps : List Str) (sp : Sp) : Prop := FnOk X.prog X.w X.K X.mg X.base (L2N.CX X.prog X.w) n f fd ps sp
/-- the reading of an answer -/
def Rg [Fly] {α τ : Type} (K : PySem.W.Frag) (Rp : Bk → Hp → α → τ → Prop) (r : Env → Store → R α) : St → Hp → (τ → Hp → Prop) → Prop := fun σ H Q =>
  ∃ ρ S β, ERel K β H ρ σ ∧ SRel K β H S ∧ Go K Rp (FlyE K σ) β H (r ρ S) Q
/-- where nothing is let out -/
def RgN {α τ : Type} (K : PySem.W.Frag) (Rp : Bk → Hp → α → τ → Prop) (r : Env → Store → R α) : St → Hp → (τ → Hp → Prop) → Prop := fun σ H Q =>
  ∃ ρ S β, @ERel K never β H ρ σ ∧ SRel K β H S ∧ Go K Rp NX β H (r ρ S) Q
variable [Fly] {E : XW}
theorem Go.one {α τ : Type} {K : PySem.W.Frag} {Rp : Bk → Hp → α → τ → Prop} {β : Bk} {H : Hp} {r : R α} {Q : τ → Hp → Prop} {σ : St} (h : Go K Rp (FlyA K) β H r Q) : Go K Rp (FlyE K σ) β H r Q := by
  cases r with
  | ok a S' => exact h
  | exc x S' => exact fun b c y z => h b c y z σ
  | stuck => exact h
abbrev RE (X : Cx) (r : Env → Store → R D) : TE := Rg X.K (Rep X.K) r
abbrev RA (X : Cx) (r : Env → Store → R (List D)) : TA := Rg X.K (Reps X.K) r
abbrev RT (X : Cx) (r : Env → Store → R Bool) : TT := Rg X.K Is r
abbrev RO (X : Cx) (r : Env → Store → R (Option Int)) : TO := Rg X.K Is r
/-- its answer as a test -/
def tst (r : Env → Store → R D) : Env → Store → R Bool := fun ρ S => (r ρ S).bind fun d S1 => condS S1 d
section
variable {X : Cx} {e a b d : Expr} {pos : Pos}
theorem _root_.L2.PE.cv {t t' : TE} (h : PE X e t) (c : ∀ σ H Q, t' σ H Q → t σ H Q) : PE X e t' := ⟨fun pins s σ H Q I w => h.run pins s σ H Q I (c σ H Q w)⟩
theorem _root_.L2.PT.cv {t t' : TT} (h : PT X e t) (c : ∀ σ H Q, t' σ H Q → t σ H Q) : PT X e t' := ⟨fun pins s σ H Q I w => h.run pins s σ H Q I (c σ H Q w)⟩
theorem _root_.L2.PW.cv {t t' : TT} (h : PW X e t) (c : ∀ σ H Q, t' σ H Q → t σ H Q) : PW X e t' := ⟨fun wh pins s σ H Q I w => h.run wh pins s σ H Q I (c σ H Q w)⟩
theorem _root_.L2.PA.cv {es : List Expr} {t t' : TA} (h : PA X es t) (c : ∀ σ H Q, t' σ H Q → t σ H Q) : PA X es t' := ⟨fun p pins s σ H Q I w => h.run p pins s σ H Q I (c σ H Q w)⟩
theorem Rg.never {α τ : Type} {K : PySem.W.Frag} {Rp : Bk → Hp → α → τ → Prop} {σ : St} {H : Hp} {Q : τ → Hp → Prop} (h : Rg K Rp (fun _ _ => .stuck) σ H Q) : False := by
  obtain ⟨_, _, _, _, _, g⟩ := h
  exact g
theorem g_never : PE X e (RE X fun _ _ => .stuck) := ⟨fun _ _ _ _ _ _ h => (Rg.never h).elim⟩
theorem t_never : PT X e (RT X fun _ _ => .stuck) := ⟨fun _ _ _ _ _ _ h => (Rg.never h).elim⟩
variable {ra rb rd : Env → Store → R D}
theorem g_var {i : Nat} {x : Str} (ho : Off i) (hN : X.N[i]? = some x) (hv : Vis X.env.scope x) (hd : (x == ("__debug__" : Str)) = false) (hcd : (x == ("__classdict__" : Str)) = false) :
    PE X (.Name x pos) (RE X fun ρ S => give S (ρ[i]?.join)) := (pe_var hN hv hd hcd).cv fun σ H Q ⟨ρ, S, β, er, sr, g⟩ => by
  obtain ⟨d, e, g⟩ := Go.give g
  obtain ⟨v, e2, r⟩ := er.at_ i d ho (by
    cases q : ρ[i]? with
    | none => rw [q] at e; cases e
    | some o => rw [q] at e; cases o with
      | none => cases e
      | some d' => cases e; rfl)
  exact ⟨v, e2, Go.same g r sr⟩
theorem g_con {d : D} {v : V} (h : PE X e (tC v)) (r : ∀ β H, Rep X.K β H d v) : PE X e (RE X fun _ S => .ok d S) := h.cv fun σ H Q ⟨ρ, S, β, er, sr, g⟩ => Go.same g (r β H) sr
theorem g_glob {x : Str} {d : D} {u : Value} {v : V} (hg : Gl X x) (hm : X.mg x = some u) (ru : RelV v u) (r : ∀ β H, Rep X.K β H d v) (hd : (x == ("__debug__" : Str)) = false) {o : Option D} (ho : o = some d) :
    PE X (.Name x pos) (RE X fun _ S => give S o) := by
  subst ho
  exact g_con (pe_glob hg hm ru hd) r
theorem g_bin {o : BOp} (ha : PE X a (RE X ra)) (hb : PE X b (RE X rb)) : PE X (.BinOp a (opOf o) b pos) (RE X fun ρ S => (ra ρ S).bind fun x S1 => (rb ρ S1).bind fun y S2 => binD o x y S2) :=
  (pe_op (bin_ok o) ha hb).cv fun σ H Q ⟨ρ, S, β, er, sr, g⟩ => ⟨ρ, S, β, er, sr, g.bind.mono fun x H1 ⟨β1, S1, d, x1, r1, s1, g1⟩ =>
    ⟨ρ, S1, β1, er.ext x1, s1, g1.bind.mono fun y H2 ⟨β2, S2, e, x2, r2, s2, g2⟩ => bin_go s2 o (r1.ext x2) r2 g2⟩⟩
theorem g_neg (ha : PE X a (RE X ra)) : PE X (.UnaryOp .USub a pos) (RE X fun ρ S => (ra ρ S).bind fun x S1 => match x with
    | .int i => .ok (.int (-i)) S1
    | _ => .stuck) :=
  (pe_un un_neg ha).cv fun σ H Q ⟨ρ, S, β, er, sr, g⟩ => ⟨ρ, S, β, er, sr, g.bind.mono fun x H1 ⟨β1, S1, d, x1, r1, s1, g1⟩ => by
    cases d with
    | int i => exact ⟨i, rep_int r1, Go.same g1 (int_rep _) s1⟩
    | _ => exact g1.elim⟩
theorem go_cond {K : PySem.W.Frag} {β : Bk} {H : Hp} {S : Store} {d : D} {v : V} {α τ : Type} {Rp : Bk → Hp → α → τ → Prop} {f : Bool → Store → R α} {Q : τ → Hp → Prop} (s : SRel K β H S) (r : Rep K β H d v)
    (g : Go K Rp E β H ((condS S d).bind f) Q) : ∃ k, TruV K v H k ∧ Go K Rp E β H (f k S) Q := by
  unfold condS at g
  cases e : truth S d with
  | none => rw [e] at g; exact g.elim
  | some k => rw [e] at g; exact ⟨k, truth_rep s r e, g⟩
theorem g_not (ha : PE X a (RE X ra)) : PE X (.UnaryOp .Not a pos) (RE X fun ρ S => (ra ρ S).bind fun x S1 => (condS S1 x).bind fun b S2 => .ok (.bl (!b)) S2) :=
  (pe_notT ha).cv fun σ H Q ⟨ρ, S, β, er, sr, g⟩ => ⟨ρ, S, β, er, sr, g.bind.mono fun x H1 ⟨β1, S1, d, x1, r1, s1, g1⟩ => by
    obtain ⟨k, t, g2⟩ := go_cond s1 r1 g1
    exact ⟨k, t, Go.same g2 (bl_rep _) s1⟩⟩
theorem g_and {rest : List Expr} (ha : PE X a (RE X ra)) (hb : PE X (.BoolOp .And (b :: rest) pos) (RE X rb)) :
    PE X (.BoolOp .And (a :: b :: rest) pos) (RE X fun ρ S => (ra ρ S).bind fun x S1 => (condS S1 x).bind fun c S2 => if c then rb ρ S2 else .ok x S2) :=
  (pe_andT ha hb).cv fun σ H Q ⟨ρ, S, β, er, sr, g⟩ => ⟨ρ, S, β, er, sr, g.bind.mono fun x H1 ⟨β1, S1, d, x1, r1, s1, g1⟩ => by
    obtain ⟨k, t, g2⟩ := go_cond s1 r1 g1
    refine ⟨k, t, ?_⟩
    cases k with
    | true => exact iteT ⟨ρ, S1, β1, er.ext x1, s1, g2⟩
    | false => exact iteF (Go.same g2 r1 s1)⟩
theorem g_or {rest : List Expr} (ha : PE X a (RE X ra)) (hb : PE X (.BoolOp .Or (b :: rest) pos) (RE X rb)) :
    PE X (.BoolOp .Or (a :: b :: rest) pos) (RE X fun ρ S => (ra ρ S).bind fun x S1 => (condS S1 x).bind fun c S2 => if c then .ok x S2 else rb ρ S2) :=
  (pe_orT ha hb).cv fun σ H Q ⟨ρ, S, β, er, sr, g⟩ => ⟨ρ, S, β, er, sr, g.bind.mono fun x H1 ⟨β1, S1, d, x1, r1, s1, g1⟩ => by
    obtain ⟨k, t, g2⟩ := go_cond s1 r1 g1
    refine ⟨k, t, ?_⟩
    cases k with
    | false => exact iteF ⟨ρ, S1, β1, er.ext x1, s1, g2⟩
    | true => exact iteT (Go.same g2 r1 s1)⟩
theorem g_cmp {o : COp} (hu : X.A.units + 65 < cLine) (ha : PE X a (RE X ra)) (hb : PE X b (RE X rb)) (hm : behindInMarks (copOf o) b = false) :
    PE X (.Compare a [copOf o] [b] pos) (RE X fun ρ S => (ra ρ S).bind fun x S1 => (rb ρ S1).bind fun y S2 => cmpD o x y S2) :=
  (pe_cmpR (cmp_ok hu o) ha hb hm).cv fun σ H Q ⟨ρ, S, β, er, sr, g⟩ => ⟨ρ, S, β, er, sr, g.bind.mono fun x H1 ⟨β1, S1, d, x1, r1, s1, g1⟩ =>
    ⟨ρ, S1, β1, er.ext x1, s1, g1.bind.mono fun y H2 ⟨β2, S2, e, x2, r2, s2, g2⟩ => cmp_go s2 o (r1.ext x2) r2 g2⟩⟩
theorem cmp2_go {K : PySem.W.Frag} {β : Bk} {H : Hp} {S : Store} {σ : St} {ρ : Env} {o p : COp} {d e : D} {x y : V} (er : ERel K β H ρ σ) (s : SRel K β H S) (r1 : Rep K β H d x) (r2 : Rep K β H e y) {Q : V → Hp → Prop}
    (g : Go K (Rep K) (FlyE K σ) β H ((give S (cmpB o d e S)).bind fun r S3 => if r then (rd ρ S3).bind fun z S4 => cmpD p e z S4 else .ok (.bl false) S3) Q) :
    rCmp K o x y H fun z H3 => ∃ k, z = .bl k ∧ if k = true then Rg K (Rep K) rd σ H3 (fun w H4 => rCmp K p y w H4 Q) else Q (.bl false) H3 := by
  refine cmp_go (E := FlyE K σ) s o r1 r2 ?_
  unfold cmpD
  cases c : cmpB o d e S with
  | none => rw [c] at g; exact g.elim
  | some k =>
    rw [c] at g
    intro t β' H' x' r' s'
    refine ⟨k, rep_bl r', ?_⟩
    have g := Go.ext g x'
    cases k with
    | false => exact iteF (Go.same (t := V.bl false) (H := H') (β := β') (S := S) g (bl_rep _) s')
    | true => exact iteT ⟨ρ, S, β', er.ext x', s', (Go.bind (Rp := Rep K) g).mono fun w H4 ⟨β4, S4, f, x4, r4, s4, g4⟩ => cmp_go s4 p ((r2.ext x').ext x4) r4 g4⟩
theorem g_cmp2 {o p : COp} (hu : X.A.units + 65 < cLine) (ha : PE X a (RE X ra)) (hb : PE X b (RE X rb)) (hd : PE X d (RE X rd)) (hm : lastMarks [copOf o, copOf p] [b, d] = false) :
    PE X (.Compare a [copOf o, copOf p] [b, d] pos) (RE X fun ρ S => (ra ρ S).bind fun x S1 => (rb ρ S1).bind fun y S2 => (give S2 (cmpB o x y S2)).bind fun r S3 => if r then (rd ρ S3).bind fun z S4 => cmpD p y z S4 else .ok (.bl false) S3) :=
  (pe_chain (cmp_ok hu o) (cmp_ok hu p) ha hb hd hm).cv fun σ H Q ⟨ρ, S, β, er, sr, g⟩ => ⟨ρ, S, β, er, sr, g.bind.mono fun x H1 ⟨β1, S1, d, x1, r1, s1, g1⟩ =>
    ⟨ρ, S1, β1, er.ext x1, s1, g1.bind.mono fun y H2 ⟨β2, S2, e, x2, r2, s2, g2⟩ => cmp2_go ((er.ext x1).ext x2) s2 (r1.ext x2) r2 g2⟩⟩
theorem g_ite (ht : PT X d (RT X (tst rd))) (ha : PE X a (RE X ra)) (hb : PE X b (RE X rb)) :
    PE X (.IfExp d a b pos) (RE X fun ρ S => (rd ρ S).bind fun x S1 => (condS S1 x).bind fun k S2 => if k then ra ρ S2 else rb ρ S2) :=
  (pe_ifExp ht ha hb).cv fun σ H Q ⟨ρ, S, β, er, sr, g⟩ => ⟨ρ, S, β, er, sr, by
    dsimp only at g
    rw [← R.bind_assoc] at g
    refine (Go.bind (Rp := Is) g).mono fun k H1 ⟨β1, S1, k', x1, ek, s1, g1⟩ => ?_
    have ek : k' = k := ek
    subst ek
    cases k' with
    | true => exact iteT ⟨ρ, S1, β1, er.ext x1, s1, g1⟩
    | false => exact iteF ⟨ρ, S1, β1, er.ext x1, s1, g1⟩⟩
theorem _root_.L2.PE.or {t t' : TE} (h : PE X e t) (h' : PE X e t') : PE X e (fun σ H Q => t σ H Q ∨ t' σ H Q) := ⟨fun pins s σ H Q I w => w.elim (h.run pins s σ H Q I) (h'.run pins s σ H Q I)⟩
theorem g_ixL (ha : PE X a (RE X ra)) (hb : PE X b (RE X rb)) (hs : PlainIx b) : PE X (.Subscript a b pos) (RE X fun ρ S => (ra ρ S).bind fun x S1 => (rb ρ S1).bind fun y S2 => ixL x y S2) :=
  (pe_ix ix_seq ha hb hs).cv fun σ H Q ⟨ρ, S, β, er, sr, g⟩ => ⟨ρ, S, β, er, sr, g.bind.mono fun x H1 ⟨β1, S1, d, x1, r1, s1, g1⟩ =>
    ⟨ρ, S1, β1, er.ext x1, s1, g1.bind.mono fun y H2 ⟨β2, S2, e, x2, r2, s2, g2⟩ => ix_go s2 (r1.ext x2) r2 g2⟩⟩
theorem g_ixK (hu : X.A.units + 65 < cLine) (ha : PE X a (RE X ra)) (hb : PE X b (RE X rb)) (hs : NoSl b) : PE X (.Subscript a b pos) (RE X fun ρ S => (ra ρ S).bind fun x S1 => (rb ρ S1).bind fun y S2 => match dgetD S2 x y with
    | some o => give S2 o
    | none => .stuck) :=
  (pe_dget (by omega) ha hb hs).cv fun σ H Q ⟨ρ, S, β, er, sr, g⟩ => ⟨ρ, S, β, er, sr, g.bind.mono fun x H1 ⟨β1, S1, d, x1, r1, s1, g1⟩ =>
    ⟨ρ, S1, β1, er.ext x1, s1, (Go.bind (Rp := Rep X.K) g1).mono fun y H2 ⟨β2, S2, e, x2, r2, s2, g2⟩ => by
      dsimp only at g2
      split at g2
      · rename_i o eo
        obtain ⟨a, w, rfl, gt, ro⟩ := dget_rep s2 (r1.ext x2) r2 eo
        obtain ⟨q, e1, g3⟩ := Go.give g2
        subst e1
        cases w with
        | none => exact ro.elim
        | some v => exact ⟨a, v, rfl, gt, Go.same g3 ro s2⟩
      · exact g2.elim⟩⟩
theorem g_ix (hu : X.A.units + 65 < cLine) (ha : PE X a (RE X ra)) (hb : PE X b (RE X rb)) (hs : PlainIx b) (hn : NoSl b) : PE X (.Subscript a b pos) (RE X fun ρ S => (ra ρ S).bind fun x S1 => (rb ρ S1).bind fun y S2 => ixD x y S2) :=
  (PE.or (g_ixL ha hb hs) (g_ixK hu ha hb hn)).cv fun σ H Q ⟨ρ, S, β, er, sr, g⟩ => by
    dsimp only at g
    have look : (∃ d S1 e S2 o, ra ρ S = .ok d S1 ∧ rb ρ S1 = .ok e S2 ∧ dgetD S2 d e = some o) ∨
        ((ra ρ S).bind fun x S1 => (rb ρ S1).bind fun y S2 => ixD x y S2) = ((ra ρ S).bind fun x S1 => (rb ρ S1).bind fun y S2 => ixL x y S2) := by
      cases e1 : ra ρ S with
      | ok d S1 =>
        cases e2 : rb ρ S1 with
        | ok e S2 =>
          cases e3 : dgetD S2 d e with
          | some o => exact .inl ⟨d, S1, e, S2, o, rfl, e2, e3⟩
          | none => right; simp only [R.bind_ok, e2, ixD, e3]
        | _ => right; simp only [R.bind_ok, e2, R.bind_exc, R.bind_stuck]
      | _ => exact .inr rfl
    rcases look with ⟨d, S1, e, S2, o, e1, e2, e3⟩ | h
    · refine .inr ⟨ρ, S, β, er, sr, ?_⟩
      simp only [e1, e2, R.bind_ok, e3]
      simp only [e1, e2, R.bind_ok, ixD, e3] at g
      exact g
    · exact .inl ⟨ρ, S, β, er, sr, by dsimp only; rw [← h]; exact g⟩
theorem o_none : PO X none (RO X fun _ S => .ok none S) := ⟨fun pins s σ H Q I ⟨ρ, S, β, er, sr, g⟩ => po_none.run pins s σ H Q I (Go.same g rfl sr)⟩
theorem o_some (ha : PE X a (RE X ra)) : PO X (some a) (RO X fun ρ S => (ra ρ S).bind fun d S1 => (give S1 (asI d)).bind fun i S2 => .ok (some i) S2) := ⟨fun pins s σ H Q I ⟨ρ, S, β, er, sr, g⟩ =>
  (po_some ha).run pins s σ H Q I ⟨ρ, S, β, er, sr, g.bind.mono fun x H1 ⟨β1, S1, d, x1, r1, s1, g1⟩ => by
    cases d with
    | int i => exact ⟨i, rep_int r1, Go.same g1 rfl s1⟩
    | _ => exact g1.elim⟩⟩
theorem g_sl {m : Bool} {lo hi : Option Expr} {rl rh : Env → Store → R (Option Int)} {p2 : Pos} (ha : PE X a (RE X ra)) (hl : PO X lo (RO X rl)) (hh : PO X hi (RO X rh)) :
    PE X (.Subscript a (.Slice lo hi none p2) pos) (RE X fun ρ S => (ra ρ S).bind fun x S1 => (rl ρ S1).bind fun l S2 => (rh ρ S2).bind fun h S3 => slD m x l h S3) :=
  (pe_slice sl_ok ha hl hh).cv fun σ H Q ⟨ρ, S, β, er, sr, g⟩ => ⟨ρ, S, β, er, sr, g.bind.mono fun x H1 ⟨β1, S1, d, x1, r1, s1, g1⟩ =>
    ⟨ρ, S1, β1, er.ext x1, s1, (Go.bind (Rp := Is) g1).mono fun l H2 ⟨β2, S2, l', x2, el, s2, g2⟩ => by
      have el : l' = l := el
      subst el
      refine ⟨ρ, S2, β2, (er.ext x1).ext x2, s2, (Go.bind (Rp := Is) g2).mono fun h H3 ⟨β3, S3, h', x3, eh, s3, g3⟩ => ?_⟩
      have eh : h' = h := eh
      subst eh
      exact sl_go s3 ((r1.ext x2).ext x3) g3⟩⟩

/-! ### argument lists -/
theorem star_cons {e : Expr} {es : List Expr} {env : PySem.Env} (h : isStar e = false) : starEach (e :: es) env = (false, eval e env) :: starEach es env := by
  cases e <;> first | rfl | (simp [isStar] at h)
theorem star_none : ∀ {es : List Expr} {env : PySem.Env} {pos : Pos}, noStar es = true → (backTo pos (starEach es env)).any (·.1) = false
  | [], _, _, _ => rfl
  | e :: es, env, pos, h => by
    simp only [noStar, List.all_cons, Bool.and_eq_true, Bool.not_eq_true'] at h
    rw [star_cons h.1]
    have := star_none (env := env) (pos := pos) (es := es) (by simpa [noStar] using h.2)
    simpa [backTo] using this
theorem a_nil : PA X [] (RA X fun _ S => .ok [] S) := pa_nil.cv fun σ H Q ⟨ρ, S, β, er, sr, g⟩ => Go.same g Reps.nil sr
theorem a_cons {es : List Expr} {re : Env → Store → R D} {rs : Env → Store → R (List D)} (ha : PE X a (RE X re)) (hs : PA X es (RA X rs)) (n : isStar a = false) :
    PA X (a :: es) (RA X fun ρ S => (re ρ S).bind fun d S1 => (rs ρ S1).bind fun ds S2 => .ok (d :: ds) S2) :=
  (pa_cons ha hs (star_cons n)).cv fun σ H Q ⟨ρ, S, β, er, sr, g⟩ => ⟨ρ, S, β, er, sr, g.bind.mono fun x H1 ⟨β1, S1, d, x1, r1, s1, g1⟩ =>
    ⟨ρ, S1, β1, er.ext x1, s1, (Go.bind (Rp := Reps X.K) g1).mono fun y H2 ⟨β2, S2, e, x2, r2, s2, g2⟩ => Go.same g2 (Reps.cons (r1.ext x2) r2) s2⟩⟩
theorem g_tup {es : List Expr} {rs : Env → Store → R (List D)} {k : Nat} (h : PA X es (RA X rs)) : PE X (.Tuple es k pos) (RE X fun ρ S => (rs ρ S).bind mkT) :=
  (pe_tup h).cv fun σ H Q ⟨ρ, S, β, er, sr, g⟩ => ⟨ρ, S, β, er, sr, (Go.bind (Rp := Reps X.K) g).mono fun x H1 ⟨β1, S1, d, x1, r1, s1, g1⟩ => go_mkT s1 r1 g1⟩
theorem g_lst {es : List Expr} {rs : Env → Store → R (List D)} {m : Bool} (h : PA X es (RA X rs)) : PE X (.List es pos) (RE X fun ρ S => (rs ρ S).bind (mkL m)) :=
  (pe_lst h).cv fun σ H Q ⟨ρ, S, β, er, sr, g⟩ => ⟨ρ, S, β, er, sr, (Go.bind (Rp := Reps X.K) g).mono fun x H1 ⟨β1, S1, d, x1, r1, s1, g1⟩ => go_lst s1 r1 g1⟩
theorem g_bi {es : List Expr} {rs : Env → Store → R (List D)} {m : Bool} {bi : Bi} {x : Str} {p : Pos} (hc : X.calm = true) (hg : Gl X x) (hm : X.mg x = none) (hv : bootBuiltins x = some (biF bi)) (h : PA X (a :: es) (RA X rs)) (n : noStar (a :: es) = true)
    (hn : x ≠ "__name__") (hdb : (x == ("__debug__" : Str)) = false) : PE X (.Call (.Name x p) (a :: es) [] pos) (RE X fun ρ S => (rs ρ S).bind fun ds S1 => biD bi m ds S1) := by
  have n2 : isStar a = false ∧ noStar es = true := by simpa [noStar] using n
  have f : ∀ {σ : St} {H : Hp} {Q : VK}, RE X (fun ρ S => (rs ρ S).bind fun ds S1 => biD bi m ds S1) σ H Q → tCB (rBi X.K bi) (RA X rs) σ H Q := fun {σ H Q} ⟨ρ, S, β, er, sr, g⟩ =>
    ⟨ρ, S, β, er, sr, (Go.bind (Rp := Reps X.K) g).mono fun x H1 ⟨β1, S1, d, x1, r1, s1, g1⟩ => bi_go s1 bi m r1 g1⟩
  cases e : biF bi with
  | builtin id =>
    rw [e] at hv
    exact (pe_callB (id := id) (e ▸ bi_ok hc bi) hg hm hv h hn hdb (star_cons n2.1) (star_none n2.2)).cv fun σ H Q q => f q
  | type T =>
    rw [e] at hv
    exact (pe_callTy (T := T) (e ▸ bi_ok hc bi) hg hm hv h hn hdb (star_cons n2.1) (star_none n2.2)).cv fun σ H Q q => f q
  | _ => cases bi <;> cases e
theorem few_of {es : List Expr} {env : PySem.Env} {cpos : Pos} (n : noStar es = true) (l : es.length < 29) :
    ((backTo cpos (starEach es env)).all (fun x => !x.1) && (backToKw cpos (keywordEach [] env)).all (fun x => x.1.isSome)
      && decide (es.length + ([] : List Keyword).length + (if ([] : List Keyword).isEmpty then 0 else 1) < 30)) = true := by
  have h := star_none (env := env) (pos := cpos) n
  have h2 : (backTo cpos (starEach es env)).all (fun x => !x.1) = true := by
    rw [List.all_eq_true]
    intro x hx
    have := List.any_eq_false.mp h x hx
    simpa using this
  rw [h2]
  simp [keywordEach, backToKw]; omega
def mtName : Mt → Str
  | .append => "append"
  | .extend => "extend"
  | .pop => "pop"
  | .split => "split"
  | .join => "join"
  | .startswith => "startswith"
  | .endswith => "endswith"
  | .index => "index"
theorem base_ok {o : Expr} {m : Str} {env : PySem.Env} (h : isCall0 o = false) : attributeBase o m env (eval o env) = eval o env := by
  unfold attributeBase
  cases o with
  | Call f as kws p =>
    cases f with
    | Name x q =>
      cases as with
      | nil =>
        cases kws with
        | nil => simp [isCall0] at h
        | cons _ _ => rfl
      | cons _ _ => rfl
    | _ => rfl
  | _ => rfl
theorem g_mt {rs : Env → Store → R (List D)} {m : Bool} {t : Mt} {name : Str} {o : Expr} {ro : Env → Store → R D} {apos : Pos} (ht : trMt name = some t) (ho : PE X o (RE X ro)) (h : PA X [a] (RA X rs)) (n : noStar [a] = true) (hb : isCall0 o = false) (hl : (apos.endLine == pos.line) = true) :
    PE X (.Call (.Attribute o name apos) [a] [] pos) (RE X fun ρ S => (ro ρ S).bind fun x S1 => if mtTy t x S1 then (rs ρ S1).bind fun ds S2 => mtD t m x ds S2 else .stuck) := by
  have n2 : isStar a = false := by simpa [noStar] using n
  have f : ∀ {σ : St} {H : Hp} {Q : VK}, RE X (fun ρ S => (ro ρ S).bind fun x S1 => if mtTy t x S1 then (rs ρ S1).bind fun ds S2 => mtD t m x ds S2 else .stuck) σ H Q → tBM X.K (mtT t) (rMt X.K t) (RE X ro) (RA X rs) σ H Q := fun {σ H Q} ⟨ρ, S, β, er, sr, g⟩ =>
    ⟨ρ, S, β, er, sr, g.bind.mono fun x H1 ⟨β1, S1, d, x1, r1, s1, g1⟩ => by
      dsimp only at g1
      split at g1
      · rename_i c
        exact ⟨mt_ty s1 t r1 c, ρ, S1, β1, er.ext x1, s1, (Go.bind (Rp := Reps X.K) g1).mono fun y H2 ⟨β2, S2, e, x2, r2, s2, g2⟩ => mt_go s2 t m (r1.ext x2) r2 g2⟩
      · exact g1.elim⟩
  unfold trMt at ht
  repeat' split at ht
  all_goals first | cases ht | skip
  all_goals rename_i e
  all_goals subst e
  · exact (pe_bm PySem.F.plainAttrs_list PySem.F.slot_list_append PySem.F.type_list_append mt_append ho h (base_ok hb) (few_of n (by simp)) hl (star_cons n2) (star_none (by rfl))).cv fun σ H Q q => f q
  · exact (pe_bm PySem.F.plainAttrs_list PySem.F.slot_list_extend PySem.F.type_list_extend mt_extend ho h (base_ok hb) (few_of n (by simp)) hl (star_cons n2) (star_none (by rfl))).cv fun σ H Q q => f q
  · exact (pe_bm PySem.F.plainAttrs_str PySem.F.slot_str_split PySem.F.type_str_split mt_split ho h (base_ok hb) (few_of n (by simp)) hl (star_cons n2) (star_none (by rfl))).cv fun σ H Q q => f q
  · exact (pe_bm PySem.F.plainAttrs_str PySem.F.slot_str_join PySem.F.type_str_join mt_join ho h (base_ok hb) (few_of n (by simp)) hl (star_cons n2) (star_none (by rfl))).cv fun σ H Q q => f q
  · exact (pe_bm PySem.F.plainAttrs_str PySem.F.slot_str_startswith PySem.F.type_str_startswith mt_startswith ho h (base_ok hb) (few_of n (by simp)) hl (star_cons n2) (star_none (by rfl))).cv fun σ H Q q => f q
  · exact (pe_bm PySem.F.plainAttrs_str PySem.F.slot_str_endswith PySem.F.type_str_endswith mt_endswith ho h (base_ok hb) (few_of n (by simp)) hl (star_cons n2) (star_none (by rfl))).cv fun σ H Q q => f q
end
end Pyx
end
section
/-! Calls whose errors are taken at the store of their beginning. -/
namespace Pyx
open PySem PyProof.Rows L2
section
variable {X : Cx} {CX : CXT} {k : Nat} {f C : Addr} {fd : FuncData} {ps : List Str} {sp : Sp} {E : L2.St → XK} {x m : Str} {p pos apos : Pos} {e o : Expr} {es : List Expr} {ta : TE} {t : TA}
theorem call0_at (F : FnOk X.prog X.w X.K X.mg X.base CX k f fd ps sp) (hr : Room k X.A) (hg : Gl X x) (hm : X.mg x = some (.ref f)) (hk : PySem.W.keepIn X.K (.ref f) = true) (hb : Binds X.K fd ps []) (hx : ∀ σ, PassesAt CX X σ (E σ))
    (hdb : (x == ("__debug__" : Str)) = false) : PE X (.Call (.Name x p) [] [] pos) (tCallS sp E tNil) :=
  ⟨fun pins s σ H Q I h => wpAny_Call_Name_kw (ld_glob I hg hm (PySem.W.callWith_K0 I.kIn hk (run_fnS (us := []) F hr hb (hx σ) I .nil h)) hdb)⟩
theorem meth_at {pl : Sem Bool} (he : PE X o ta) (c : Cls X.K C) (hm : Meth X.K C m f) (F : FnOk X.prog X.w X.K X.mg X.base CX k f fd ps sp) (hr : Room k X.A) (hb : Binds X.K fd ps []) (hx : ∀ σ, PassesAt CX X σ (E σ)) (ha : PA X (e :: es) t)
    (hst : starEach (e :: es) X.env = (false, eval e X.env) :: starEach es X.env) (hpl : (backTo pos (starEach es X.env)).any (·.1) = false)
    (ht : eval (.Call (.Attribute o m apos) (e :: es) [] pos) X.env = (do
      let ov ← eval o X.env
      standAt apos.atName
      let (f, first) ← holding [ov] (getMethod ov m pl)
      callWith pos f first (backTo pos (starEach (e :: es) X.env)) (backToKw pos (keywordEach [] X.env)))) :
    PE X (.Call (.Attribute o m apos) (e :: es) [] pos) (fun σ H Q => tMeth C m sp [] (E σ) ta t σ H Q) := by
  refine ⟨fun pins s σ H Q I h => ?_⟩
  refine PySem.W.methodCall_KW (pl := pl) (thn (he.run pins s σ H _ I h) fun u s1 ⟨x, H1, I1, rx, a, dx, fs, ex, ea, l, q⟩ => ?_) ht
  subst ex
  obtain rfl : u = Value.ref a := rx
  refine getmeth_ok I1 ea c hm l ?_
  refine PySem.W.callWith_K (first := [.ref a]) (h₀ := X.base) I.ok.mod.kin hm.kp (thn (ha.run pos pins s1 σ H1 _ I1 q) fun us s2 ⟨vs, H2, I2, r, q2⟩ => ⟨I2.kIn, ?_⟩) hst hpl
  have q2 : sp (V.ref a :: (vs ++ [])) H2 Q (E σ) := q2
  rw [List.append_nil] at q2
  exact run_fnS (us := .ref a :: us) (vs := .ref a :: vs) F hr hb (hx σ) I2 (.cons rfl r) q2
theorem meth0_at {pl : Sem Bool} (he : PE X o ta) (c : Cls X.K C) (hm : Meth X.K C m f) (F : FnOk X.prog X.w X.K X.mg X.base CX k f fd ps sp) (hr : Room k X.A) (hb : Binds X.K fd ps []) (hx : ∀ σ, PassesAt CX X σ (E σ))
    (ht : eval (.Call (.Attribute o m apos) [] [] pos) X.env = (do
      let ov ← eval o X.env
      standAt apos.atName
      let (f, first) ← holding [ov] (getMethod ov m pl)
      callWith pos f first (backTo pos (starEach [] X.env)) (backToKw pos (keywordEach [] X.env)))) :
    PE X (.Call (.Attribute o m apos) [] [] pos) (fun σ H Q => tMeth C m sp [] (E σ) ta tNil σ H Q) := by
  refine ⟨fun pins s σ H Q I h => ?_⟩
  refine PySem.W.methodCall_KW (pl := pl) (thn (he.run pins s σ H _ I h) fun u s1 ⟨x, H1, I1, rx, a, dx, fs, ex, ea, l, q⟩ => ?_) ht
  subst ex
  obtain rfl : u = Value.ref a := rx
  refine getmeth_ok I1 ea c hm l ?_
  exact PySem.W.callWith_K0 (first := [.ref a]) I1.kIn hm.kp (run_fnS (us := [.ref a]) (vs := [.ref a]) F hr hb (hx σ) I1 (.cons rfl .nil) q)
theorem make_run {pins : List (Addr × Obj)} {σ : L2.St} {H : Hp} {s : Shared} {Q : VK} {us : List Value} {vs : List V} (M : Mk X.K C f) (F : FnOk X.prog X.w X.K X.mg X.base CX k f fd ps sp) (hr : Room (k + 1) X.A) (hb : Binds X.K fd ps [])
    (hx : PassesAt CX X σ (E σ)) (I : Inv X pins σ H s) (r : Vals vs us)
    (h : ∀ x dx, H x = none → H dx = none → dx ≠ x → sp (.ref x :: (vs ++ [])) (upd (upd H dx (.own x)) x (.ins C dx [])) (fun v H2 => v = .non ∧ Q (.ref x) H2) (E σ)) :
    wpAny (model X.prog X.w) X.A (call (.ref C) us) (EP X pins σ Q) X.xe s := by
  have hq := h (s.heap.objs.size + 1) s.heap.objs.size (I.hok.fresh (Nat.le_succ _)) (I.hok.fresh (Nat.le_refl _)) (Nat.ne_of_lt (Nat.lt_succ_self _))
  have I2 := Inv.made (C := C) I
  have r2 : Vals (V.ref (s.heap.objs.size + 1) :: (vs ++ [])) (Value.ref (s.heap.objs.size + 1) :: (us ++ [])) := .cons rfl (r.append .nil)
  have hl : (Value.ref (s.heap.objs.size + 1) :: us ++ []).length = ps.length := by
    have e := r2.length
    rw [F.len _ _ _ _ hq] at e
    exact e.symm
  refine wpAny_call (make_map (f := f) I.kIn M.makes M.init (beq_iff_eq.mp M.fn) (codeAny_mono (F.run _ X.stack _ _ ⟨Value.ref (s.heap.objs.size + 1) :: us, []⟩ ((Value.ref (s.heap.objs.size + 1) :: us) ++ []) _ _ (E σ) (hr.make C us [])
    (I2.env0.make C us []) (by have b := hb _ (Value.ref (s.heap.objs.size + 1) :: us) I2.kIn hl; exact b) r2 hq) fun r s' hq' => ?_))
  cases r with
  | error e => exact hx pins _ _ e s' I2 hq'
  | ok fl =>
    cases fl with
    | ret u =>
      obtain ⟨v, H', I3, rv, ev, q3⟩ := I2.after hq'
      subst ev
      exact ⟨rv, ⟨V.ref (s.heap.objs.size + 1), H', I3, rfl, q3⟩⟩
    | next => exact False.elim hq'
    | brk => exact False.elim hq'
    | cont => exact False.elim hq'
theorem make_at (M : Mk X.K C f) (F : FnOk X.prog X.w X.K X.mg X.base CX k f fd ps sp) (hr : Room (k + 1) X.A) (hg : Gl X x) (hm : X.mg x = some (.ref C)) (hb : Binds X.K fd ps []) (hx : ∀ σ, PassesAt CX X σ (E σ))
    (ha : PA X (e :: es) t) (hdb : (x == ("__debug__" : Str)) = false) (he : starEach (e :: es) X.env = (false, eval e X.env) :: starEach es X.env) (hpl : (backTo pos (starEach es X.env)).any (·.1) = false) :
    PE X (.Call (.Name x p) (e :: es) [] pos) (fun σ H Q => tMake C sp [] (E σ) t σ H Q) := by
  refine ⟨fun pins s σ H Q I h => ?_⟩
  refine wpAny_Call_Name_kw (ld_glob I hg hm ?_ hdb)
  exact PySem.W.callWith_K (h₀ := X.base) I.ok.mod.kin M.kp (thn (ha.run pos pins s σ H _ I h) fun us s1 ⟨vs, H1, I1, r, q⟩ => ⟨I1.kIn, make_run M F hr hb (hx σ) I1 r q⟩) he hpl
end
end Pyx
end
section
/-! Tests, isinstance, calls of defs, targets, what is walked. -/
namespace Pyx
open PySem L2
section
variable [Fly] {E : XW} {X : Cx} {e a b d : Expr} {pos : Pos} {ra rb rd : Env → Store → R D}
/-! ### tests -/
theorem t_gen (h : PE X e (RE X ra)) (he : ∀ whole, isTrue e X.env whole = (do let v ← whole; standAt e.pos; holding [v] (truthy v))) : PT X e (RT X (tst ra)) :=
  (pt_truth h he).cv fun σ H Q ⟨ρ, S, β, er, sr, g⟩ => ⟨ρ, S, β, er, sr, (Go.bind (Rp := Rep X.K) g).mono fun x H1 ⟨β1, S1, d, x1, r1, s1, g1⟩ => by
    unfold condS at g1
    obtain ⟨k, e, g2⟩ := Go.give g1
    exact ⟨k, truth_rep s1 r1 e, Go.same g2 rfl s1⟩⟩
theorem tst_bl {r : R Bool} : (r.bind fun b S2 => .ok (.bl b) S2 : R D).bind (fun d S1 => condS S1 d) = r := by
  cases r <;> rfl
theorem t_not (h : PT X a (RT X (tst ra))) : PT X (.UnaryOp .Not a pos) (RT X (tst fun ρ S => (ra ρ S).bind fun x S1 => (condS S1 x).bind fun b S2 => .ok (.bl (!b)) S2)) :=
  (pt_not h).cv fun σ H Q ⟨ρ, S, β, er, sr, g⟩ => ⟨ρ, S, β, er, sr, by
    have e : tst (fun ρ S => (ra ρ S).bind fun x S1 => (condS S1 x).bind fun b S2 => .ok (.bl (!b)) S2) ρ S = (tst ra ρ S).bind fun b S2 => .ok (!b) S2 := by
      unfold tst
      rw [R.bind_assoc, R.bind_assoc]
      refine R.bind_congr fun d S1 => ?_
      rw [R.bind_assoc]
      refine R.bind_congr fun b S2 => rfl
    rw [e] at g
    refine (Go.bind (Rp := Is) g).mono fun k H1 ⟨β1, S1, k', x1, ek, s1, g1⟩ => ?_
    have ek : k' = k := ek
    subst ek
    exact Go.same g1 rfl s1⟩
theorem t_ite (ht : PT X d (RT X (tst rd))) (ha : PT X a (RT X (tst ra))) (hb : PT X b (RT X (tst rb))) :
    PT X (.IfExp d a b pos) (RT X (tst fun ρ S => (rd ρ S).bind fun x S1 => (condS S1 x).bind fun k S2 => if k then ra ρ S2 else rb ρ S2)) := ⟨fun pins s σ H Q I ⟨ρ, S, β, er, sr, g⟩ => by
  have e : tst (fun ρ S => (rd ρ S).bind fun x S1 => (condS S1 x).bind fun k S2 => if k then ra ρ S2 else rb ρ S2) ρ S = (tst rd ρ S).bind fun k S2 => if k then tst ra ρ S2 else tst rb ρ S2 := by
    unfold tst
    rw [R.bind_assoc, R.bind_assoc]
    refine R.bind_congr fun d S1 => ?_
    rw [R.bind_assoc]
    refine R.bind_congr fun b S2 => ?_
    cases b <;> rfl
  rw [e] at g
  refine PyProof.Rows.isTrue_IfExp (thn (ht.run pins s σ H _ I ⟨ρ, S, β, er, sr, Go.bind (Rp := Is) g⟩) fun k s1 ⟨H1, I1, q1⟩ => ?_)
  obtain ⟨β1, S1, k', x1, ek, s1', g1⟩ := q1
  have ek : k' = k := ek
  subst ek
  cases k' with
  | true => exact ha.run pins s1 σ H1 Q I1 ⟨ρ, S1, β1, er.ext x1, s1', g1⟩
  | false => exact hb.run pins s1 σ H1 Q I1 ⟨ρ, S1, β1, er.ext x1, s1', g1⟩⟩
theorem w_one {o : BoolOp} (h : PT X a (RT X (tst ra))) : PW X (.BoolOp o [a] pos) (RT X (tst ra)) := by
  cases o with
  | And => exact pw_and1 h
  | Or => exact pw_or1 h
theorem w_and {rest : List Expr} (ha : PT X a (RT X (tst ra))) (hb : PW X (.BoolOp .And (b :: rest) pos) (RT X (tst rb))) :
    PW X (.BoolOp .And (a :: b :: rest) pos) (RT X (tst fun ρ S => (ra ρ S).bind fun x S1 => (condS S1 x).bind fun c S2 => if c then rb ρ S2 else .ok x S2)) :=
  (pw_and ha hb).cv fun σ H Q ⟨ρ, S, β, er, sr, g⟩ => ⟨ρ, S, β, er, sr, by
    have e : tst (fun ρ S => (ra ρ S).bind fun x S1 => (condS S1 x).bind fun c S2 => if c then rb ρ S2 else .ok x S2) ρ S = (tst ra ρ S).bind fun k S2 => if k then tst rb ρ S2 else .ok false S2 := by
      unfold tst
      rw [R.bind_assoc, R.bind_assoc]
      refine R.bind_congr fun d S1 => ?_
      rw [R.bind_assoc]
      unfold condS
      cases q : truth S1 d with
      | none => rfl
      | some k => cases k with
        | true => rfl
        | false => simp [q]
    rw [e] at g
    refine (Go.bind (Rp := Is) g).mono fun k H1 ⟨β1, S1, k', x1, ek, s1, g1⟩ => ?_
    have ek : k' = k := ek
    subst ek
    cases k' with
    | true => exact iteT ⟨ρ, S1, β1, er.ext x1, s1, g1⟩
    | false => exact iteF (Go.same g1 rfl s1)⟩
theorem w_or {rest : List Expr} (ha : PT X a (RT X (tst ra))) (hb : PW X (.BoolOp .Or (b :: rest) pos) (RT X (tst rb))) :
    PW X (.BoolOp .Or (a :: b :: rest) pos) (RT X (tst fun ρ S => (ra ρ S).bind fun x S1 => (condS S1 x).bind fun c S2 => if c then .ok x S2 else rb ρ S2)) :=
  (pw_or ha hb).cv fun σ H Q ⟨ρ, S, β, er, sr, g⟩ => ⟨ρ, S, β, er, sr, by
    have e : tst (fun ρ S => (ra ρ S).bind fun x S1 => (condS S1 x).bind fun c S2 => if c then .ok x S2 else rb ρ S2) ρ S = (tst ra ρ S).bind fun k S2 => if k then .ok true S2 else tst rb ρ S2 := by
      unfold tst
      rw [R.bind_assoc, R.bind_assoc]
      refine R.bind_congr fun d S1 => ?_
      rw [R.bind_assoc]
      unfold condS
      cases q : truth S1 d with
      | none => rfl
      | some k => cases k with
        | true => simp [q]
        | false => rfl
    rw [e] at g
    refine (Go.bind (Rp := Is) g).mono fun k H1 ⟨β1, S1, k', x1, ek, s1, g1⟩ => ?_
    have ek : k' = k := ek
    subst ek
    cases k' with
    | true => exact iteT (Go.same g1 rfl s1)
    | false => exact iteF ⟨ρ, S1, β1, er.ext x1, s1, g1⟩⟩
theorem cmp_tst {K : PySem.W.Frag} {β : Bk} {H : Hp} {S : Store} {o : COp} {d e : D} {x y : V} (s : SRel K β H S) (r1 : Rep K β H d x) (r2 : Rep K β H e y) {Q : Bool → Hp → Prop}
    (g : Go K Is E β H ((cmpD o d e S).bind fun d S1 => condS S1 d) Q) : rCmp K o x y H fun z H3 => ∃ k, z = .bl k ∧ Q k H3 := by
  refine cmp_go (E := E) s o r1 r2 ?_
  unfold cmpD at g ⊢
  cases c : cmpB o d e S with
  | none => rw [c] at g; exact g.elim
  | some k =>
    rw [c] at g
    intro t β' H' x' r' s'
    exact ⟨k, rep_bl r', Go.same (S := S) (Go.ext (r := .ok k S) g x') rfl s'⟩
theorem t_cmp {o : COp} (hu : X.A.units + 65 < cLine) (ha : PE X a (RE X ra)) (hb : PE X b (RE X rb)) (hm : behindInMarks (copOf o) b = false) :
    PT X (.Compare a [copOf o] [b] pos) (RT X (tst fun ρ S => (ra ρ S).bind fun x S1 => (rb ρ S1).bind fun y S2 => cmpD o x y S2)) :=
  (pt_cmpR (cmp_ok hu o) ha hb hm).cv fun σ H Q ⟨ρ, S, β, er, sr, g⟩ => ⟨ρ, S, β, er, sr, by
    unfold tst at g
    rw [R.bind_assoc] at g
    refine (Go.bind (Rp := Rep X.K) g).mono fun x H1 ⟨β1, S1, d, x1, r1, s1, g1⟩ => ⟨ρ, S1, β1, er.ext x1, s1, ?_⟩
    dsimp only at g1
    rw [R.bind_assoc] at g1
    exact (Go.bind (Rp := Rep X.K) g1).mono fun y H2 ⟨β2, S2, e, x2, r2, s2, g2⟩ => cmp_tst s2 (r1.ext x2) r2 g2⟩
theorem t_cmp2 {o p : COp} (hu : X.A.units + 65 < cLine) (ha : PE X a (RE X ra)) (hb : PE X b (RE X rb)) (hd : PE X d (RE X rd)) (hm : lastMarks [copOf o, copOf p] [b, d] = false) :
    PT X (.Compare a [copOf o, copOf p] [b, d] pos) (RT X (tst fun ρ S => (ra ρ S).bind fun x S1 => (rb ρ S1).bind fun y S2 => (give S2 (cmpB o x y S2)).bind fun r S3 => if r then (rd ρ S3).bind fun z S4 => cmpD p y z S4 else .ok (.bl false) S3)) :=
  (pt_chain (cmp_ok hu o) (cmp_ok hu p) ha hb hd hm).cv fun σ H Q ⟨ρ, S, β, er, sr, g⟩ => ⟨ρ, S, β, er, sr, by
    unfold tst at g
    rw [R.bind_assoc] at g
    refine (Go.bind (Rp := Rep X.K) g).mono fun x H1 ⟨β1, S1, u, x1, r1, s1, g1⟩ => ⟨ρ, S1, β1, er.ext x1, s1, ?_⟩
    dsimp only at g1
    rw [R.bind_assoc] at g1
    refine (Go.bind (Rp := Rep X.K) g1).mono fun y H2 ⟨β2, S2, w, x2, r2, s2, g2⟩ => ?_
    dsimp only at g2
    refine cmp_go (E := FlyE X.K σ) s2 o (r1.ext x2) r2 ?_
    unfold cmpD
    cases c : cmpB o u w S2 with
    | none => rw [c] at g2; exact g2.elim
    | some k =>
      rw [c] at g2
      intro t β' H' x' r' s'
      refine ⟨k, rep_bl r', ?_⟩
      cases k with
      | false => exact iteF ⟨false, rfl, Go.same (S := S2) (Go.ext (r := .ok false S2) g2 x') rfl s'⟩
      | true =>
        refine iteT ⟨ρ, S2, β', ((er.ext x1).ext x2).ext x', s', ?_⟩
        have g3 : Go X.K Is (FlyE X.K σ) β2 H2 ((rd ρ S2).bind fun z S4 => (cmpD p w z S4).bind fun d S1 => condS S1 d) Q := by
          rw [← R.bind_assoc]; exact g2
        exact (Go.bind (Rp := Rep X.K) (Go.ext g3 x')).mono fun z H4 ⟨β4, S4, f, x4, r4, s4, g4⟩ => cmp_tst s4 ((r2.ext x').ext x4) r4 g4⟩
/-! ### isinstance -/
theorem isTy_kd {d : D} {S : Store} {t : Ty} {b : Bool} (h : isTy d S t = some b) : ∃ k, kdN S d = some k ∧ k ∈ ["NoneType", "bool", "int", "str", "tuple", "list"] ∧ tyIs k (tyN t) = b := by
  cases d with
  | ref l =>
    simp only [isTy] at h
    split at h
    · rename_i q
      cases h
      exact ⟨"list", by simp [kdN, q], by simp, by cases t <;> rfl⟩
    · cases h
  | non => cases h; exact ⟨_, rfl, by simp, by cases t <;> rfl⟩
  | bl _ => cases h; exact ⟨_, rfl, by simp, by cases t <;> rfl⟩
  | int _ => cases h; exact ⟨_, rfl, by simp, by cases t <;> rfl⟩
  | str _ => cases h; exact ⟨_, rfl, by simp, by cases t <;> rfl⟩
  | tup _ => cases h; exact ⟨_, rfl, by simp, by cases t <;> rfl⟩
  | lst _ => cases h; exact ⟨_, rfl, by simp, by cases t <;> rfl⟩
  | fz _ => cases h; exact ⟨_, rfl, by simp, by cases t <;> rfl⟩
theorem kdN_mem {d : D} {S : Store} {k : String} (h : kdN S d = some k) : k ∈ ["NoneType", "bool", "int", "str", "tuple", "list"] := by
  cases d with
  | ref l =>
    simp only [kdN] at h
    split at h
    · cases h; simp
    · cases h
  | _ => cases h; simp
theorem isTys_any {d : D} {S : Store} {k : String} (hk : kdN S d = some k) (hm : k ∈ ["NoneType", "bool", "int", "str", "tuple", "list"]) : ∀ {ts : List Ty} {b : Bool}, isTys d S ts = some b → ∀ K, PySem.W.kitAny K (.type k) (ts.map fun t => .type (tyN t)) = some b
  | [], b, h, K => by cases h; rfl
  | t :: ts, b, h, K => by
    simp only [isTys] at h
    obtain ⟨x, e1, h⟩ := Option.bind_eq_some_iff.mp h
    obtain ⟨y, e2, rfl⟩ := Option.map_eq_some_iff.mp h
    obtain ⟨k', h1, h2, h3⟩ := isTy_kd e1
    rw [hk] at h1; cases h1
    have ih := isTys_any hk hm e2 K
    simp only [List.map_cons, PySem.W.kitAny, kit_ty (K := K) k t hm, h3]
    cases x with
    | true => rfl
    | false => simpa using ih
theorem tyName_ok {P : Pr} {c : Sc} {t : Expr} {ty : Ty} (hsc : X.env.scope = c.sc) (hbl : ∀ x, P.bl x = true → X.mg x = none) (h : tyName P c t = some ty) : PE X t (tC (.ty (tyN ty))) := by
  cases t with
  | Name x p =>
    simp only [tyName] at h
    split at h
    · rename_i c1
      simp only [Bool.and_eq_true] at c1
      obtain ⟨⟨h1, h2⟩, h3⟩ := c1
      have hg : Gl X x := by
        unfold Gl Env.kindOf
        rw [hsc]
        unfold isGl at h1
        exact beq_iff_eq.mp h1
      simp only [okN, Bool.and_eq_true, Bool.not_eq_true'] at h3
      have hn : x ≠ "__name__" := fun e => by
        have := h3.2
        rw [e] at this; exact absurd this (by decide)
      unfold trTy at h
      repeat' split at h
      all_goals first | cases h | skip
      all_goals rename_i e
      all_goals subst e
      · exact pe_bltn hg (hbl _ h2) (by decide +kernel) rfl hn h3.1.1
      · exact pe_bltn hg (hbl _ h2) (by decide +kernel) rfl hn h3.1.1
      · exact pe_bltn hg (hbl _ h2) (by decide +kernel) rfl hn h3.1.1
      · exact pe_bltn hg (hbl _ h2) (by decide +kernel) rfl hn h3.1.1
      · exact pe_bltn hg (hbl _ h2) (by decide +kernel) rfl hn h3.1.1
      · exact pe_bltn hg (hbl _ h2) (by decide +kernel) rfl hn h3.1.1
    · cases h
  | _ => cases h
theorem isin_go {K : PySem.W.Frag} {β : Bk} {H : Hp} {S : Store} {d : D} {v : V} {ts : List Ty} {Q : V → Hp → Prop} (s : SRel K β H S) (r : Rep K β H d v)
    (g : Go K (Rep K) E β H ((give S (isTys d S ts)).bind fun b S2 => .ok (.bl b) S2) Q) (ne : ts ≠ []) : ∃ k b, TyX K H v (.type k) ∧ PySem.W.kitAny K (.type k) (ts.map fun t => .type (tyN t)) = some b ∧ Q (.bl b) H := by
  cases e : isTys d S ts with
  | none => rw [e] at g; exact g.elim
  | some b =>
    rw [e] at g
    have hk : ∃ k, kdN S d = some k := by
      cases ts with
      | nil => exact absurd rfl ne
      | cons t ts =>
        simp only [isTys] at e
        obtain ⟨x, e1, _⟩ := Option.bind_eq_some_iff.mp e
        obtain ⟨k, h, _⟩ := isTy_kd e1
        exact ⟨k, h⟩
    obtain ⟨k, hk⟩ := hk
    exact ⟨k, b, kd_ty s r hk, isTys_any hk (kdN_mem hk) e K, Go.same g (bl_rep _) s⟩
theorem g_isin1 {t : Expr} {ty : Ty} {p : Pos} (hg : Gl X "isinstance") (hm : X.mg "isinstance" = none) (ha : PE X a (RE X ra)) (ht : PE X t (tC (.ty (tyN ty)))) (n : noStar [a, t] = true) :
    PE X (.Call (.Name "isinstance" p) [a, t] [] pos) (RE X fun ρ S => (ra ρ S).bind fun x S1 => (give S1 (isTys x S1 [ty])).bind fun b S2 => .ok (.bl b) S2) := by
  have n2 : isStar a = false ∧ isStar t = false := by simpa [noStar] using n
  refine (pe_callB call_isi hg hm (by decide +kernel) (pa_cons ha (pa_cons ht pa_nil (star_cons n2.2)) (star_cons n2.1)) (by decide) (by decide) (star_cons n2.1) (star_none (by simp [noStar, n2.2]))).cv fun σ H Q ⟨ρ, S, β, er, sr, g⟩ => ?_
  refine ⟨ρ, S, β, er, sr, (Go.bind (Rp := Rep X.K) g).mono fun x H1 ⟨β1, S1, d, x1, r1, s1, g1⟩ => ?_⟩
  obtain ⟨k, b, h1, h2, h3⟩ := isin_go s1 r1 g1 (by simp)
  refine ⟨x, .ty (tyN ty), .type k, .type (tyN ty), b, rfl, .ty _, h1, ?_, h3⟩
  simp only [List.map_cons, List.map_nil, PySem.W.kitAny] at h2
  split at h2 <;> first | (rename_i q; rw [q]; exact h2) | cases h2
theorem tys_ok {P : Pr} {c : Sc} (hsc : X.env.scope = c.sc) (hbl : ∀ x, P.bl x = true → X.mg x = none) : ∀ {ts : List Expr} {tys : List Ty}, ts.mapM (tyName P c) = some tys → noStar ts = true ∧ PA X ts (fun _ H Q => Q (tys.map fun t => V.ty (tyN t)) H)
  | [], tys, h => by
    cases h
    exact ⟨rfl, pa_nil⟩
  | t :: ts, tys, h => by
    rw [List.mapM_cons] at h
    obtain ⟨ty, e1, h⟩ := Option.bind_eq_some_iff.mp h
    obtain ⟨tr, e2, h⟩ := Option.bind_eq_some_iff.mp h
    cases h
    obtain ⟨n, pa⟩ := tys_ok hsc hbl e2
    have nt : isStar t = false := by cases t <;> first | rfl | (simp [tyName] at e1)
    exact ⟨by simp only [noStar, List.all_cons, nt, Bool.not_false, Bool.true_and]; exact n, (pa_cons (tyName_ok hsc hbl e1) pa (star_cons nt)).cv fun σ H Q q => q⟩
theorem paired_tys : ∀ (ts : List Ty), Paired ClsV (ts.map fun t => V.ty (tyN t)) (ts.map fun t => Value.type (tyN t))
  | [] => .nil
  | t :: ts => .cons (.ty _) (paired_tys ts)
theorem g_isinT {ts : List Expr} {tys : List Ty} {p p2 : Pos} {k2 : Nat} (hg : Gl X "isinstance") (hm : X.mg "isinstance" = none) (ha : PE X a (RE X ra)) (ht : PA X ts (fun _ H Q => Q (tys.map fun t => V.ty (tyN t)) H)) (ne : tys ≠ []) (l : tys.length ≤ sizeLine) (n : isStar a = false) :
    PE X (.Call (.Name "isinstance" p) [a, .Tuple ts k2 p2] [] pos) (RE X fun ρ S => (ra ρ S).bind fun x S1 => (give S1 (isTys x S1 tys)).bind fun b S2 => .ok (.bl b) S2) := by
  refine (pe_callB call_isiT hg hm (by decide +kernel) (pa_cons ha (pa_cons (pe_tup ht) pa_nil) (star_cons n)) (by decide) (by decide) (star_cons n) (by rfl)).cv fun σ H Q ⟨ρ, S, β, er, sr, g⟩ => ?_
  refine ⟨ρ, S, β, er, sr, (Go.bind (Rp := Rep X.K) g).mono fun x H1 ⟨β1, S1, d, x1, r1, s1, g1⟩ => ?_⟩
  refine ⟨by rw [List.length_map]; exact l, fun p hp => ?_⟩
  obtain ⟨x2, s2, np⟩ := s1.laid hp (.tup (tys.map fun t => V.ty (tyN t)))
  obtain ⟨k, b, h1, h2, h3⟩ := isin_go s2 (r1.ext x2) (Go.ext g1 x2) ne
  exact ⟨x, p, _, .type k, _, b, rfl, upd_same, paired_tys tys, h1, h2, h3⟩

/-! ### calls of defs -/
/-- a def's promise: it gives what the reckoning gives -/
def spF (K : PySem.W.Frag) (C : Str → List D → Store → R D) (f : Str) (np : Nat) : Sp := fun vs H Q E =>
  ∃ ds S β, Reps K β H ds vs ∧ SRel K β H S ∧ ds.length = np ∧ Go K (Rep K) (fun x β H => ∀ cls d, ExcRep K β H x cls d → E cls d H) β H (C f ds S) Q
theorem g_call {C : Str → List D → Store → R D} {n : Nat} {f : Addr} {fd : FuncData} {ps : List Str} {x : Str} {p : Pos} {es : List Expr} {rs : Env → Store → R (List D)}
    (F : FnX X n f fd ps (spF X.K C x ps.length)) (hr : Room n X.A) (hx : Open X) (hg : Gl X x) (hm : X.mg x = some (.ref f)) (hk : PySem.W.keepIn X.K (.ref f) = true) (hb : Binds X.K fd ps [])
    (h : PA X es (RA X rs)) (ns : noStar es = true) (hl : es.length = ps.length) (hne : es ≠ []) (hlen : ∀ ρ S ds S1, rs ρ S = .ok ds S1 → ds.length = es.length) (hdb : (x == ("__debug__" : Str)) = false) :
    PE X (.Call (.Name x p) es [] pos) (RE X fun ρ S => (rs ρ S).bind fun ds S1 => C x ds S1) := by
  have f2 : ∀ {σ : St} {H : Hp} {Q : VK}, RE X (fun ρ S => (rs ρ S).bind fun ds S1 => C x ds S1) σ H Q → tCallS (spF X.K C x ps.length) Fly.f (RA X rs) σ H Q := fun {σ H Q} ⟨ρ, S, β, er, sr, g⟩ => by
    refine ⟨ρ, S, β, er, sr, ?_⟩
    dsimp only at g
    cases e : rs ρ S with
    | ok ds S1 =>
      rw [e] at g
      intro vs β1 H1 x1 r1 s1
      exact ⟨ds, S1, β1, r1, s1, by rw [hlen _ _ _ _ e, hl], Go.ext g x1⟩
    | exc x' S1 => rw [e] at g; exact g
    | stuck => rw [e] at g; exact g
  cases es with
  | nil => exact absurd rfl hne
  | cons e es =>
    have n2 : isStar e = false ∧ noStar es = true := by simpa [noStar] using ns
    exact (pe_callS F hr hg hm hk hb hx h hdb (star_cons n2.1) (star_none n2.2)).cv fun σ H Q q => f2 q
theorem g_call0 {C : Str → List D → Store → R D} {n : Nat} {f : Addr} {fd : FuncData} {ps : List Str} {x : Str} {p : Pos}
    (F : FnX X n f fd ps (spF X.K C x ps.length)) (hr : Room n X.A) (hx : Open X) (hg : Gl X x) (hm : X.mg x = some (.ref f)) (hk : PySem.W.keepIn X.K (.ref f) = true) (hb : Binds X.K fd ps [])
    (hl : 0 = ps.length) (hdb : (x == ("__debug__" : Str)) = false) :
    PE X (.Call (.Name x p) [] [] pos) (RE X fun ρ S => (R.ok [] S).bind fun ds S1 => C x ds S1) :=
  (call0_at F hr hg hm hk hb hx hdb).cv fun σ H Q ⟨ρ, S, β, er, sr, g⟩ => ⟨[], S, β, Reps.nil, sr, hl, g⟩
end
end Pyx
end
section
/-! What is walked, targets, comprehensions. -/
namespace Pyx
open PySem L2
variable [Fly]
theorem _root_.L2.PI.cv {X : Cx} {tg e : Expr} {t t' : TI} (h : PI X tg e t) (c : ∀ σ H Q, t' σ H Q → t σ H Q) : PI X tg e t' := ⟨fun pins s σ H Q I w => h.run pins s σ H Q I (c σ H Q w)⟩
theorem _root_.L2.PI.or {X : Cx} {tg e : Expr} {t t' : TI} (h : PI X tg e t) (h' : PI X tg e t') : PI X tg e (fun σ H Q => t σ H Q ∨ t' σ H Q) := ⟨fun pins s σ H Q I w => w.elim (h.run pins s σ H Q I) (h'.run pins s σ H Q I)⟩
/-- J walks these items while the guard holds -/
def Wk (K : PySem.W.Frag) (β0 : Bk) (H0 : Hp) (p : List D × Guard) (J : It) : Prop :=
  p.1.length ≤ sizeLine ∧ ∀ (i : Nat) (β : Bk) (H : Hp) (S : Store), Ext2 β0 H0 β H → SRel K β H S → p.2.ok S → i ≤ p.1.length →
    (∀ d, p.1[i]? = some d → J.go i H ∧ ∀ x H', J.yld i H x H' → Ext β H β H' ∧ SRel K β H' S ∧ Rep K β H' d x) ∧ (i = p.1.length → J.stop i H)
abbrev RI (X : Cx) (r : Env → Store → R (List D × Guard)) : TI := Rg X.K (Wk X.K) r
section
variable {K : PySem.W.Frag} {β : Bk} {H : Hp} {S : Store}
/-- a list at a has these items while the guard holds -/
def Live (K : PySem.W.Frag) (β0 : Bk) (H0 : Hp) (p : List D × Guard) (a : Addr) : Prop :=
  ∀ (β : Bk) (H : Hp) (S : Store), Ext2 β0 H0 β H → SRel K β H S → p.2.ok S → ∃ vs, SqL K H a vs ∧ Reps K β H p.1 vs
theorem live_of (s : SRel K β H S) {d : D} {v : V} {p : List D × Guard} (r : Rep K β H d v) (nt : ∀ es, d ≠ .tup es) (ns : ∀ z, d ≠ .str z) (e : srcVal S d = some p) : ∃ a, v = .ref a ∧ (∃ xs, SqL K H a xs) ∧ Live K β H p a ∧ p.1.length ≤ sizeLine := by
  cases d with
  | tup es => exact absurd rfl (nt es)
  | str z => exact absurd rfl (ns z)
  | lst ds =>
    cases e
    simp only [Rep] at r
    obtain ⟨a, vs, rfl, ⟨n, n2, t⟩, z, r⟩ := r
    exact ⟨a, rfl, ⟨vs, SqL.of t⟩, fun β' H' S' x _ _ => ⟨vs, SqL.of (x.stay _ _ n n2 t), r.ext2 x⟩, z⟩
  | fz ds =>
    cases e
    simp only [Rep] at r
    obtain ⟨a, vs, rfl, t, z, r⟩ := r
    exact ⟨a, rfl, ⟨vs, t.sq⟩, fun β' H' S' x _ _ => ⟨vs, (t.ext2 x).sq, r.ext2 x⟩, z⟩
  | ref l =>
    simp only [srcVal] at e
    split at e
    · rename_i ds q
      cases e
      obtain ⟨a, g, q1⟩ := s.cell l _ q
      simp only [Rep] at r
      obtain ⟨a', g', rfl⟩ := r
      rw [g] at g'; cases g'
      obtain ⟨vs, h1, z, _⟩ := q1.lst
      refine ⟨a, rfl, ⟨vs, SqL.of h1⟩, fun β' H' S' x s' gd => ?_, z⟩
      obtain ⟨a2, g2, qc⟩ := s'.cell l _ gd
      obtain ⟨ws, h2, _, r2⟩ := qc.lst
      rw [x.get g] at g2; cases g2
      exact ⟨ws, SqL.of h2, r2⟩
    · cases e
  | _ => simp [srcVal] at e
theorem wk_list {p : List D × Guard} {a : Addr} (l : Live K β H p a) (z : p.1.length ≤ sizeLine) : Wk K β H p (Itl K a) := by
  refine ⟨z, fun i β' H' S' x s g hi => ?_⟩
  obtain ⟨vs, hs, r⟩ := l β' H' S' x s g
  refine ⟨fun d hd => ?_, fun e => ⟨vs, hs, by rw [← r.length, e]; exact Nat.le_refl _⟩⟩
  obtain ⟨v, hv, rv⟩ := r.get hd
  refine ⟨⟨vs, v, hs, hv⟩, fun y H2 ⟨e, q⟩ => ?_⟩
  subst e
  have := q vs hs
  rw [hv] at this; cases this
  exact ⟨Ext.refl, s, rv⟩
theorem wk_tup {ds : List D} {a : Addr} {vs : List V} (t : TpAt β H a vs) (r : Reps K β H ds vs) (z : ds.length ≤ sizeLine) : Wk K β H (ds, none) (Itt K a) := by
  refine ⟨z, fun i β' H' S' x s g hi => ?_⟩
  have hs := TpAt.sq (K := K) (t.ext2 x)
  have r := r.ext2 x
  refine ⟨fun d hd => ?_, fun e => ⟨vs, hs, by rw [← r.length]; exact Nat.le_of_eq e.symm⟩⟩
  obtain ⟨v, hv, rv⟩ := r.get hd
  refine ⟨⟨vs, v, hs, hv⟩, fun y H2 ⟨e, q⟩ => ?_⟩
  subst e
  have := q vs hs
  rw [hv] at this; cases this
  exact ⟨Ext.refl, s, rv⟩
theorem wk_str {z : Str} (hz : z.length ≤ sizeLine) : Wk K β H (z.cps.toList.map fun c => D.str ⟨#[c]⟩, none) (Its z) := by
  refine ⟨by rw [List.length_map]; exact hz, fun i β' H' S' x s g hi => ⟨fun d hd => ?_, fun e => ?_⟩⟩
  · rw [List.getElem?_map] at hd
    obtain ⟨c, hc, rfl⟩ := Option.map_eq_some_iff.mp hd
    have hc' : z.cps[i]? = some c := by simpa using hc
    refine ⟨(Array.getElem?_eq_some_iff.mp hc').1, fun y H2 ⟨e, c2, h1, h2⟩ => ?_⟩
    subst e
    rw [hc'] at h1; cases h1
    subst h2
    exact ⟨Ext.refl, s, str_rep (by show 1 ≤ sizeLine; decide)⟩
  · have : z.cps.size = i := by rw [e, List.length_map, Array.length_toList]
    exact Nat.le_of_eq this
theorem wk_rng {lo : Int} {n : Nat} (z : n ≤ sizeLine) : Wk K β H (rangeD lo n, none) (Itr lo n) := by
  have hl : (rangeD lo n).length = n := by simp [rangeD]
  refine ⟨by show (rangeD lo n).length ≤ _; rw [hl]; exact z, fun i β' H' S' x s g hi => ⟨fun d hd => ?_, fun e => ?_⟩⟩
  · have hin : i < n := by rw [← hl]; exact (List.getElem?_eq_some_iff.mp hd).1
    have hd' : d = .int (lo + (i : Nat)) := by
      have hd : (rangeD lo n)[i]? = some d := hd
      unfold rangeD at hd
      rw [List.getElem?_map, List.getElem?_range hin] at hd
      cases hd; rfl
    subst hd'
    exact ⟨hin, fun y H2 ⟨e, h⟩ => by subst e; subst h; exact ⟨Ext.refl, s, int_rep _⟩⟩
  · have e : i = (rangeD lo n).length := e
    rw [hl] at e
    exact Nat.le_of_eq e.symm
theorem enumFrom_get : ∀ (ds : List D) (n i : Nat), (enumFrom n ds)[i]? = ds[i]?.map fun d => .tup [.int (n + i : Nat), d]
  | [], n, i => by simp [enumFrom]
  | d :: ds, n, 0 => by simp [enumFrom]
  | d :: ds, n, i + 1 => by
    simp only [enumFrom, List.getElem?_cons_succ]
    rw [enumFrom_get ds (n + 1) i]
    congr 1
    funext e
    congr 3
    omega
theorem enumFrom_len : ∀ (ds : List D) (n : Nat), (enumFrom n ds).length = ds.length
  | [], _ => rfl
  | d :: ds, n => by simp [enumFrom, enumFrom_len ds (n + 1)]
theorem wk_enum {p : List D × Guard} {a : Addr} (l : Live K β H p a) (z : p.1.length ≤ sizeLine) : Wk K β H (enumFrom 0 p.1, p.2) (Ite K a) := by
  refine ⟨by show (enumFrom 0 p.1).length ≤ _; rw [enumFrom_len]; exact z, fun i β' H' S' x s g hi => ?_⟩
  obtain ⟨vs, hs, r⟩ := l β' H' S' x s g
  refine ⟨fun d hd => ?_, fun e => ⟨vs, hs, ?_⟩⟩
  · have hd : (enumFrom 0 p.1)[i]? = some d := hd
    rw [enumFrom_get] at hd
    obtain ⟨d1, h1, rfl⟩ := Option.map_eq_some_iff.mp hd
    obtain ⟨v, hv, rv⟩ := r.get h1
    refine ⟨⟨vs, v, hs, hv⟩, fun y H2 ⟨T, w, e1, hT, e2, q⟩ => ?_⟩
    subst e1; subst e2
    have := q vs hs
    rw [hv] at this; cases this
    obtain ⟨x2, s2, n⟩ := s.laid hT (.tup [.int (i : Nat), v])
    refine ⟨x2, s2, ?_⟩
    simp only [Rep]
    exact ⟨T, _, rfl, ⟨n.1, upd_same⟩, by show 2 ≤ sizeLine; decide, Reps.cons (by rw [Nat.zero_add]; exact int_rep _) (Reps.one (rv.ext x2))⟩
  · have e : i = (enumFrom 0 p.1).length := e
    rw [enumFrom_len] at e
    rw [← r.length, e]; exact Nat.le_refl _
end
section
variable {X : Cx} {e a b : Expr} {tg : Expr} {pos : Pos} {ra rb : Env → Store → R D}
theorem i_val (h : PE X e (RE X ra)) : PI X tg e (RI X fun ρ S => (ra ρ S).bind fun d S1 => give S1 (srcVal S1 d)) :=
  (PI.or (pi_list h) (PI.or (pi_tup h) (pi_str h))).cv fun σ H Q ⟨ρ, S, β, er, sr, g⟩ => by
    dsimp only at g
    cases e1 : ra ρ S with
    | stuck => rw [e1] at g; exact g.elim
    | exc x S1 =>
      refine .inl ⟨ρ, S, β, er, sr, ?_⟩
      rw [e1] at g ⊢
      exact g
    | ok d S1 =>
      rw [e1] at g
      have g : Go X.K (Wk X.K) (FlyE X.K σ) β H (give S1 (srcVal S1 d)) Q := g
      obtain ⟨p, e2, g⟩ := Go.give g
      by_cases ht : ∃ es, d = .tup es
      · obtain ⟨es, rfl⟩ := ht
        cases e2
        refine .inr (.inl ⟨ρ, S, β, er, sr, ?_⟩)
        rw [e1]
        intro v β1 H1 x1 r1 s1
        simp only [Rep] at r1
        obtain ⟨a, vs, rfl, t, z, r⟩ := r1
        exact ⟨a, rfl, ⟨vs, t.sq⟩, g _ _ _ x1 (wk_tup t r z) s1⟩
      · by_cases hs : ∃ z, d = .str z
        · obtain ⟨z, rfl⟩ := hs
          cases e2
          refine .inr (.inr ⟨ρ, S, β, er, sr, ?_⟩)
          rw [e1]
          intro v β1 H1 x1 r1 s1
          obtain ⟨rfl, hz⟩ := rep_str r1
          exact ⟨z, rfl, g _ _ _ x1 (wk_str hz) s1⟩
        · refine .inl ⟨ρ, S, β, er, sr, ?_⟩
          rw [e1]
          intro v β1 H1 x1 r1 s1
          obtain ⟨a, rfl, hx, hl, hz⟩ := live_of s1 r1 (fun es q => ht ⟨es, q⟩) (fun z q => hs ⟨z, q⟩) e2
          exact ⟨a, rfl, hx, g _ _ _ x1 (wk_list hl hz) s1⟩
theorem smallI_ok {i : Int} (h : smallI i = true) : -(2 ^ 62) ≤ i ∧ i < 2 ^ 62 := of_decide_eq_true h
theorem i_rng1 {p : Pos} (hg : Gl X "range") (hm : X.mg "range" = none) {rs : Env → Store → R (List D)} (h : PA X [a] (RA X rs)) (n : isStar a = false) (hl : ∀ ρ S ds S1, rs ρ S = .ok ds S1 → ds.length = 1) :
    PI X tg (.Call (.Name "range" p) [a] [] pos) (RI X fun ρ S => (rs ρ S).bind fun ds S1 => give S1 ((srcRng ds).map fun is => (is, none))) :=
  (pi_range1 hg hm h (star_cons n)).cv fun σ H Q ⟨ρ, S, β, er, sr, g⟩ => ⟨ρ, S, β, er, sr, by
    dsimp only at g
    cases e1 : rs ρ S with
    | stuck => rw [e1] at g; exact g.elim
    | exc x S1 => rw [e1] at g; exact g
    | ok ds S1 =>
      rw [e1] at g
      intro vs β1 H1 x1 r1 s1
      have g : Go X.K (Wk X.K) (FlyE X.K σ) β H (give S1 ((srcRng ds).map fun is => (is, none))) Q := g
      obtain ⟨q, e2, g⟩ := Go.give g
      obtain ⟨is, e3, rfl⟩ := Option.map_eq_some_iff.mp e2
      have hl := hl _ _ _ _ e1
      unfold srcRng at e3
      split at e3
      · rename_i j
        split at e3
        · rename_i c
          cases e3
          obtain ⟨v, rfl, r2⟩ := reps1 r1
          obtain ⟨c1, c2⟩ := smallI_ok c.1
          exact ⟨_, by rw [rep_int r2], c1, c2, g _ _ _ x1 (wk_rng c.2) s1⟩
        · cases e3
      · simp at hl
      · cases e3⟩
theorem i_rng2 {p : Pos} (hg : Gl X "range") (hm : X.mg "range" = none) {rs : Env → Store → R (List D)} (h : PA X [a, b] (RA X rs)) (n : isStar a = false) (n2 : isStar b = false) (hl : ∀ ρ S ds S1, rs ρ S = .ok ds S1 → ds.length = 2) :
    PI X tg (.Call (.Name "range" p) [a, b] [] pos) (RI X fun ρ S => (rs ρ S).bind fun ds S1 => give S1 ((srcRng ds).map fun is => (is, none))) :=
  (pi_range2 hg hm h (by rw [star_cons n, star_cons n2]; rfl) (by rw [star_cons n2]; rfl)).cv fun σ H Q ⟨ρ, S, β, er, sr, g⟩ => ⟨ρ, S, β, er, sr, by
    dsimp only at g
    cases e1 : rs ρ S with
    | stuck => rw [e1] at g; exact g.elim
    | exc x S1 => rw [e1] at g; exact g
    | ok ds S1 =>
      rw [e1] at g
      intro vs β1 H1 x1 r1 s1
      have g : Go X.K (Wk X.K) (FlyE X.K σ) β H (give S1 ((srcRng ds).map fun is => (is, none))) Q := g
      obtain ⟨q, e2, g⟩ := Go.give g
      obtain ⟨is, e3, rfl⟩ := Option.map_eq_some_iff.mp e2
      have hl := hl _ _ _ _ e1
      unfold srcRng at e3
      split at e3
      · simp at hl
      · rename_i i j
        split at e3
        · rename_i c
          cases e3
          obtain ⟨v, w, rfl, r2, r3⟩ := reps2 r1
          obtain ⟨c1, c2⟩ := smallI_ok c.1
          obtain ⟨c3, c4⟩ := smallI_ok c.2.1
          exact ⟨_, _, by rw [rep_int r2, rep_int r3], ⟨c1, c2, c3, c4⟩, g _ _ _ x1 (wk_rng c.2.2) s1⟩
        · cases e3
      · cases e3⟩
/-- enumerate over a list -/
def srcEnumL (S : Store) (d : D) : Option (List D × Guard) :=
  match d with
  | .tup _ => none
  | .str _ => none
  | d => (srcVal S d).map fun p => (enumFrom 0 p.1, p.2)
theorem i_enum {p tpos : Pos} {elts : List Expr} {kk : Nat} (hg : Gl X "enumerate") (hm : X.mg "enumerate" = none) (h : PE X a (RE X ra)) (n : isStar a = false) :
    PI X (.Tuple elts kk tpos) (.Call (.Name "enumerate" p) [a] [] pos) (RI X fun ρ S => (ra ρ S).bind fun d S1 => give S1 (srcEnumL S1 d)) :=
  (pi_enum hg hm (a_cons h a_nil n) (star_cons n)).cv fun σ H Q ⟨ρ, S, β, er, sr, g⟩ => ⟨ρ, S, β, er, sr, by
    dsimp only at g ⊢
    cases e1 : ra ρ S with
    | stuck => rw [e1] at g; exact g.elim
    | exc x S1 => rw [e1] at g; exact g
    | ok d S1 =>
      rw [e1] at g
      intro vs β1 H1 x1 r1 s1
      have g : Go X.K (Wk X.K) (FlyE X.K σ) β H (give S1 (srcEnumL S1 d)) Q := g
      obtain ⟨q, e2, g⟩ := Go.give g
      obtain ⟨v, rfl, r2⟩ := reps1 r1
      have e3 : (∀ es, d ≠ .tup es) ∧ (∀ z, d ≠ .str z) ∧ ∃ p, srcVal S1 d = some p ∧ q = (enumFrom 0 p.1, p.2) := by
        unfold srcEnumL at e2
        split at e2
        · cases e2
        · cases e2
        · rename_i n1 n2
          obtain ⟨p, e4, e5⟩ := Option.map_eq_some_iff.mp e2
          exact ⟨fun es q => n1 es q, fun z q => n2 z q, p, e4, e5.symm⟩
      obtain ⟨nt, ns, p, e4, rfl⟩ := e3
      obtain ⟨a, rfl, ⟨xs, hx⟩, hl, hz⟩ := live_of s1 r2 nt ns e4
      exact ⟨a, xs, rfl, hx, g _ _ _ x1 (wk_enum hl hz) s1⟩⟩
theorem zip_get {α β γ : Type} (f : α → β → γ) : ∀ (xs : List α) (ys : List β) (i : Nat) (z : γ), (List.zipWith f xs ys)[i]? = some z → ∃ x y, xs[i]? = some x ∧ ys[i]? = some y ∧ z = f x y
  | [], _, _, _, h => by simp at h
  | _ :: _, [], _, _, h => by simp at h
  | x :: xs, y :: ys, 0, z, h => by simp at h; exact ⟨x, y, rfl, rfl, h.symm⟩
  | x :: xs, y :: ys, i + 1, z, h => by simpa using zip_get f xs ys i z (by simpa using h)
theorem wk_zipT {K : PySem.W.Frag} {β : Bk} {H : Hp} {xs ys : List D} {a b : Addr} {vs ws : List V} (t1 : TpAt β H a vs) (t2 : TpAt β H b ws) (r1 : Reps K β H xs vs) (r2 : Reps K β H ys ws) (z : xs.length ≤ sizeLine) :
    Wk K β H (List.zipWith (fun x y => D.tup [x, y]) xs ys, none) (RZ.ItzT K a b) := by
  have hl : (List.zipWith (fun x y => D.tup [x, y]) xs ys).length = min xs.length ys.length := List.length_zipWith
  refine ⟨by show (List.zipWith _ xs ys).length ≤ _; rw [hl]; exact Nat.le_trans (Nat.min_le_left _ _) z, fun i β' H' S' x s g hi => ⟨fun d hd => ?_, fun e => ?_⟩⟩
  · obtain ⟨p, q, h1, h2, rfl⟩ := zip_get _ xs ys i d hd
    obtain ⟨v, hv, rv⟩ := r1.get h1
    obtain ⟨w, hw, rw'⟩ := r2.get h2
    refine ⟨⟨vs, ws, v, w, (t1.ext2 x).sq, (t2.ext2 x).sq, hv, hw⟩, fun y H2 ⟨T, v', w', e1, hT, e2, q1, q2⟩ => ?_⟩
    subst e1; subst e2
    have e3 := q1 vs (t1.ext2 x).sq
    have e4 := q2 ws (t2.ext2 x).sq
    rw [hv] at e3; rw [hw] at e4
    cases e3; cases e4
    obtain ⟨x2, s2, n⟩ := s.laid hT (.tup [v, w])
    refine ⟨x2, s2, ?_⟩
    simp only [Rep]
    exact ⟨T, _, rfl, ⟨n.1, upd_same⟩, by show 2 ≤ sizeLine; decide, Reps.cons ((rv.ext2 x).ext x2) (Reps.one ((rw'.ext2 x).ext x2))⟩
  · have e : i = (List.zipWith (fun x y => D.tup [x, y]) xs ys).length := e
    rw [hl] at e
    refine ⟨vs, ws, (t1.ext2 x).sq, (t2.ext2 x).sq, ?_⟩
    rw [← r1.length, ← r2.length]
    omega
/-- a list that is not in the store -/
theorem inl_of {K : PySem.W.Frag} {β : Bk} {H : Hp} {ds : List D} {v : V} (r : Rep K β H (.lst ds) v) : ∃ a vs, v = .ref a ∧ (∀ β' H', Ext2 β H β' H' → SqL K H' a vs ∧ Reps K β' H' ds vs) ∧ ds.length ≤ sizeLine := by
  simp only [Rep] at r
  obtain ⟨a, vs, rfl, ⟨n, n2, t⟩, z, r⟩ := r
  exact ⟨a, vs, rfl, fun β' H' x => ⟨SqL.of (x.stay _ _ n n2 t), r.ext2 x⟩, z⟩
theorem wk_zipL {K : PySem.W.Frag} {β : Bk} {H : Hp} {xs ys : List D} {a b : Addr} {vs ws : List V} (t1 : ∀ β' H', Ext2 β H β' H' → SqL K H' a vs ∧ Reps K β' H' xs vs) (t2 : ∀ β' H', Ext2 β H β' H' → SqL K H' b ws ∧ Reps K β' H' ys ws) (z : xs.length ≤ sizeLine) :
    Wk K β H (List.zipWith (fun x y => D.tup [x, y]) xs ys, none) (Itz K a b) := by
  have hl : (List.zipWith (fun x y => D.tup [x, y]) xs ys).length = min xs.length ys.length := List.length_zipWith
  refine ⟨by show (List.zipWith _ xs ys).length ≤ _; rw [hl]; exact Nat.le_trans (Nat.min_le_left _ _) z, fun i β' H' S' x s g hi => ⟨fun d hd => ?_, fun e => ?_⟩⟩
  · obtain ⟨p, q, h1, h2, rfl⟩ := zip_get _ xs ys i d hd
    obtain ⟨s1, r1⟩ := t1 _ _ x
    obtain ⟨s2, r2⟩ := t2 _ _ x
    obtain ⟨v, hv, rv⟩ := r1.get h1
    obtain ⟨w, hw, rw'⟩ := r2.get h2
    refine ⟨⟨vs, ws, v, w, s1, s2, hv, hw⟩, fun y H2 ⟨T, v', w', e1, hT, e2, q1, q2⟩ => ?_⟩
    subst e1; subst e2
    have e3 := q1 vs s1
    have e4 := q2 ws s2
    rw [hv] at e3; rw [hw] at e4
    cases e3; cases e4
    obtain ⟨x2, s2, n⟩ := s.laid hT (.tup [v, w])
    refine ⟨x2, s2, ?_⟩
    simp only [Rep]
    exact ⟨T, _, rfl, ⟨n.1, upd_same⟩, by show 2 ≤ sizeLine; decide, Reps.cons (rv.ext x2) (Reps.one (rw'.ext x2))⟩
  · obtain ⟨s1, r1⟩ := t1 _ _ x
    obtain ⟨s2, r2⟩ := t2 _ _ x
    have e : i = (List.zipWith (fun x y => D.tup [x, y]) xs ys).length := e
    rw [hl] at e
    refine ⟨vs, ws, s1, s2, ?_⟩
    rw [← r1.length, ← r2.length]
    omega
end

/-! ### targets -/
theorem wipe_set {σ : St} {i : Nat} {x : Option V} : ∀ (vs : List Nat), (wipe (σ.set i x) vs).set i none = (wipe σ vs).set i none
  | [] => by simp [wipe]
  | v :: vs => by
    simp only [wipe]
    by_cases e : v = i
    · subst e
      rw [List.set_set, List.set_set, wipe_set vs]
    · rw [List.set_comm _ _ e, wipe_set vs, List.set_comm _ _ e]
theorem wipe_in {σ : St} {i : Nat} {x : Option V} : ∀ {vs : List Nat}, i ∈ vs → wipe (σ.set i x) vs = wipe σ vs
  | [], h => by simp at h
  | v :: vs, h => by
    simp only [wipe]
    by_cases e : v = i
    · subst e; exact wipe_set vs
    · rw [wipe_in (show i ∈ vs from (List.mem_cons.mp h).resolve_left fun q => e q.symm)]
/-- behind a target: the new slots; what is wiped with the target's slots is as it was -/
def RpT (K : PySem.W.Frag) (sl : List Nat) (σ0 : St) : Bk → Hp → Env → St → Prop := fun β H ρ σ => ERel K β H ρ σ ∧ ∀ vs, (∀ i ∈ sl, i ∈ vs) → wipe σ vs = wipe σ0 vs
def RG (X : Cx) (sl : List Nat) (r : D → Env → Store → R Env) : TG := fun v σ H Q => ∃ d ρ S β, Rep X.K β H d v ∧ ERel X.K β H ρ σ ∧ SRel X.K β H S ∧ Go X.K (RpT X.K sl σ) (FlyA X.K) β H (r d ρ S) Q
def RGs (X : Cx) (sl : List Nat) (r : List D → Env → Store → R Env) : TGs := fun vs σ H Q => ∃ ds ρ S β, Reps X.K β H ds vs ∧ ERel X.K β H ρ σ ∧ SRel X.K β H S ∧ Go X.K (RpT X.K sl σ) (FlyA X.K) β H (r ds ρ S) Q
theorem _root_.L2.PG.cv {X : Cx} {e : Expr} {t t' : TG} (h : PG X e t) (c : ∀ v σ H Q, t' v σ H Q → t v σ H Q) : PG X e t' := ⟨fun pins s σ H v u Q I r w => h.run pins s σ H v u Q I r (c v σ H Q w)⟩
theorem _root_.L2.PGs.cv {X : Cx} {e : List Expr} {t t' : TGs} (h : PGs X e t) (c : ∀ v σ H Q, t' v σ H Q → t v σ H Q) : PGs X e t' := ⟨fun pins s σ H v u Q I r w => h.run pins s σ H v u Q I r (c v σ H Q w)⟩
theorem ERel.set {F : Fly} {K : PySem.W.Frag} {β : Bk} {H : Hp} {ρ : Env} {σ : St} (h : ERel K β H ρ σ) {d : D} {v : V} (r : Rep K β H d v) (i : Nat) (ho : Off i) : ERel K β H (ρ.set i (some d)) (σ.set i (some v)) := by
  refine ⟨by simp [h.len], fun j e o q => ?_, fun hh e => ?_⟩
  rotate_left
  · obtain ⟨y, g1, g2, g3⟩ := h.hnd hh e
    have ne : i ≠ hh.slot := fun q => ho hh e q.symm
    exact ⟨y, by rw [List.getElem?_set_ne ne]; exact g1, by rw [List.getElem?_set_ne ne]; exact g2, g3⟩
  by_cases hj : i = j
  · subst hj
    by_cases hi : i < ρ.length
    · rw [List.getElem?_set_self hi] at q
      cases q
      exact ⟨v, by rw [List.getElem?_set_self (by rw [← h.len]; exact hi)], r⟩
    · rw [List.getElem?_eq_none (by simp; omega)] at q; cases q
  · rw [List.getElem?_set_ne hj] at q ⊢
    exact h.at_ j e o q
section
variable {X : Cx} {e o i : Expr} {pos : Pos} {ro ri : Env → Store → R D}
theorem p_var {j : Nat} {x : Str} (ho : Off j) (hN : X.N.Nodup) (hi : X.N[j]? = some x) (hx : Loc X.env.scope x) (hf : X.fn x = true ∨ X.env.scope.names.lookup x = some .local) :
    PG X (.Name x pos) (RG X [j] fun d ρ S => if j < ρ.length then .ok (ρ.set j (some d)) S else .stuck) :=
  (pg_name hN hi hx hf).cv fun v σ H Q ⟨d, ρ, S, β, rv, er, sr, g⟩ => by
    dsimp only at g
    split at g
    · exact Go.same (t := σ.set j (some v)) g ⟨er.set rv j ho, fun vs h => wipe_in (h j (List.mem_singleton.mpr rfl))⟩ sr
    · exact g.elim
theorem repKV_length {κ : Type} {K : PySem.W.Frag} {β : Bk} {H : Hp} : ∀ {fs : List (κ × D)} {ws : List (κ × V)}, RepKV K β H fs ws → fs.length = ws.length
  | [], _, h => by
    have h : _ = [] := h
    subst h; rfl
  | (k, e) :: r, _, ⟨w, wr, q, h, t⟩ => by
    subst q
    simp [repKV_length t]
theorem repKV_putG {κ : Type} [DecidableEq κ] {K : PySem.W.Frag} {β : Bk} {H : Hp} {k : κ} {d : D} {v : V} (rd : Rep K β H d v) {fs : List (κ × D)} {ws : List (κ × V)} (r : RepKV K β H fs ws) : RepKV K β H (putG fs k d) (putK ws k v) := by
  have anyE : ∀ {fs : List (κ × D)} {ws : List (κ × V)}, RepKV K β H fs ws → (fs.any fun kv => decide (kv.1 = k)) = ws.any fun kv => decide (kv.1 = k) := by
    intro fs
    induction fs with
    | nil => intro ws h; have h : _ = [] := h; subst h; rfl
    | cons p r ih =>
      obtain ⟨g, e⟩ := p
      rintro _ ⟨w, wr, rfl, h, t⟩
      rw [List.any_cons, List.any_cons, ih t]
  have mapE : ∀ {fs : List (κ × D)} {ws : List (κ × V)}, RepKV K β H fs ws → RepKV K β H (fs.map fun kv => if kv.1 = k then (kv.1, d) else kv) (ws.map fun kv => if kv.1 = k then (kv.1, v) else kv) := by
    intro fs
    induction fs with
    | nil => intro ws h; have h : _ = [] := h; subst h; rfl
    | cons p r ih =>
      obtain ⟨g, e⟩ := p
      rintro _ ⟨w, wr, rfl, h, t⟩
      rw [List.map_cons, List.map_cons]
      by_cases c : g = k
      · rw [if_pos c, if_pos c]; exact ⟨v, _, rfl, rd, ih t⟩
      · rw [if_neg c, if_neg c]; exact ⟨w, _, rfl, h, ih t⟩
  have appE : ∀ {fs : List (κ × D)} {ws : List (κ × V)}, RepKV K β H fs ws → RepKV K β H (fs ++ [(k, d)]) (ws ++ [(k, v)]) := by
    intro fs
    induction fs with
    | nil => intro ws h; have h : _ = [] := h; subst h; exact ⟨v, [], rfl, rd, rfl⟩
    | cons p r ih =>
      obtain ⟨g, e⟩ := p
      rintro _ ⟨w, wr, rfl, h, t⟩
      exact ⟨w, _, rfl, h, ih t⟩
  unfold putG putK
  rw [anyE r]
  split
  · exact mapE r
  · exact appE r
theorem putG_len {κ α : Type} [DecidableEq κ] (kvs : List (κ × α)) (k : κ) (v : α) : (putG kvs k v).length ≤ kvs.length + 1 := by
  unfold putG
  split
  · rw [List.length_map]; omega
  · rw [List.length_append]; simp
theorem sto_rep {K : PySem.W.Frag} {β : Bk} {H : Hp} {S S' : Store} {x y d : D} {xv yv v : V} {Q : Hp → Prop} (s : SRel K β H S) (rx : Rep K β H x xv) (ry : Rep K β H y yv) (rd : Rep K β H d v) (h : stoD S x y d = some S')
    (q : ∀ H', Ext β H β H' → SRel K β H' S' → Q H') : rSetL xv yv v H Q ∨ rSetD xv yv v H Q := by
  unfold stoD at h
  split at h
  · rename_i l
    simp only [Rep] at rx
    obtain ⟨a, ga, rfl⟩ := rx
    split at h
    · rename_i ds c
      obtain ⟨a', ga', qc⟩ := s.cell _ _ c
      rw [ga] at ga'; cases ga'
      obtain ⟨vs, ha, z, r3⟩ := qc.lst
      split at h
      · rename_i k
        obtain ⟨j, hj, rfl⟩ := Option.map_eq_some_iff.mp h
        obtain ⟨x3, s3⟩ := s.write ga (ds := ds.set j d) (vs := vs.set j v) (by rw [List.length_set]; exact z) (r3.set j rd)
        exact .inl ⟨a, vs, _, j, rfl, rep_int ry, ha, by rw [← r3.length]; exact hj, q _ x3 s3⟩
      · cases h
    · rename_i kvs c
      obtain ⟨a', ga', ob, h1, ws, rfl, z, r⟩ := s.cell _ _ c
      rw [ga] at ga'; cases ga'
      split at h
      · rename_i hl
        obtain ⟨k, hk, rfl⟩ := Option.map_eq_some_iff.mp h
        obtain ⟨x3, s3⟩ := s.writeC ga (c := .dk (putG kvs k d)) (o := .dK (putK ws k v)) ⟨_, rfl, by have := putG_len kvs k d; omega, repKV_putG rd r⟩
        refine .inr ⟨a, _, rfl, ?_, q _ x3 s3⟩
        rw [key_rep ry hk]
        exact DPut.k h1 (by rw [← repKV_length r]; exact hl)
      · cases h
    · rename_i kvs c
      obtain ⟨a', ga', ob, h1, ws, rfl, z, r⟩ := s.cell _ _ c
      rw [ga] at ga'; cases ga'
      split at h
      · rename_i ks
        split at h
        · rename_i hl
          obtain ⟨k, hk, rfl⟩ := Option.map_eq_some_iff.mp h
          simp only [Rep] at ry
          obtain ⟨b, vs, rfl, t, _, rv⟩ := ry
          obtain ⟨x3, s3⟩ := s.writeC ga (c := .dt (putG kvs k d)) (o := .dT (putK ws k v)) ⟨_, rfl, by have := putG_len kvs k d; omega, repKV_putG rd r⟩
          refine .inr ⟨a, _, rfl, ?_, q _ x3 s3⟩
          exact DPut.t h1 (by rw [← keys_rep rv hk]; exact t.2) (by rw [← repKV_length r]; exact hl)
        · cases h
      · cases h
    · cases h
  · cases h
theorem set_or {X : Cx} {t t' : TSet} (h : PSet X t) (h' : PSet X t') : PSet X (fun o i v H Q => t o i v H Q ∨ t' o i v H Q) := fun pins s σ H o i v ov iv u Q I ro ri rv w =>
  w.elim (h pins s σ H o i v ov iv u Q I ro ri rv) (h' pins s σ H o i v ov iv u Q I ro ri rv)
theorem p_sub (hu : X.A.units + 65 < cLine) (ho : PE X o (RE X ro)) (hi : PE X i (RE X ri)) (hs : isSlice i = false) :
    PG X (.Subscript o i pos) (RG X [] fun d ρ S => (ro ρ S).bind fun x S1 => (ri ρ S1).bind fun y S2 => match stoD S2 x y d with
    | some S3 => .ok ρ S3
    | none => .stuck) :=
  (pg_sub ho hi (set_or set_list (set_dict (by omega))) (by intro v; cases i <;> first | rfl | (simp [isSlice] at hs))).cv fun v σ H Q ⟨d, ρ, S, β, rv, er, sr, g⟩ =>
    ⟨ρ, S, β, er, sr, ((Go.bind (Rp := Rep X.K) g).mono fun x H1 ⟨β1, S1, p, x1, r1, s1, g1⟩ => ⟨ρ, S1, β1, er.ext x1, s1, ((Go.bind (Rp := Rep X.K) g1).mono fun y H2 ⟨β2, S2, q, x2, r2, s2, g2⟩ => by
      dsimp only at g2
      split at g2
      · rename_i S3 e3
        exact sto_rep s2 (r1.ext x2) r2 ((rv.ext x1).ext x2) e3 fun H' x3 s3 => g2 σ _ _ x3 ⟨((er.ext x1).ext x2).ext x3, fun _ _ => rfl⟩ s3
      · exact g2.elim).one⟩).one⟩
theorem ps_nil : PGs X [] (RGs X [] fun ds ρ S => match ds with
    | [] => .ok ρ S
    | _ => .stuck) := pgs_nil.cv fun v σ H Q ⟨ds, ρ, S, β, rv, er, sr, g⟩ => by
  dsimp only at g
  split at g
  · exact ⟨rv.unnil, Go.same (t := σ) g ⟨er, fun _ _ => rfl⟩ sr⟩
  · exact g.elim
theorem ps_cons {es : List Expr} {sl sls : List Nat} {rt : D → Env → Store → R Env} {rs : List D → Env → Store → R Env} (h : PG X e (RG X sl rt)) (hs : PGs X es (RGs X sls rs)) (n : isStar e = false) :
    PGs X (e :: es) (RGs X (sl ++ sls) fun ds ρ S => match ds with
    | d :: ds => (rt d ρ S).bind fun ρ1 S1 => rs ds ρ1 S1
    | [] => .stuck) := (pgs_cons h hs (by cases e <;> first | rfl | (simp [isStar] at n))).cv fun v σ H Q ⟨ds, ρ, S, β, rv, er, sr, g⟩ => by
  dsimp only at g
  split at g
  · rename_i d dr
    obtain ⟨w, wr, rfl, r1, r2⟩ := rv.uncons
    refine ⟨w, wr, rfl, d, ρ, S, β, r1, er, sr, ?_⟩
    refine (Go.bind (Rp := RpT X.K sl σ) g).mono fun σ1 H1 ⟨β1, S1, ρ1, x1, ⟨e1, w1⟩, s1, g1⟩ => ⟨dr, ρ1, S1, β1, r2.ext x1, e1, s1, ?_⟩
    have g1 : Go X.K (RpT X.K (sl ++ sls) σ) (FlyA X.K) β1 H1 (rs dr ρ1 S1) Q := g1
    cases q : rs dr ρ1 S1 with
    | stuck => rw [q] at g1; exact g1.elim
    | exc _ _ => rw [q] at g1; exact g1
    | ok ρ2 S2 =>
      rw [q] at g1
      intro σ2 β2 H2 x2 ⟨e2, w2⟩ s2
      exact g1 σ2 β2 H2 x2 ⟨e2, fun vs hv => (w2 vs fun i hi => hv i (List.mem_append_right _ hi)).trans (w1 vs fun i hi => hv i (List.mem_append_left _ hi))⟩ s2
  · exact g.elim
theorem each_len : ∀ (es : List Expr) (env : PySem.Env), (assignEach es env).length = es.length
  | [], _ => rfl
  | e :: es, env => by
    cases e <;> (show (assignEach es env).length + 1 = es.length + 1; rw [each_len es env])
theorem each_none : ∀ {es : List Expr} {env : PySem.Env}, noStar es = true → (assignEach es env).findIdx? (·.1) = none
  | [], _, _ => rfl
  | e :: es, env, h => by
    simp only [noStar, List.all_cons, Bool.and_eq_true, Bool.not_eq_true'] at h
    have ih := each_none (es := es) (env := env) (by simpa [noStar] using h.2)
    have hh : ∃ t, assignEach (e :: es) env = (false, t) :: assignEach es env := by
      cases e <;> first | exact ⟨_, rfl⟩ | (simp [isStar] at h)
    obtain ⟨t, hh⟩ := hh
    rw [hh, List.findIdx?_cons]
    simp [ih]
theorem p_tup {es : List Expr} {k m : Nat} {sl : List Nat} {rs : List D → Env → Store → R Env} (hc : X.calm = true) (h : PGs X es (RGs X sl rs)) (n : noStar es = true) (hm : m = es.length) :
    PG X (.Tuple es k pos) (RG X sl fun d ρ S => match d with
    | .tup ds => if ds.length = m then rs ds ρ S else .stuck
    | _ => .stuck) := (pg_tup (n := es.length) hc h (each_len es _) (each_none n)).cv fun v σ H Q ⟨d, ρ, S, β, rv, er, sr, g⟩ => by
  dsimp only at g
  split at g
  · rename_i ds
    split at g
    · rename_i hl
      obtain ⟨a, vs, rfl, t, z, r⟩ := rep_tup rv
      exact ⟨a, vs, rfl, t, by rw [← r.length, hl, hm], ds, ρ, S, β, r, er, sr, g⟩
    · exact g.elim
  · exact g.elim
end
end Pyx
end
section
/-! Comprehensions and statements. -/
namespace Pyx
open PySem L2
variable [Fly]
section
variable {α α' τ τ' : Type} {K : PySem.W.Frag} {Rp : Bk → Hp → α → τ → Prop} {Rq : Bk → Hp → α' → τ' → Prop} {β β0 : Bk} {H H0 : Hp}
/-- what stands behind the first of two steps, the end as it was wanted at first -/
theorem Go.bindB {E : XW} {r : R α} {f : α → Store → R α'} {Q : τ' → Hp → Prop} (x0 : Ext β0 H0 β H) (h : Go K Rq E β0 H0 (r.bind f) Q) :
    Go K Rp E β H r fun t H1 => ∃ β1 S1 a, Ext β H β1 H1 ∧ Rp β1 H1 a t ∧ SRel K β1 H1 S1 ∧ Go K Rq E β0 H0 (f a S1) Q := by
  cases r with
  | ok a S' => exact fun t b c x y z => ⟨b, S', a, x, y, z, h⟩
  | exc e S' => exact fun b c x s => h b c (x0.trans x) s
  | stuck => exact h
end
theorem Go.toE {α τ : Type} {K : PySem.W.Frag} {Rp : Bk → Hp → α → τ → Prop} {E : XW} {β : Bk} {H : Hp} {r : R α} {Q : τ → Hp → Prop} (h : Go K Rp NX β H r Q) : Go K Rp E β H r Q := by
  cases r with
  | ok a S' => exact h
  | exc e S' => exact fun b c x s => (h b c x s).elim
  | stuck => exact h
/-- nothing flies out of a list that is made -/
theorem Go.quiet {K : PySem.W.Frag} {Rp : Bk → Hp → D → V → Prop} {E : XW} {β : Bk} {H : Hp} {m : Bool} {r : R (List D)} {Q : V → Hp → Prop} (h : Go K Rp E β H (r.noX.bind (mkL m)) Q) : Go K Rp NX β H (r.bind (mkL m)) Q := by
  cases r with
  | ok a S' =>
    have h : Go K Rp E β H (mkL m a S') Q := h
    show Go K Rp NX β H (mkL m a S') Q
    unfold mkL at h ⊢
    split at h
    · rename_i z
      rw [if_pos z]
      cases m <;> exact h
    · exact h.elim
  | exc e S' => exact h.elim
  | stuck => exact h.elim
theorem rgn {α τ : Type} {K : PySem.W.Frag} {Rp : Bk → Hp → α → τ → Prop} {r : Env → Store → R α} {σ : St} {H : Hp} {Q : τ → Hp → Prop} (F : Fly) (hn : F.hand = none) (h : RgN K Rp r σ H Q) : @Rg F α τ K Rp r σ H Q := by
  obtain ⟨ρ, S, β, er, sr, g⟩ := h
  exact ⟨ρ, S, β, er.to rfl hn, sr, Go.toE g⟩
theorem wipe_wipe {σ : St} {vs : List Nat} : wipe (wipe σ vs) vs = wipe σ vs := by
  have h : ∀ (us : List Nat) (τ : St), (∀ i ∈ us, (∀ x, τ[i]? = some x → x = none)) → wipe τ us = τ := fun us => by
    induction us with
    | nil => intro τ _; rfl
    | cons u us ih =>
      intro τ ht
      simp only [wipe]
      rw [ih τ fun i hi => ht i (List.mem_cons_of_mem _ hi)]
      refine List.ext_getElem? fun j => ?_
      by_cases e : u = j
      · subst e
        by_cases l : u < τ.length
        · rw [List.getElem?_set_self l]
          have := ht u (List.mem_cons_self ..) τ[u] (by simp [l])
          simp [l, this]
        · rw [List.getElem?_eq_none (by simp; omega), List.getElem?_eq_none (by omega)]
      · rw [List.getElem?_set_ne e]
  refine h vs _ fun i hi x hx => ?_
  cases x with
  | none => rfl
  | some v => exact absurd hi (wipe_some (σ := σ) hx).2
abbrev ERN (K : PySem.W.Frag) (β : Bk) (H : Hp) (ρ : Env) (σ : St) : Prop := @ERel K never β H ρ σ
omit [Fly] in
theorem ERel.wipe {K : PySem.W.Frag} {β : Bk} {H : Hp} {ρ : Env} {σ : St} (h : ERN K β H ρ σ) : ∀ (vs : List Nat), ERN K β H (wipeE ρ vs) (L2.wipe σ vs)
  | [] => h
  | v :: vs => by
    have ih := ERel.wipe h vs
    letI : Fly := never
    refine ⟨by simp [wipeE, L2.wipe, ih.len], fun j d _ q => ?_, fun q e => by cases e⟩
    simp only [wipeE, L2.wipe] at q ⊢
    by_cases e : v = j
    · subst e
      by_cases l : v < (wipeE ρ vs).length
      · rw [List.getElem?_set_self l] at q; cases q
      · rw [List.getElem?_eq_none (by simp; omega)] at q; cases q
    · rw [List.getElem?_set_ne e] at q ⊢
      exact ih.at_ j d (off_of rfl j) q
/-- a comprehension's turn -/
def turnC (rt : D → Env → Store → R Env) (rc : Env → Store → R Bool) (re : Env → Store → R D) (ρ : Env) (x : D) (S : Store) : R (List D) :=
  (rt x ρ S).bind fun ρ1 S3 => (rc ρ1 S3).bind fun b S4 => if b then (re ρ1 S4).bind fun y S5 => .ok [y] S5 else .ok [] S4
theorem lc_go {K : PySem.W.Frag} {rs : Env → Store → R (List D × Guard)} {rt : D → Env → Store → R Env} {rc : Env → Store → R Bool} {re : Env → Store → R D} {vs sl : List Nat} {m : Bool} {g : TG} (hsl : ∀ i ∈ sl, i ∈ vs)
    (hg : ∀ v σ H Q, (∃ d ρ S β, Rep K β H d v ∧ ERN K β H ρ σ ∧ SRel K β H S ∧ Go K (@RpT never K sl σ) NX β H (rt d ρ S) Q) → g v σ H Q) {σ : St} {H : Hp} {Q : V → Hp → Prop}
    (hn : Fly.hand = none) (h : Rg K (Rep K) (fun ρ S => (rs ρ S).bind fun p S1 => (compGo p.2 (turnC rt rc re (wipeE ρ vs)) p.1 S1).noX.bind (mkL m)) σ H Q) :
    tLc (Rg K (Wk K) rs) g (RgN K Is rc) (RgN K (Rep K) re) vs σ H Q := by
  obtain ⟨ρ, S, β, er, sr, g0⟩ := h
  have ern : ERN K β H ρ σ := er.to hn rfl
  refine ⟨ρ, S, β, er, sr, (Go.bind (Rp := Wk K) g0).mono fun J H1 ⟨β1, S1, p, x1, wk, s1, g1⟩ => fun D hD => ?_⟩
  obtain ⟨z, wk⟩ := wk
  have g1 := Go.quiet g1
  refine ⟨fun i mm H' => mm = p.1.length - i ∧ i ≤ p.1.length ∧ ∃ β' S' dacc acc, Ext β1 H1 β' H' ∧ D ∈ β'.z ∧ SRel K β' H' S' ∧ H' D = some (.lst acc) ∧ Reps K β' H' dacc acc ∧ dacc.length ≤ i ∧ ERN K β' H' (wipeE ρ vs) (wipe σ vs) ∧
    Go K (Rep K) NX β1 H1 ((compGo p.2 (turnC rt rc re (wipeE ρ vs)) (p.1.drop i) S').bind fun zs S2 => mkL m (dacc ++ zs) S2) Q, ⟨p.1.length, by simp, Nat.zero_le _, ?_⟩, ?_⟩
  · refine ⟨β1.hide D, S1, [], [], Ext.hide hD, List.mem_cons_self .., s1.hide hD, upd_same, Reps.nil, Nat.le_refl _, ((ern.ext x1).ext (Ext.hide hD)).wipe vs, ?_⟩
    have e : (fun zs S2 => mkL m ([] ++ zs) S2) = mkL m := rfl
    rw [e]; exact g1
  · rintro i mm H' ⟨rfl, hi, β', S', dacc, acc, x2, mz, s2, hacc, ra, la, e2, g2⟩
    have nb : D ∉ β'.b := (s2.out D mz).1
    by_cases hlt : i < p.1.length
    · have hdrop : p.1.drop i = p.1[i] :: p.1.drop (i + 1) := List.drop_eq_getElem_cons hlt
      rw [hdrop] at g2
      simp only [compGo] at g2
      by_cases gd : p.2.ok S'
      · rw [if_pos gd] at g2
        obtain ⟨w1, _⟩ := wk i β' H' S' (x2.to2 s1) s2 gd hi
        obtain ⟨go, yl⟩ := w1 p.1[i] (by simp [hlt])
        refine .inr ⟨go, _, fun H2 w => ⟨_, Nat.sub_lt_sub_left hlt (Nat.lt_succ_self i), rfl, hlt, w⟩, fun x H2 y => ?_⟩
        obtain ⟨x3, s3, r3⟩ := yl x H2 y
        refine hg _ _ _ _ ⟨p.1[i], wipeE ρ vs, S', β', r3, e2.ext x3, s3, ?_⟩
        have g2 : Go K (Rep K) NX β1 H1 ((rt p.1[i] (wipeE ρ vs) S').bind fun ρ1 S3 => (rc ρ1 S3).bind fun b S4 => (if b then (re ρ1 S4).bind fun y S5 => .ok [y] S5 else .ok [] S4).bind fun a S =>
            ((compGo p.2 (turnC rt rc re (wipeE ρ vs)) (p.1.drop (i + 1)) S).bind fun zs S2 => .ok (a ++ zs) S2).bind fun zs S2 => mkL m (dacc ++ zs) S2) Q := by
          have e : ((rt p.1[i] (wipeE ρ vs) S').bind fun ρ1 S3 => (rc ρ1 S3).bind fun b S4 => (if b then (re ρ1 S4).bind fun y S5 => .ok [y] S5 else .ok [] S4).bind fun a S =>
            ((compGo p.2 (turnC rt rc re (wipeE ρ vs)) (p.1.drop (i + 1)) S).bind fun zs S2 => .ok (a ++ zs) S2).bind fun zs S2 => mkL m (dacc ++ zs) S2) =
            ((turnC rt rc re (wipeE ρ vs) p.1[i] S').bind fun a S => (compGo p.2 (turnC rt rc re (wipeE ρ vs)) (p.1.drop (i + 1)) S).bind fun zs S2 => .ok (a ++ zs) S2).bind fun zs S2 => mkL m (dacc ++ zs) S2 := by
            rw [R.bind_assoc]
            have e2 : turnC rt rc re (wipeE ρ vs) p.1[i] S' = (rt p.1[i] (wipeE ρ vs) S').bind fun ρ1 S3 => (rc ρ1 S3).bind fun b S4 => if b then (re ρ1 S4).bind fun y S5 => .ok [y] S5 else .ok [] S4 := rfl
            rw [e2, R.bind_assoc]
            refine R.bind_congr fun ρ1 S3 => ?_
            rw [R.bind_assoc]
          rw [e]; exact g2
        refine (Go.bindB (Rp := @RpT never K sl (wipe σ vs)) (x2.trans x3) g2).mono fun σ3 H3 ⟨β3, S3, ρ3, x4, ⟨e4, w4⟩, s4, g4⟩ => ⟨?_, ?_⟩
        · have := w4 vs hsl
          rw [wipe_wipe] at this
          exact this
        · have x23 := (x2.trans x3).trans x4
          have wipes : ERN K β' H2 (wipeE ρ vs) (wipe σ vs) := e2.ext x3
          refine ⟨ρ3, S3, β3, e4, s4, (Go.bindB (Rp := Is) x23 g4).mono fun b H4 ⟨β4, S4, b', x5, eb, s5, g5⟩ => ?_⟩
          have eb : b' = b := eb
          subst eb
          have k1 : Ext β' H' β4 H4 := (x3.trans x4).trans x5
          cases b' with
          | false =>
            refine iteF ⟨β4, S4, dacc, acc, x2.trans k1, k1.hid _ mz, s5, k1.stay _ _ nb hacc, ra.ext k1, Nat.le_succ_of_le la, e2.ext k1, ?_⟩
            have g5 : Go K (Rep K) NX β1 H1 (((R.ok [] S4).bind fun ys S1 => (compGo p.2 (turnC rt rc re (wipeE ρ vs)) (p.1.drop (i + 1)) S1).bind fun zs S2 => .ok (ys ++ zs) S2).bind fun zs S2 => mkL m (dacc ++ zs) S2) Q := by
              rw [R.bind_assoc]; exact g5
            simp only [R.bind_ok, List.nil_append, R.bind_assoc] at g5
            exact g5
          | true =>
            refine iteT ⟨ρ3, S4, β4, e4.ext x5, s5, ?_⟩
            have g5 : Go K (Rep K) NX β1 H1 ((re ρ3 S4).bind fun y S5 => (compGo p.2 (turnC rt rc re (wipeE ρ vs)) (p.1.drop (i + 1)) S5).bind fun zs S2 => mkL m ((dacc ++ [y]) ++ zs) S2) Q := by
              have e : ((re ρ3 S4).bind fun y S5 => (compGo p.2 (turnC rt rc re (wipeE ρ vs)) (p.1.drop (i + 1)) S5).bind fun zs S2 => mkL m ((dacc ++ [y]) ++ zs) S2) =
                  ((re ρ3 S4).bind fun y S5 => R.ok [y] S5).bind fun a S => ((compGo p.2 (turnC rt rc re (wipeE ρ vs)) (p.1.drop (i + 1)) S).bind fun zs S2 => .ok (a ++ zs) S2).bind fun zs S2 => mkL m (dacc ++ zs) S2 := by
                rw [R.bind_assoc]
                refine R.bind_congr fun y S5 => ?_
                simp only [R.bind_ok, R.bind_assoc, List.append_assoc]
              rw [e]; exact g5
            refine (Go.bindB (Rp := Rep K) (x2.trans k1) g5).mono fun y H5 ⟨β5, S5, dy, x6, ry, s6, g6⟩ => ?_
            have k2 : Ext β' H' β5 H5 := k1.trans x6
            have hD5 : H5 D = some (.lst acc) := k2.stay _ _ nb hacc
            have mz5 : D ∈ β5.z := k2.hid _ mz
            have ll : acc.length < sizeLine := by
              rw [← ra.length]; omega
            refine ⟨acc, hD5, ll, β5, S5, dacc ++ [dy], acc ++ [y], ?_, mz5, s6.poke hD5 mz5, upd_same, ((ra.ext k2).append (Reps.one ry)).poke hD5 mz5, by simp; omega, (e2.ext k2).poke hD5 mz5, g6⟩
            have k3 := x2.trans k2
            exact ⟨k3.pre, k3.hid, k3.hnew, fun a o n e => by rw [upd_ne (ne_of_none e hD)]; exact k3.stay a o n e, k3.new⟩
      · rw [if_neg gd] at g2; exact g2.elim
    · have hi2 : i = p.1.length := by omega
      subst hi2
      rw [List.drop_length] at g2
      simp only [compGo] at g2
      by_cases gd : p.2.ok S'
      · rw [if_pos gd] at g2
        obtain ⟨_, w2⟩ := wk _ β' H' S' (x2.to2 s1) s2 gd hi
        refine .inl ⟨w2 rfl, ?_⟩
        simp only [R.bind_ok, List.append_nil] at g2
        have zl : dacc.length ≤ sizeLine := Nat.le_trans la z
        unfold mkL at g2
        rw [if_pos zl] at g2
        have cut : ∀ a ∈ β1.z, a ∈ β'.z := x2.hid
        cases m with
        | false =>
          have g2 : Go K (Rep K) NX β1 H1 (.ok (.lst dacc) S') Q := g2
          refine g2 (.ref D) ⟨β'.b, β1.z⟩ H' ⟨x2.pre, fun _ h => h, fun _ h n _ => absurd h n, x2.stay, x2.new⟩ ?_ (SRel.less cut s2)
          simp only [Rep]
          exact ⟨D, acc, rfl, ⟨nb, s1.freshZ hD, hacc⟩, zl, Reps.less cut ra⟩
        | true =>
          have g2 : Go K (Rep K) NX β1 H1 (.ok (.ref S'.length) (S' ++ [.lst dacc])) Q := g2
          refine g2 (.ref D) ⟨β'.b ++ [D], β1.z⟩ H' ⟨?_, fun _ h => h, fun _ h n _ => absurd h n, x2.stay, fun a h n => ?_⟩ ?_ ?_
          · obtain ⟨nw, e⟩ := x2.pre
            exact ⟨nw ++ [D], by show β'.b ++ [D] = _; rw [e, List.append_assoc]⟩
          · rcases List.mem_append.mp h with h | h
            · exact x2.new a h n
            · rw [List.mem_singleton.mp h]; exact hD
          · simp only [Rep]
            exact ⟨D, by show (β'.b ++ [D])[S'.length]? = _; rw [← s2.len]; simp, rfl⟩
          · exact SRel.move s2 mz cut (s1.freshZ hD) hacc zl ra
      · rw [if_neg gd] at g2; exact g2.elim
end Pyx
end
section
/-! Statements. -/
namespace Pyx
open PySem L2
variable [Fly]
inductive FlV where
  | nx (σ : St)
  | rt (v : V)
  | bk (σ : St)
  | ct (σ : St)
def RpF (K : PySem.W.Frag) (β : Bk) (H : Hp) (f : Fl) (g : FlV) : Prop :=
  match f, g with
  | .nx ρ, .nx σ => ERel K β H ρ σ
  | .bk ρ, .bk σ => ERel K β H ρ σ
  | .ct ρ, .ct σ => ERel K β H ρ σ
  | .rt d, .rt v => Rep K β H d v
  | _, _ => False
def endQ (D : Ends) : FlV → Hp → Prop
  | .nx σ => D.nx σ
  | .rt v => D.rt v
  | .bk σ => D.bk σ
  | .ct σ => D.ct σ
abbrev RF (K : PySem.W.Frag) (r : Env → Store → R Fl) : TS := fun D σ H => ∃ ρ S β, ERel K β H ρ σ ∧ SRel K β H S ∧ Go K (RpF K) (FlyA K) β H (r ρ S) (endQ D)
abbrev RS (X : Cx) (r : Env → Store → R Fl) : TS := RF X.K r
theorem _root_.L2.PS.cv {X : Cx} {s : Stmt} {t t' : TS} (h : PS X s t) (c : ∀ D σ H, t' D σ H → t D σ H) : PS X s t' := ⟨fun pins s σ H D I w => h.run pins s σ H D I (c D σ H w)⟩
theorem _root_.L2.PSs.cv {X : Cx} {s : List Stmt} {t t' : TS} (h : PSs X s t) (c : ∀ D σ H, t' D σ H → t D σ H) : PSs X s t' := ⟨fun pins s σ H D I w => h.run pins s σ H D I (c D σ H w)⟩
section
variable {K : PySem.W.Frag} {β : Bk} {H : Hp} {S : Store} {D : Ends}
theorem go_nx {ρ : Env} {σ : St} (g : Go K (RpF K) (FlyA K) β H (.ok (.nx ρ) S) (endQ D)) (e : ERel K β H ρ σ) (s : SRel K β H S) : D.nx σ H := Go.same (t := FlV.nx σ) g e s
theorem go_bk {ρ : Env} {σ : St} (g : Go K (RpF K) (FlyA K) β H (.ok (.bk ρ) S) (endQ D)) (e : ERel K β H ρ σ) (s : SRel K β H S) : D.bk σ H := Go.same (t := FlV.bk σ) g e s
theorem go_ct {ρ : Env} {σ : St} (g : Go K (RpF K) (FlyA K) β H (.ok (.ct ρ) S) (endQ D)) (e : ERel K β H ρ σ) (s : SRel K β H S) : D.ct σ H := Go.same (t := FlV.ct σ) g e s
theorem go_rt {d : Pyx.D} {v : V} (g : Go K (RpF K) (FlyA K) β H (.ok (.rt d) S) (endQ D)) (e : Rep K β H d v) (s : SRel K β H S) : D.rt v H := Go.same (t := FlV.rt v) g e s
end
section
variable {X : Cx} {e a b c : Expr} {pos : Pos} {re : Env → Store → R D} {rb ra : Env → Store → R Fl}
theorem s_never {s : Stmt} : PS X s (RS X fun _ _ => .stuck) := ⟨fun _ _ _ _ _ _ ⟨_, _, _, _, _, g⟩ => g.elim⟩
theorem asg_go {te : TE} {g : TG} {sl : List Nat} {rt : Pyx.D → Env → Store → R Env} (ht : ∀ σ H Q, RE X re σ H Q → te σ H Q) (hg : ∀ v σ H Q, RG X sl rt v σ H Q → g v σ H Q) :
    ∀ D σ H, RS X (fun ρ S => (re ρ S).bind fun d S1 => (rt d ρ S1).bind fun ρ1 S2 => .ok (.nx ρ1) S2) D σ H → tAsg te g D σ H := fun D σ H ⟨ρ, S, β, er, sr, g0⟩ => by
  refine ht σ H _ ⟨ρ, S, β, er, sr, (Go.bind (Rp := Rep X.K) g0).one.mono fun x H1 ⟨β1, S1, d, x1, r1, s1, g1⟩ => ?_⟩
  refine hg _ _ _ _ ⟨d, ρ, S1, β1, r1, er.ext x1, s1, (Go.bind (Rp := RpT X.K sl σ) g1).mono fun σ2 H2 ⟨β2, S2, ρ2, x2, ⟨e2, _⟩, s2, g2⟩ => go_nx g2 e2 s2⟩
theorem s_expr (he : PE X e (RE X re)) (hs : swapsWith e none pos.line X.env = pure false) : PS X (.Expr e pos) (RS X fun ρ S => (re ρ S).bind fun _ S1 => .ok (.nx ρ) S1) :=
  (ps_expr he hs).cv fun D σ H ⟨ρ, S, β, er, sr, g⟩ => ⟨ρ, S, β, er, sr, (Go.bind (Rp := Rep X.K) g).one.mono fun x H1 ⟨β1, S1, d, x1, r1, s1, g1⟩ => go_nx g1 (er.ext x1) s1⟩
theorem s_ret (he : PE X e (RE X re)) : PS X (.Return (some e) pos) (RS X fun ρ S => (re ρ S).bind fun d S1 => .ok (.rt d) S1) :=
  (ps_ret he).cv fun D σ H ⟨ρ, S, β, er, sr, g⟩ => ⟨ρ, S, β, er, sr, (Go.bind (Rp := Rep X.K) g).one.mono fun x H1 ⟨β1, S1, d, x1, r1, s1, g1⟩ => go_rt g1 r1 s1⟩
theorem s_retN : PS X (.Return none pos) (RS X fun _ S => .ok (.rt .non) S) := ps_retN.cv fun D σ H ⟨ρ, S, β, er, sr, g⟩ => go_rt g non_rep sr
theorem s_pass : PS X (.Pass pos) (RS X fun ρ S => .ok (.nx ρ) S) := ps_pass.cv fun D σ H ⟨ρ, S, β, er, sr, g⟩ => go_nx g er sr
theorem s_brk : PS X (.Break pos) (RS X fun ρ S => .ok (.bk ρ) S) := ps_break.cv fun D σ H ⟨ρ, S, β, er, sr, g⟩ => go_bk g er sr
theorem s_cont : PS X (.Continue pos) (RS X fun ρ S => .ok (.ct ρ) S) := ps_continue.cv fun D σ H ⟨ρ, S, β, er, sr, g⟩ => go_ct g er sr
theorem s_ite {p q : List Stmt} (hc : PT X c (RT X (tst re))) (ha : PSs X p (RS X ra)) (hb : PSs X q (RS X rb)) :
    PS X (.If c p q pos) (RS X fun ρ S => (re ρ S).bind fun x S1 => (condS S1 x).bind fun k S2 => if k then ra ρ S2 else rb ρ S2) :=
  (ps_if hc ha hb).cv fun D σ H ⟨ρ, S, β, er, sr, g⟩ => ⟨ρ, S, β, er, sr, by
    dsimp only at g
    rw [← R.bind_assoc] at g
    refine (Go.bind (Rp := Is) g).one.mono fun k H1 ⟨β1, S1, k', x1, ek, s1, g1⟩ => ?_
    have ek : k' = k := ek
    subst ek
    cases k' with
    | true => exact iteT ⟨ρ, S1, β1, er.ext x1, s1, g1⟩
    | false => exact iteF ⟨ρ, S1, β1, er.ext x1, s1, g1⟩⟩
/-! ### blocks -/
def seqR (ra rb : Env → Store → R Fl) : Env → Store → R Fl := fun ρ S => (ra ρ S).bind fun fl S1 => match fl with
  | .nx ρ1 => rb ρ1 S1
  | fl => .ok fl S1
theorem ss_nil : PSs X [] (RS X fun ρ S => .ok (.nx ρ) S) := pss_nil.cv fun D σ H ⟨ρ, S, β, er, sr, g⟩ => go_nx g er sr
theorem ss_cons {s : Stmt} {ss : List Stmt} (h : PS X s (RS X ra)) (hs : PSs X ss (RS X rb)) : PSs X (s :: ss) (RS X (seqR ra rb)) :=
  (pss_cons h hs).cv fun D σ H ⟨ρ, S, β, er, sr, g⟩ => ⟨ρ, S, β, er, sr, (Go.bind (Rp := RpF X.K) g).mono fun t H1 ⟨β1, S1, fl, x1, r1, s1, g1⟩ => by
    cases fl with
    | nx ρ1 => cases t with
      | nx σ1 => exact ⟨ρ1, S1, β1, r1, s1, g1⟩
      | _ => exact False.elim r1
    | rt d => cases t with
      | rt v => exact go_rt (S := S1) (D := D) g1 r1 s1
      | _ => exact False.elim r1
    | bk ρ1 => cases t with
      | bk σ1 => exact go_bk (S := S1) (D := D) g1 r1 s1
      | _ => exact False.elim r1
    | ct ρ1 => cases t with
      | ct σ1 => exact go_ct (S := S1) (D := D) g1 r1 s1
      | _ => exact False.elim r1⟩
/-! ### loops -/
theorem s_for {tg it : Expr} {body : List Stmt} {sl : List Nat} {rs : Env → Store → R (List Pyx.D × Guard)} {rt : Pyx.D → Env → Store → R Env} (hp : PassesOwn (model X.prog X.w) X.A X.env X.xe) (hc : X.calm = true)
    (hi : PI X tg it (RI X rs)) (hg : PG X tg (RG X sl rt)) (hb : PSs X body (RS X rb)) (hs : ∀ x, foldedSetIterable it X.env x = pure x) :
    PS X (.For tg it body [] pos) (RS X fun ρ S => (rs ρ S).bind fun p S1 => forGo p.2 (fun x ρ1 S2 => (rt x ρ1 S2).bind fun ρ2 S3 => rb ρ2 S3) p.1 ρ S1) :=
  (ps_for hp hc hi hg hb hs).cv fun D σ H ⟨ρ, S, β, er, sr, g0⟩ => ⟨ρ, S, β, er, sr, (Go.bind (Rp := Wk X.K) g0).one.mono fun J H1 ⟨β1, S1, p, x1, wk, s1, g1⟩ => by
    obtain ⟨z, wk⟩ := wk
    let f : Pyx.D → Env → Store → R Fl := fun x ρ1 S2 => (rt x ρ1 S2).bind fun ρ2 S3 => rb ρ2 S3
    refine ⟨fun i m σ' H' => m = p.1.length - i ∧ i ≤ p.1.length ∧ ∃ β' S' ρ', Ext β1 H1 β' H' ∧ SRel X.K β' H' S' ∧ ERel X.K β' H' ρ' σ' ∧ Go X.K (RpF X.K) (FlyA X.K) β' H' (forGo p.2 f (p.1.drop i) ρ' S') (endQ D), ⟨p.1.length, by simp, Nat.zero_le _, β1, S1, ρ, Ext.refl, s1, er.ext x1, g1⟩, ?_⟩
    rintro i m σ' H' ⟨rfl, hi, β', S', ρ', x2, s2, e2, g2⟩
    by_cases hlt : i < p.1.length
    · have hdrop : p.1.drop i = p.1[i] :: p.1.drop (i + 1) := List.drop_eq_getElem_cons hlt
      rw [hdrop] at g2
      simp only [forGo] at g2
      by_cases gd : p.2.ok S'
      · rw [if_pos gd] at g2
        obtain ⟨w1, _⟩ := wk i β' H' S' (x2.to2 s1) s2 gd hi
        obtain ⟨go, yl⟩ := w1 p.1[i] (by simp [hlt])
        refine .inr ⟨go, _, fun σ2 H2 w => ⟨_, Nat.sub_lt_sub_left hlt (Nat.lt_succ_self i), rfl, hlt, w⟩, fun x H2 y => ?_⟩
        obtain ⟨x3, s3, r3⟩ := yl x H2 y
        refine ⟨p.1[i], ρ', S', β', r3, e2.ext x3, s3, ?_⟩
        have g3 := Go.ext g2 x3
        have e : f p.1[i] ρ' S' = (rt p.1[i] ρ' S').bind fun ρ2 S3 => rb ρ2 S3 := rfl
        rw [e, R.bind_assoc] at g3
        refine (Go.bind (Rp := RpT X.K sl σ') g3).mono fun σ3 H3 ⟨β3, S3, ρ3, x4, ⟨e4, _⟩, s4, g4⟩ => ⟨ρ3, S3, β3, e4, s4, ?_⟩
        have k : Ext β1 H1 β3 H3 := (x2.trans x3).trans x4
        refine (Go.bind (Rp := RpF X.K) g4).mono fun t H4 ⟨β4, S4, fl, x5, r5, s5, g5⟩ => ?_
        cases fl with
        | nx ρ1 => cases t with
          | nx σ1 => exact ⟨β4, S4, ρ1, k.trans x5, s5, r5, g5⟩
          | _ => exact False.elim r5
        | ct ρ1 => cases t with
          | ct σ1 => exact ⟨β4, S4, ρ1, k.trans x5, s5, r5, g5⟩
          | _ => exact False.elim r5
        | rt d => cases t with
          | rt v => exact go_rt (S := S4) (D := D) g5 r5 s5
          | _ => exact False.elim r5
        | bk ρ1 => cases t with
          | bk σ1 => exact go_nx (S := S4) (D := D) g5 r5 s5
          | _ => exact False.elim r5
      · rw [if_neg gd] at g2; exact g2.elim
    · have hi2 : i = p.1.length := by omega
      subst hi2
      rw [List.drop_length] at g2
      simp only [forGo] at g2
      by_cases gd : p.2.ok S'
      · rw [if_pos gd] at g2
        obtain ⟨_, w2⟩ := wk _ β' H' S' (x2.to2 s1) s2 gd hi
        exact .inl ⟨w2 rfl, go_nx g2 e2 s2⟩
      · rw [if_neg gd] at g2; exact g2.elim⟩
theorem s_while {body : List Stmt} {W : Nat} (hp : PassesOwn (model X.prog X.w) X.A X.env X.xe) (hc : PT X c (RT X (tst re))) (hb : PSs X body (RS X rb)) :
    PS X (.While c body [] pos) (RS X fun ρ S => whileInf W (tst re) rb ρ S) :=
  (ps_while hp hc hb).cv fun D σ H ⟨ρ, S, β, er, sr, g0⟩ => by
    dsimp only at g0
    unfold whileInf at g0
    split at g0
    case isFalse => exact g0.elim
    rename_i hex
    generalize hex.choose + W = W at g0
    refine ⟨fun m σ' H' => ∃ β' S' ρ', SRel X.K β' H' S' ∧ ERel X.K β' H' ρ' σ' ∧ Go X.K (RpF X.K) (FlyA X.K) β' H' (whileGo (tst re) rb m ρ' S') (endQ D), ⟨W, β, S, ρ, sr, er, g0⟩, ?_⟩
    rintro m σ' H' ⟨β', S', ρ', s2, e2, g2⟩
    cases m with
    | zero => exact g2.elim
    | succ m =>
      simp only [whileGo] at g2
      refine ⟨ρ', S', β', e2, s2, (Go.bind (Rp := Is) g2).one.mono fun k H1 ⟨β1, S1, k', x1, ek, s1, g1⟩ => ?_⟩
      have ek : k' = k := ek
      subst ek
      cases k' with
      | false => exact iteF (go_nx g1 (e2.ext x1) s1)
      | true =>
        refine iteT ⟨_, fun σ3 H3 w => ⟨m, Nat.lt_succ_self m, w⟩, ρ', S1, β1, e2.ext x1, s1, ?_⟩
        have g1 : Go X.K (RpF X.K) (FlyA X.K) β1 H1 ((rb ρ' S1).bind fun fl S2 => (match fl with
          | .nx ρ1 => whileGo (tst re) rb m ρ1 S2
          | .ct ρ1 => whileGo (tst re) rb m ρ1 S2
          | .bk ρ1 => .ok (.nx ρ1) S2
          | .rt d => .ok (.rt d) S2)) (endQ D) := g1
        refine (Go.bind (Rp := RpF X.K) g1).mono fun t H4 ⟨β4, S4, fl, x5, r5, s5, g5⟩ => ?_
        cases fl with
        | nx ρ1 => cases t with
          | nx σ1 => exact ⟨β4, S4, ρ1, s5, r5, g5⟩
          | _ => exact False.elim r5
        | ct ρ1 => cases t with
          | ct σ1 => exact ⟨β4, S4, ρ1, s5, r5, g5⟩
          | _ => exact False.elim r5
        | rt d => cases t with
          | rt v => exact go_rt (S := S4) (D := D) g5 r5 s5
          | _ => exact False.elim r5
        | bk ρ1 => cases t with
          | bk σ1 => exact go_nx (S := S4) (D := D) g5 r5 s5
          | _ => exact False.elim r5
end
end Pyx
end
section
/-! Instances of own classes: made, read, stored, their methods. -/
namespace Pyx
open PySem L2
variable [Fly]
section
variable {K : PySem.W.Frag} {β : Bk} {H : Hp} {S : Store}
theorem ClsAt.inj {c : Str} {C C' : Addr} (h : ClsAt K c C) (h' : ClsAt K c C') : C = C' := by
  have e := h.symm.trans h'
  cases e
  rfl
theorem insAt_eq {d : D} {l : Nat} {c : Str} {fs : List (Str × D)} (h : insAt S d = some (l, c, fs)) : d = .ref l ∧ S[l]? = some (.ins c fs) := by
  unfold insAt at h
  split at h
  · split at h
    · rename_i q
      cases h
      exact ⟨rfl, q⟩
    · cases h
  · cases h
theorem ins_rep (s : SRel K β H S) {d : D} {v : V} {l : Nat} {c : Str} {fs : List (Str × D)} (r : Rep K β H d v) (e : insAt S d = some (l, c, fs)) :
    ∃ a C dx ws, β.b[l]? = some a ∧ v = .ref a ∧ H a = some (.ins C dx ws) ∧ ClsAt K c C ∧ fs.length ≤ 900 ∧ RepKV K β H fs ws := by
  obtain ⟨rfl, q⟩ := insAt_eq e
  simp only [Rep] at r
  obtain ⟨a, g, rfl⟩ := r
  obtain ⟨a', g', o, h1, C, dx, ws, rfl, k, z, r⟩ := s.cell l _ q
  rw [g] at g'; cases g'
  exact ⟨a, C, dx, ws, g, rfl, h1, k, z, r⟩
theorem repKV_lookup {κ : Type} [BEq κ] {f : κ} : ∀ {fs : List (κ × D)} {ws : List (κ × V)}, RepKV K β H fs ws → (∀ d, fs.lookup f = some d → ∃ v, ws.lookup f = some v ∧ Rep K β H d v) ∧ (fs.lookup f = none → ws.lookup f = none)
  | [], _, h => by
    have h : _ = [] := h
    subst h
    exact ⟨fun d e => (by cases e), fun _ => rfl⟩
  | (k, d) :: r, _, ⟨v, wr, e, h, t⟩ => by
    subst e
    obtain ⟨i1, i2⟩ := repKV_lookup (f := f) t
    rw [List.lookup_cons, List.lookup_cons]
    cases q : f == k with
    | true => exact ⟨fun d' e => by cases e; exact ⟨v, rfl, h⟩, fun e => by cases e⟩
    | false => exact ⟨i1, i2⟩
theorem repKV_put {f : Str} {d : D} {v : V} (rd : Rep K β H d v) : ∀ {fs : List (Str × D)} {ws : List (Str × V)}, RepKV K β H fs ws → RepKV K β H (putD f d fs) (putF f v ws)
  | [], _, h => by
    have h : _ = [] := h
    subst h
    exact ⟨v, [], rfl, rd, rfl⟩
  | (k, e) :: r, _, ⟨w, wr, q, h, t⟩ => by
    subst q
    unfold putD putF
    by_cases c : k = f
    · rw [if_pos c, if_pos c]
      exact ⟨v, wr, rfl, rd, t⟩
    · rw [if_neg c, if_neg c]
      exact ⟨w, _, rfl, h, repKV_put rd t⟩
theorem putD_len (f : Str) (v : D) : ∀ fs : List (Str × D), (putD f v fs).length ≤ fs.length + 1
  | [] => by simp [putD]
  | (k, x) :: r => by
    have := putD_len f v r
    unfold putD
    split
    · simp
    · simp only [List.length_cons]; omega
theorem repKV_len {κ : Type} : ∀ {fs : List (κ × D)} {ws : List (κ × V)}, RepKV K β H fs ws → fs.length = ws.length
  | [], _, h => by
    have h : _ = [] := h
    subst h; rfl
  | (k, e) :: r, _, ⟨w, wr, q, h, t⟩ => by
    subst q
    simp [repKV_len t]
end
/-- what a class must show for a field -/
def FldOk (K : PySem.W.Frag) (c f : Str) : Prop := ∃ C, ClsAt K c C ∧ Cls K C ∧ NoAttr K C f
/-- for a method -/
def MthOk (X : Cx) (C : Str → List D → Store → R D) (n : Nat) (c m : Str) (np : Nat) : Prop := ∃ Ca f fd ps, ClsAt X.K c Ca ∧ Cls X.K Ca ∧ Meth X.K Ca m f ∧ Binds X.K fd ps [] ∧ ps.length = np ∧
  FnX X n f fd ps (spF X.K C (mkey c m) ps.length)
/-- for its making -/
def MkOk (X : Cx) (C : Str → List D → Store → R D) (n : Nat) (c : Str) (np : Nat) : Prop := ∃ Ca f fd ps, ClsAt X.K c Ca ∧ X.mg c = some (.ref Ca) ∧ Mk X.K Ca f ∧ Binds X.K fd ps [] ∧ ps.length = np ∧
  FnX X n f fd ps (spF X.K C (mkey c "__init__") ps.length)
section
variable {X : Cx} {e a b c : Expr} {pos : Pos} {ra re ro : Env → Store → R D}
theorem g_fld {f : Str} {cs : List Str} (ha : PE X a (RE X ra)) (hb : isCall0 a = false) (F : ∀ c ∈ cs, FldOk X.K c f) : PE X (.Attribute a f pos) (RE X fun ρ S => (ra ρ S).bind fun x S1 => give S1 (fldD S1 x f cs)) :=
  (pe_fld ha (base_ok hb)).cv fun σ H Q ⟨ρ, S, β, er, sr, g⟩ => ⟨ρ, S, β, er, sr, g.bind.mono fun x H1 ⟨β1, S1, d, x1, r1, s1, g1⟩ => by
    obtain ⟨y, e, g2⟩ := Go.give g1
    unfold fldD at e
    split at e
    · rename_i l c fs q
      split at e
      · rename_i hc
        obtain ⟨a, C, dx, ws, _, rfl, hH, k, _, r⟩ := ins_rep s1 r1 q
        obtain ⟨C', k', cl, na⟩ := F c (List.contains_iff_mem.mp hc)
        cases k'.inj k
        obtain ⟨v, lk, rv⟩ := (repKV_lookup r).1 y e
        exact ⟨a, C, dx, ws, v, rfl, hH, cl, na, lk, Go.same g2 rv s1⟩
      · cases e
    · cases e⟩
theorem s_setf {o : Expr} {f : Str} {cs : List Str} {apos : Pos} (ho : PE X o (RE X ro)) (he : PE X e (RE X re)) (hs : swapsWith e (some (.Attribute o f apos)) pos.line X.env = pure false) (F : ∀ c ∈ cs, FldOk X.K c f) :
    PS X (.Assign [.Attribute o f apos] e pos) (RS X fun ρ S => (re ρ S).bind fun d S1 => (ro ρ S1).bind fun x S2 => match insAt S2 x with
    | some (l, c, fs) => if cs.contains c && decide (fs.length < 900) then .ok (.nx ρ) (S2.set l (.ins c (putD f d fs))) else .stuck
    | none => .stuck) :=
  (ps_fld ho he hs).cv fun D σ H ⟨ρ, S, β, er, sr, g⟩ => ⟨ρ, S, β, er, sr, (Go.bind (Rp := Rep X.K) g).one.mono fun y H1 ⟨β1, S1, d, x1, r1, s1, g1⟩ =>
    ⟨ρ, S1, β1, er.ext x1, s1, (Go.bind (Rp := Rep X.K) g1).one.mono fun x H2 ⟨β2, S2, q, x2, r2, s2, g2⟩ => by
      dsimp only at g2
      split at g2
      · rename_i l c fs hq
        split at g2
        · rename_i hc
          rw [Bool.and_eq_true, decide_eq_true_eq] at hc
          obtain ⟨a, C, dx, ws, gl, rfl, hH, k, _, r⟩ := ins_rep s2 r2 hq
          obtain ⟨C', k', cl, na⟩ := F c (List.contains_iff_mem.mp hc.1)
          cases k'.inj k
          have hlen := repKV_len r
          obtain ⟨x3, s3⟩ := s2.writeC gl (c := .ins c (putD f d fs)) (o := .ins C dx (putF f y ws)) ⟨C, dx, _, rfl, k, by have := putD_len f d fs; omega, repKV_put (r1.ext x2) r⟩
          exact ⟨a, C, dx, ws, rfl, hH, cl, na, by omega, g2 (FlV.nx σ) β2 _ x3 (((er.ext x1).ext x2).ext x3) s3⟩
        · exact g2.elim
      · exact g2.elim⟩⟩
/-- a new instance -/
theorem make_go {C : Str → List D → Store → R D} {np : Nat} {c : Str} {Ca : Addr} {K : PySem.W.Frag} {β : Bk} {H : Hp} {S : Store} {ds : List D} {vs : List V} {Q : V → Hp → Prop} {σ : St} (k : ClsAt K c Ca) (s : SRel K β H S) (r : Reps K β H ds vs) (l : ds.length + 1 = np)
    (g : Go K (Rep K) (FlyE K σ) β H ((C (mkey c "__init__") (.ref S.length :: ds) (S ++ [.ins c []])).bind fun v S2 => match v with
    | .non => .ok (.ref S.length) S2
    | _ => .stuck) Q) : ∀ x dx, H x = none → H dx = none → dx ≠ x → spF K C (mkey c "__init__") np (.ref x :: (vs ++ [])) (upd (upd H dx (.own x)) x (.ins Ca dx [])) (fun v H2 => v = .non ∧ Q (.ref x) H2) (Fly.f σ) := fun x dx hx hdx ne => by
  obtain ⟨x1, s1, n1⟩ := s.laid hdx (.own x)
  have hx2 : (upd H dx (.own x)) x = none := by rw [upd_ne (Ne.symm ne)]; exact hx
  obtain ⟨x2, s2⟩ := s1.pushC hx2 (c := .ins c []) (o := .ins Ca dx []) ⟨Ca, dx, [], rfl, k, by simp, rfl⟩
  have hg : (β.b ++ [x])[S.length]? = some x := by rw [← s.len]; simp
  have rx : Rep K ⟨β.b ++ [x], β.z⟩ (upd (upd H dx (.own x)) x (.ins Ca dx [])) (.ref S.length) (.ref x) := by
    simp only [Rep]
    exact ⟨x, hg, rfl⟩
  refine ⟨.ref S.length :: ds, S ++ [.ins c []], ⟨β.b ++ [x], β.z⟩, ?_, s2, by simpa using l, ?_⟩
  · rw [List.append_nil]
    exact Reps.cons rx (r.ext (x1.trans x2))
  · refine (Go.bind (Rp := Rep K) (Go.ext g (x1.trans x2))).mono fun v H3 ⟨β3, S3, d, x3, r3, s3, g3⟩ => ?_
    cases d with
    | non => exact ⟨rep_non r3, Go.same (t := V.ref x) g3 (rx.ext x3) s3⟩
    | _ => exact g3.elim
theorem g_mk {C : Str → List D → Store → R D} {n : Nat} {c : Str} {p : Pos} {es : List Expr} {rs : Env → Store → R (List D)} (F : MkOk X C n c (es.length + 1)) (hr : Room (n + 1) X.A) (hx : Open X) (hg : Gl X c) (h : PA X es (RA X rs)) (ns : noStar es = true) (hne : es ≠ [])
    (hlen : ∀ ρ S ds S1, rs ρ S = .ok ds S1 → ds.length = es.length) (hdb : (c == ("__debug__" : Str)) = false) :
    PE X (.Call (.Name c p) es [] pos) (RE X fun ρ S => (rs ρ S).bind fun ds S1 => (C (mkey c "__init__") (.ref S1.length :: ds) (S1 ++ [.ins c []])).bind fun v S2 => match v with
    | .non => .ok (.ref S1.length) S2
    | _ => .stuck) := by
  obtain ⟨Ca, f, fd, ps, k, hm, M, hb, hl, F⟩ := F
  cases es with
  | nil => exact absurd rfl hne
  | cons e es =>
    have n2 : isStar e = false ∧ noStar es = true := by simpa [noStar] using ns
    refine (make_at M F hr hg hm hb hx h hdb (star_cons n2.1) (star_none n2.2)).cv fun σ H Q ⟨ρ, S, β, er, sr, g⟩ => ⟨ρ, S, β, er, sr, ?_⟩
    dsimp only at g
    cases q : rs ρ S with
    | ok ds S1 =>
      rw [q] at g
      intro vs β1 H1 x1 r1 s1
      exact make_go k s1 r1 (by rw [hlen _ _ _ _ q, hl]) (Go.ext g x1)
    | exc x' S1 => rw [q] at g; exact g
    | stuck => rw [q] at g; exact g
/-- o.m(..) -/
theorem g_mth {C : Str → List D → Store → R D} {n : Nat} {o : Expr} {m : Str} {cs : List Str} {apos : Pos} {es : List Expr} {rs : Env → Store → R (List D)} (ho : PE X o (RE X ro)) (h : PA X es (RA X rs)) (ns : noStar es = true) (hb : isCall0 o = false) (hl : (apos.endLine == pos.line) = true) (hfew : es.length < 29)
    (F : ∀ c ∈ cs, MthOk X C n c m (es.length + 1)) (hr : Room n X.A) (hx : Open X) (hlen : ∀ ρ S ds S1, rs ρ S = .ok ds S1 → ds.length = es.length) (hnil : es = [] → ∀ ρ S, rs ρ S = .ok [] S) :
    PE X (.Call (.Attribute o m apos) es [] pos) (RE X fun ρ S => (ro ρ S).bind fun x S1 => match mthD S1 x m cs with
    | some c => (rs ρ S1).bind fun ds S2 => C (mkey c m) (x :: ds) S2
    | none => .stuck) := by
  refine ⟨fun pins s σ H Q I ⟨ρ, S, β, er, sr, g⟩ => ?_⟩
  have hq := ho.run pins s σ H _ I ⟨ρ, S, β, er, sr, Go.bind g⟩
  have hform := few_of (env := X.env) (cpos := pos) ns hfew
  have hpos : methodCallPos true o X.env apos pos = pure pos := by unfold methodCallPos; simp [hl]
  rw [arm_eval_Call, base_ok hb]
  refine wpAny_bind (thn hq fun u s1 ⟨x, H1, I1, rx, β1, S1, d, x1, r1, s1', g1⟩ => ?_)
  dsimp only at g1
  split at g1
  · rename_i c hc
    unfold mthD at hc
    split at hc
    · rename_i l c' fs q
      split at hc
      · rename_i c1
        cases hc
        rw [Bool.and_eq_true, Option.isNone_iff_eq_none] at c1
        obtain ⟨a, Ca, dx, ws, _, rfl, hH, k, _, r⟩ := ins_rep s1' r1 q
        obtain ⟨Cb, f, fd, ps, k', cl, hm, bnd, lp, F2⟩ := F c (List.contains_iff_mem.mp c1.1)
        cases k'.inj k
        obtain rfl : u = Value.ref a := rx
        have lk := (repKV_lookup (f := m) r).2 c1.2
        have go : ∀ s2, Inv X pins σ H1 s2 → wpAny (model X.prog X.w) X.A (callWith pos (.ref f) [.ref a] (backTo pos (starEach es X.env)) (backToKw pos (keywordEach [] X.env))) (EP X pins σ Q) X.xe s2 := fun s2 I2 => by
          have w : RA X rs σ H1 fun vs H2 => spF X.K C (mkey c m) ps.length (.ref a :: vs) H2 Q (Fly.f σ) := ⟨ρ, S1, β1, er.ext x1, s1', by
            cases e1 : rs ρ S1 with
            | ok ds S2 =>
              rw [e1] at g1
              intro vs β2 H2 x2 r2 s2
              exact ⟨d :: ds, S2, β2, Reps.cons (r1.ext x2) r2, s2, by rw [List.length_cons, hlen _ _ _ _ e1, lp], Go.ext g1 x2⟩
            | exc x' S2 => rw [e1] at g1; exact g1
            | stuck => rw [e1] at g1; exact g1⟩
          cases es with
          | nil =>
            refine PySem.W.callWith_K0 (first := [.ref a]) I2.kIn hm.kp (run_fnS (us := [.ref a]) (vs := [.ref a]) F2 hr bnd (hx σ) I2 (.cons rfl .nil) ?_)
            rw [hnil rfl ρ S1] at g1
            exact ⟨[d], S1, β1, Reps.one r1, s1', by simpa using lp.symm, g1⟩
          | cons e es =>
            have n2 : isStar e = false ∧ noStar es = true := by simpa [noStar] using ns
            refine PySem.W.callWith_K (first := [.ref a]) (h₀ := X.base) I2.ok.mod.kin hm.kp (thn (h.run pos pins s2 σ H1 _ I2 w) fun us s3 ⟨vs, H2, I3, rv, q2⟩ => ⟨I3.kIn, ?_⟩) (star_cons n2.1) (star_none n2.2)
            exact run_fnS (us := .ref a :: us) (vs := .ref a :: vs) F2 hr bnd (hx σ) I3 (.cons rfl rv) q2
        refine wpAny_bind (wpAny_standAt ?_)
        have hf2 : methodCallForm (es.length + ([] : List Keyword).length) (backTo pos (starEach es X.env)) (backToKw pos (keywordEach [] X.env)) = true := hform
        unfold methodCall
        rw [hf2]
        refine wpAny_bind (wpAny_holding (getmeth_ok I1 hH cl hm lk ?_))
        exact wpAny_bind (wpAny_of_eq hpos (go s1 I1))
      · cases hc
    · cases hc
  · exact g1.elim
end
end Pyx
end
section
/-! enumerate of a tuple; zip of a list and a tuple. -/
namespace Pyx
open PySem L2 PySem.Spec PyProof.Rows
variable [Fly]
/-- the tuple at a, each item in a new pair -/
def IteT (K : PySem.W.Frag) (a : Addr) : It :=
  ⟨fun i H => ∃ (xs : List V) (x : V), SqT K H a xs ∧ xs[i]? = some x,
   fun i H v H' => ∃ T x, v = .ref T ∧ H T = none ∧ H' = upd H T (.tup [.int (i : Nat), x]) ∧ ∀ xs, SqT K H a xs → xs[i]? = some x,
   fun i H => ∃ xs : List V, SqT K H a xs ∧ xs.length ≤ i⟩
theorem sqt_inj {X : Cx} {pins : List (Addr × Obj)} {σ : L2.St} {H : Hp} {s : Shared} {a : Addr} {xs ys : List V} (I : Inv X pins σ H s) (hx : SqT X.K H a xs) (hy : SqT X.K H a ys) : xs = ys := by
  first | exact I.tuple_inj hx hy | exact I.tup_inj hx hy
theorem turn_enumT {P : Program} {w : World} {K : PySem.W.Frag} {elts : List Expr} {kk : Nat} {tpos : Pos} (a e it : Addr) :
    Turn P w K (.Tuple elts kk tpos) (IteT K a) [e, it] e (fun i h => (∃ old, IsEnum h e it ((i : Nat) : Int) old) ∧ h.IsTupleIter it a i ∧ e ≠ it) where
  mem := by simp
  obj := fun i h st b hb => by
    obtain ⟨⟨old, he⟩, ⟨o, ho, _, hd⟩, _⟩ := st
    have e' : b = e ∨ b = it := by simpa using hb
    rcases e' with rfl | rfl
    · exact ⟨_, he, fun v q => nomatch q⟩
    · exact ⟨o, ho, fun v q => by rw [hd] at q; cases q⟩
  keep := fun i h h' st k => by
    obtain ⟨⟨old, he⟩, hi, hne⟩ := st
    exact ⟨⟨old, k e (by simp) _ he⟩, hi.at fun o q => k it (by simp) o q, hne⟩
  item := by
    intro X hP hw hK hc i pins s σ H E I hf st hg
    subst hP hw hK
    obtain ⟨⟨old, he⟩, hit, hne⟩ := st
    obtain ⟨xs, x, hq, hx⟩ := hg
    obtain ⟨its, rv, p, hz⟩ := I.tuple hq
    obtain ⟨u, hu, ru⟩ := rv.get hx
    have hel : e < s.heap.objs.size := Heap.lt_size he
    have hil : it < s.heap.objs.size := by obtain ⟨_, q, _⟩ := hit; exact Heap.lt_size q
    have hta : s.heap.IsTuple a its.toArray := p
    have nea : ∀ b, (b = e ∨ b = it) → a ≠ b := fun b hb q => by
      obtain ⟨o, ho, hcl, _⟩ := id hta
      rcases hb with rfl | rfl
      · rw [q, he] at ho; cases ho; exact absurd (show Value.type "enumerate" = Value.type "tuple" from hcl) (by decide)
      · obtain ⟨o2, ho2, hc2, _⟩ := id hit
        rw [q, ho2] at ho; cases ho; rw [hc2] at hcl; exact absurd hcl (by decide)
    have D : Draws X.prog X.w X.A.in1 it [it, a] its.toArray.size (fun i v => its.toArray[i]? = some v) (fun i h => h.IsTupleIter it a i ∧ h.IsTuple a its.toArray) := Draws.tuple (A := X.A.in1) (show X.A.in1.handled = none from I.ok.hd hc) it a (nea it (.inr rfl)) its.toArray
    have hlt : i < its.toArray.size := by
      have := (List.getElem?_eq_some_iff.mp hu).1
      simpa using this
    refine wpAny_pyNext_enum_itemD D he ⟨hit, hta⟩ hlt hne (by simp only [List.mem_cons, List.not_mem_nil, or_false, not_or]; exact ⟨hne, Ne.symm (nea e (.inl rfl))⟩) fun x' h' tk hx' ho hst' hT hsz hk => ?_
    have ex : x' = u := by
      have h1 : its[i]? = some x' := by simpa using hx'
      rw [hu] at h1; cases h1; rfl
    subst ex
    refine ⟨_, rfl, wpAny_letOwnedTupleGo_enum (s := { s with heap := h', toks := tk + 1 }) ho fun h'' he' sb => ?_⟩
    have hT2 : h''.get? s.heap.objs.size = some { cls := .type "tuple", data := .seq #[.int i tk, x'] } := (sb.2 _ (Nat.ne_of_gt hel)).trans hT
    have new : ObjOk X.prog X.w (upd H s.heap.objs.size (.tup [.int (i : Nat), x])) h'' s.heap.objs.size (.tup [.int (i : Nat), x]) :=
      ⟨by show 2 ≤ sizeLine; decide, [.int i tk, x'], .cons ⟨_, rfl⟩ (.cons ru .nil), ⟨_, hT2, rfl, _, rfl⟩⟩
    have I1 : Inv X pins σ (upd H s.heap.objs.size (.tup [.int (i : Nat), x])) { s with heap := h'', toks := tk + 1 } :=
      I.turnedNew (ch := [e, it]) (fun b ob hb q => by
        have b1 : b ≠ e := fun z => hb (by rw [z]; exact List.mem_cons_self)
        have b2 : b ≠ it := fun z => hb (by rw [z]; exact List.mem_cons_of_mem _ List.mem_cons_self)
        exact (sb.2 b b1).trans (hk b ob b1 b2 q)) hf (Nat.le_refl _) new
    have nextI : ((i : Nat) : Int) + 1 = ((i + 1 : Nat) : Int) := by omega
    rw [nextI] at he'
    refine ⟨.ref s.heap.objs.size, _, I1, rfl, ⟨_, x, rfl, I.hok.fresh (Nat.le_refl _), rfl, fun ys hy => by rw [sqt_inj I hy hq]; exact hx⟩, ⟨⟨_, he'⟩, hst'.1.at fun o q => (sb.2 it (Ne.symm hne)).trans q, hne⟩, fun b hb => ?_⟩
    have hb' : b < s.heap.objs.size := by
      have e' : b = e ∨ b = it := by simpa using hb
      rcases e' with rfl | rfl
      · exact hel
      · exact hil
    rw [upd_ne (Nat.ne_of_lt hb')]
    exact (hf b hb).1
  done := by
    intro X hP hw hK hc i pins s σ H E I hf st hg
    subst hP hw hK
    obtain ⟨⟨old, he⟩, hit, hne⟩ := st
    obtain ⟨xs, hq, hx⟩ := hg
    obtain ⟨its, rv, p, hz⟩ := I.tuple hq
    obtain ⟨f0, f1, f2, f3, f4, f5⟩ := hf it (by simp)
    have hl := rv.length
    have hta : s.heap.IsTuple a its.toArray := p
    have nei : a ≠ it := fun q => by
      obtain ⟨o, ho, hcl, _⟩ := id hta
      obtain ⟨o2, ho2, hc2, _⟩ := id hit
      rw [q, ho2] at ho; cases ho; rw [hc2] at hcl; exact absurd hcl (by decide)
    have hh : X.A.in1.handled = none := I.ok.hd hc
    have hT : s.TypeIs (.ref e) "enumerate" := ⟨_, he, rfl⟩
    unfold pyNext
    refine wpAny_bind (wpAny_attempt (wpAny_callSpecial?_slot (name := Str.ofString "__next__") hT F.slot_enumerate_next
      (wpAny_call_entry F.slot_enumerate_next hT F.entry_enumerate_next ?_ (F.args_enumerate_next_1 _))))
    show wpAny _ _ (field (.ref e) 2 >>= _) _ _ _
    refine wpAny_bind (wpAny_field he rfl (x := .ref it) rfl ?_)
    refine wpAny_bind (wpAny_nextOf_tuple_end hh hit hta (by simp; omega) fun h' x he' hx' => ?_)
    obtain ⟨o, ho, hcls⟩ := hx'
    refine wpAny_bind (wpAny_isInstance (T := "StopIteration") (b := true) ⟨o, ho, hcls⟩ isSubtype_stop ?_)
    exact wpAny_pure ⟨rfl, I.turned (t' := s.toks) (fun b o hb q => he' b o hb q) f0 f1 f3 f4 f5⟩
  self := fun A i s Q E st h => by
    obtain ⟨⟨_, he⟩, _⟩ := st
    exact wpAny_pyIter_enum he h
/-- enumerate(v), v walked as told -/
theorem meets_enum1 {v : Value} {o : Obj} {G : Heap → Prop} (B : Begins v o G) :
    Meets (Builtin.«enumerate.__new__» ⟨[.type "enumerate", v], []⟩) (fun _ R s => G s.heap ∧
      R (.ok (.ret (.ref (s.heap.push o).objs.size))) { s with heap := (s.heap.push o).push { cls := .type "enumerate", data := .fields #[.none, .bool false, .ref s.heap.objs.size, rawInt 0, .none, .none] } }) :=
  .of_wp fun prog w A R s h => by
    obtain ⟨hp, g, d, tk, os⟩ := s
    obtain ⟨h1, h⟩ := h
    have isSub := sub_enumerate
    have beg : ∀ {A' : Around} {E : Value → Shared → Prop} {Q : Value → Shared → Prop}, Q (.ref hp.objs.size) ⟨hp.push o, g, d, tk, os⟩ → wpAny (model prog w) A' (pyIter v) Q E ⟨hp, g, d, tk, os⟩ :=
      fun q => B.iter prog w _ _ ⟨hp, g, d, tk, os⟩ _ h1 q
    wp_walk using beg
    refine wpAny_stack_any fun st => wpAny_pure ?_
    split
    · rename_i c _ _ _ _ _
      cases (c == Value.type "enumerate")
      all_goals (wp_walk using beg; exact ⟨_, rfl, h⟩)
    · (wp_walk using beg; exact ⟨_, rfl, h⟩)
theorem call_enumT {prog : Program} {w : World} {A : Around} {E : Value → Shared → Prop} {s : Shared} {t : Addr} {items : Array Value} {Q : Value → Shared → Prop} (ht : s.heap.IsTuple t items)
    (h : ∀ h', IsEnum h' (s.heap.objs.size + 1) s.heap.objs.size 0 .none → h'.IsTupleIter s.heap.objs.size t 0 → (∀ b o, s.heap.get? b = some o → h'.get? b = some o) → Q (.ref (s.heap.objs.size + 1)) { s with heap := h' }) :
    wpAny (model prog w) A (call (.type "enumerate") [.ref t]) Q E s := by
  refine callType_new F.called_enumerate (by decide) (F.typeCall_enumerate_1 _) (F.newCall_enumerate_1 _) (fun obj => F.args_object_init_2 obj _) F.entry_enumerate_new
    (meets_enum1 (begins_tuple t items)) ⟨ht, ?_⟩
  have sz : ∀ o : Obj, (s.heap.push o).objs.size = s.heap.objs.size + 1 := fun o => Heap.size_push ..
  show _ ∧ _
  rw [sz]
  have he : IsEnum ((s.heap.push { cls := .type "tuple_iterator", data := .fields #[.ref t, .int 0 0] }).push
      { cls := .type "enumerate", data := .fields #[.none, .bool false, .ref s.heap.objs.size, rawInt 0, .none, .none] }) (s.heap.objs.size + 1) s.heap.objs.size 0 .none := by
    rw [← sz { cls := .type "tuple_iterator", data := .fields #[.ref t, .int 0 0] }]
    exact Heap.get?_push_size _ rfl
  exact ⟨⟨_, he, rfl⟩, h _ he ⟨_, Heap.get?_push_of_some _ (Heap.get?_push_size _ rfl), rfl, rfl⟩ fun b o x => Heap.get?_push_of_some _ (Heap.get?_push_of_some _ x)⟩
def iEnumT (K : PySem.W.Frag) (ta : TA) : TI := fun σ H R => ta σ H fun vs H1 => ∃ a xs, vs = [.ref a] ∧ SqT K H1 a xs ∧ R (IteT K a) H1
theorem pi_enumT {X : Cx} {e : Expr} {ta : TA} {p pos tpos : Pos} {elts : List Expr} {kk : Nat} (hg : Gl X "enumerate") (hm : X.mg "enumerate" = none) (ha : PA X [e] ta) (hs : starEach [e] X.env = [(false, eval e X.env)]) :
    PI X (.Tuple elts kk tpos) (.Call (.Name "enumerate" p) [e] [] pos) (iEnumT X.K ta) := by
  refine ⟨fun pins s σ H R I h => ?_⟩
  refine Call_ (ld_blt I hg hm boot_enumerate (PyProof.Rows.callWith_type1 (thn (ha.run pos pins s σ H _ I h) fun us s1 ⟨vs, H1, I1, r1, q1⟩ => ?_) hs rfl))
  obtain ⟨a, xs, ex, hq, q⟩ := q1
  subst ex
  cases r1 with
  | cons r rr =>
    cases rr
    cases r
    obtain ⟨its, rv, pt, hz⟩ := I1.tuple hq
    refine call_enumT (show s1.heap.IsTuple a its.toArray from pt) fun h' he hit hk => wpAny_pyIter_enum he ?_
    have I2 : Inv X pins σ H1 { s1 with heap := h' } := I1.kept (t' := s1.toks) hk
    refine ⟨s1.heap.objs.size + 1, [s1.heap.objs.size + 1, s1.heap.objs.size], _, _, H1, rfl, I2, turn_enumT a (s1.heap.objs.size + 1) s1.heap.objs.size, ⟨⟨.none, he⟩, hit, Nat.succ_ne_self _⟩, fun b hb => ?_, q⟩
    have hle : s1.heap.objs.size ≤ b := by
      have e' : b = s1.heap.objs.size + 1 ∨ b = s1.heap.objs.size := by simpa using hb
      rcases e' with z | z
      · rw [z]; exact Nat.le_add_right _ _
      · rw [z]; exact Nat.le_refl _
    exact I1.fpOk hle (I1.hok.fresh hle)
theorem wk_enumT {K : PySem.W.Frag} {β : Bk} {H : Hp} {ds : List D} {a : Addr} {vs : List V} (t : TpAt β H a vs) (r : Reps K β H ds vs) (z : ds.length ≤ sizeLine) : Wk K β H (enumFrom 0 ds, none) (IteT K a) := by
  refine ⟨by show (enumFrom 0 ds).length ≤ _; rw [enumFrom_len]; exact z, fun i β' H' S' x s g hi => ?_⟩
  have hs := TpAt.sq (K := K) (t.ext2 x)
  have r := r.ext2 x
  refine ⟨fun d hd => ?_, fun e => ⟨vs, hs, ?_⟩⟩
  · have hd : (enumFrom 0 ds)[i]? = some d := hd
    rw [enumFrom_get] at hd
    obtain ⟨d1, h1, rfl⟩ := Option.map_eq_some_iff.mp hd
    obtain ⟨v, hv, rv⟩ := r.get h1
    refine ⟨⟨vs, v, hs, hv⟩, fun y H2 ⟨T, w, e1, hT, e2, q⟩ => ?_⟩
    subst e1; subst e2
    have := q vs hs
    rw [hv] at this; cases this
    obtain ⟨x2, s2, n⟩ := s.laid hT (.tup [.int (i : Nat), v])
    refine ⟨x2, s2, ?_⟩
    simp only [Rep]
    exact ⟨T, _, rfl, ⟨n.1, upd_same⟩, by show 2 ≤ sizeLine; decide, Reps.cons (by rw [Nat.zero_add]; exact int_rep _) (Reps.one (rv.ext x2))⟩
  · have e : i = (enumFrom 0 ds).length := e
    rw [enumFrom_len] at e
    rw [← r.length, e]; exact Nat.le_refl _
section
variable {X : Cx} {a : Expr} {pos : Pos} {ra : Env → Store → R D}
theorem i_enumA {p tpos : Pos} {elts : List Expr} {kk : Nat} (hg : Gl X "enumerate") (hm : X.mg "enumerate" = none) (h : PE X a (RE X ra)) (n : isStar a = false) :
    PI X (.Tuple elts kk tpos) (.Call (.Name "enumerate" p) [a] [] pos) (RI X fun ρ S => (ra ρ S).bind fun d S1 => give S1 (srcEnum S1 d)) :=
  (PI.or (i_enum hg hm h n) (pi_enumT hg hm (a_cons h a_nil n) (star_cons n))).cv fun σ H Q ⟨ρ, S, β, er, sr, g⟩ => by
    dsimp only at g
    cases e1 : ra ρ S with
    | stuck => rw [e1] at g; exact g.elim
    | exc x S1 =>
      refine .inl ⟨ρ, S, β, er, sr, ?_⟩
      dsimp only
      rw [e1] at g ⊢
      exact g
    | ok d S1 =>
      rw [e1] at g
      have g : Go X.K (Wk X.K) (FlyE X.K σ) β H (give S1 (srcEnum S1 d)) Q := g
      by_cases ht : ∃ es, d = .tup es
      · obtain ⟨es, rfl⟩ := ht
        refine .inr ⟨ρ, S, β, er, sr, ?_⟩
        dsimp only
        rw [e1]
        intro vs β1 H1 x1 r1 s1
        obtain ⟨v, rfl, r2⟩ := reps1 r1
        simp only [Rep] at r2
        obtain ⟨a, vs, rfl, t, z, r⟩ := r2
        exact ⟨a, vs, rfl, t.sq, g _ _ _ x1 (wk_enumT t r z) s1⟩
      · refine .inl ⟨ρ, S, β, er, sr, ?_⟩
        dsimp only
        rw [e1]
        have e2 : srcEnumL S1 d = srcEnum S1 d := by
          cases d with
          | tup es => exact absurd ⟨es, rfl⟩ ht
          | _ => rfl
        show Go X.K (Wk X.K) (FlyE X.K σ) β H (give S1 (srcEnumL S1 d)) Q
        rw [e2]; exact g
end
end Pyx
end
section
/-! Comprehensions with two clauses. -/
namespace Pyx
open PySem L2
variable [Fly]
/-- what stands while a comprehension's list at D is filled -/
structure Fil (K : PySem.W.Frag) (β1 : Bk) (H1 : Hp) (D : Addr) (β : Bk) (H : Hp) (S : Store) (ds : List Pyx.D) : Prop where
  ext : Ext β1 H1 β H
  mz : D ∈ β.z
  rel : SRel K β H S
  acc : ∃ acc, H D = some (.lst acc) ∧ Reps K β H ds acc
section
variable {K : PySem.W.Frag} {β β' β1 : Bk} {H H' H1 : Hp} {S S' : Store} {D : Addr} {ds : List Pyx.D}
theorem Fil.on (f : Fil K β1 H1 D β H S ds) (x : Ext β H β' H') (s : SRel K β' H' S') : Fil K β1 H1 D β' H' S' ds := by
  obtain ⟨acc, ha, r⟩ := f.acc
  have nb : D ∉ β.b := (f.rel.out D f.mz).1
  exact ⟨f.ext.trans x, x.hid _ f.mz, s, acc, x.stay _ _ nb ha, r.ext x⟩
theorem Fil.put (f : Fil K β1 H1 D β H S ds) (hD : H1 D = none) {d : Pyx.D} {y : V} (rd : Rep K β H d y) {acc : List V} (ha : H D = some (.lst acc)) : Fil K β1 H1 D β (upd H D (.lst (acc ++ [y]))) S (ds ++ [d]) := by
  obtain ⟨acc', ha', r⟩ := f.acc
  rw [ha] at ha'; cases ha'
  refine ⟨⟨f.ext.pre, f.ext.hid, f.ext.hnew, fun a o n e => ?_, f.ext.new⟩, f.mz, f.rel.poke ha f.mz, acc ++ [y], upd_same, (r.append (Reps.one rd)).poke ha f.mz⟩
  rw [upd_ne (ne_of_none e hD)]
  exact f.ext.stay a o n e
end
/-- an outer turn -/
noncomputable def turn2 (rt : D → Env → Store → R Env) (rc : Env → Store → R Bool) (rs1 : Env → Store → R (List D × Guard)) (T : Env → D → Store → R (List D)) (ρ : Env) (x : D) (S : Store) : R (List D) :=
  (rt x ρ S).bind fun ρ1 S3 => (rc ρ1 S3).bind fun b S4 => if b then (rs1 ρ1 S4).bind fun p1 S5 => if p1.1.length ≤ 1000 then compGo p1.2 (T ρ1) p1.1 S5 else .stuck else .ok [] S4
/-- the inner loop's turns, whatever follows -/
theorem inner_go {K : PySem.W.Frag} {rt1 : D → Env → Store → R Env} {rc1 : Env → Store → R Bool} {re : Env → Store → R D} {vs1 sl1 : List Nat} {g1 : TG} (hsl : ∀ i ∈ sl1, i ∈ vs1)
    (hg : ∀ v σ H Q, (∃ d ρ S β, Rep K β H d v ∧ ERN K β H ρ σ ∧ SRel K β H S ∧ Go K (@RpT never K sl1 σ) NX β H (rt1 d ρ S) Q) → g1 v σ H Q) {ρ : Env} {σ : L2.St} {β1 β4 : Bk} {H1 H4 : Hp} {S1 S4 : Store} {D : Addr} {ds : List Pyx.D} {p : List Pyx.D × Guard} {J : It} {Q : V → Hp → Prop}
    {k : List Pyx.D → Store → R Pyx.D} {Nx : Hp → Prop} {N : Nat} (hN : N + p.1.length ≤ sizeLine) (hD : H1 D = none) (wk : Wk K β4 H4 p J) (f : Fil K β1 H1 D β4 H4 S4 ds) (ld : ds.length ≤ N) (er : ERN K β4 H4 ρ σ)
    (hn : ∀ β' H' S' ds', Fil K β1 H1 D β' H' S' ds' → ds'.length ≤ N + p.1.length → Ext2 β4 H4 β' H' → Go K (Rep K) NX β1 H1 (k ds' S') Q → Nx H')
    (g : Go K (Rep K) NX β1 H1 ((compGo p.2 (turnC rt1 rc1 re (wipeE ρ vs1)) p.1 S4).bind fun zs S => k (ds ++ zs) S) Q) :
    ∃ W1 : Nat → Nat → Hp → Prop, (∃ m, W1 0 m H4) ∧ ∀ j m H, W1 j m H →
      (J.stop j H ∧ Nx H) ∨ (J.go j H ∧ ∃ Nx1 : Hp → Prop, (∀ H', Nx1 H' → ∃ m', m' < m ∧ W1 (j + 1) m' H') ∧ ∀ x H', J.yld j H x H' → g1 x (wipe σ vs1) H' fun σ3 H5 => wipe σ3 vs1 = wipe σ vs1 ∧ RgN K Is rc1 σ3 H5 fun b H6 =>
        if b = true then RgN K (Rep K) re σ3 H6 fun y H7 => ∃ acc, H7 D = some (.lst acc) ∧ acc.length < sizeLine ∧ Nx1 (upd H7 D (.lst (acc ++ [y]))) else Nx1 H6) := by
  obtain ⟨z, wk⟩ := wk
  let T := turnC rt1 rc1 re (wipeE ρ vs1)
  refine ⟨fun j m H' => m = p.1.length - j ∧ j ≤ p.1.length ∧ ∃ β' S' ds', Fil K β1 H1 D β' H' S' ds' ∧ ds'.length ≤ N + j ∧ Ext2 β4 H4 β' H' ∧ ERN K β' H' (wipeE ρ vs1) (wipe σ vs1) ∧
    Go K (Rep K) NX β1 H1 ((compGo p.2 T (p.1.drop j) S').bind fun zs S => k (ds' ++ zs) S) Q, ⟨p.1.length, by simp, Nat.zero_le _, β4, S4, ds, f, ld, Ext.refl.to2 f.rel, er.wipe vs1, g⟩, ?_⟩
  rintro j m H' ⟨rfl, hj, β', S', ds', f', l', x', er', g'⟩
  by_cases hlt : j < p.1.length
  · have hdrop : p.1.drop j = p.1[j] :: p.1.drop (j + 1) := List.drop_eq_getElem_cons hlt
    rw [hdrop] at g'
    simp only [compGo] at g'
    by_cases gd : p.2.ok S'
    · rw [if_pos gd] at g'
      obtain ⟨w1, _⟩ := wk j β' H' S' x' f'.rel gd hj
      obtain ⟨go, yl⟩ := w1 p.1[j] (by simp [hlt])
      refine .inr ⟨go, _, fun H2 w => ⟨_, Nat.sub_lt_sub_left hlt (Nat.lt_succ_self j), rfl, hlt, w⟩, fun x H2 y => ?_⟩
      obtain ⟨x3, s3, r3⟩ := yl x H2 y
      have f3 := f'.on x3 s3
      refine hg _ _ _ _ ⟨p.1[j], wipeE ρ vs1, S', β', r3, er'.ext x3, s3, ?_⟩
      have g2 : Go K (Rep K) NX β1 H1 ((rt1 p.1[j] (wipeE ρ vs1) S').bind fun ρ1 S3 => (rc1 ρ1 S3).bind fun b S4 => (if b then (re ρ1 S4).bind fun y S5 => .ok [y] S5 else .ok [] S4).bind fun a S =>
          ((compGo p.2 T (p.1.drop (j + 1)) S).bind fun zs S2 => .ok (a ++ zs) S2).bind fun zs S2 => k (ds' ++ zs) S2) Q := by
        have e : ((rt1 p.1[j] (wipeE ρ vs1) S').bind fun ρ1 S3 => (rc1 ρ1 S3).bind fun b S4 => (if b then (re ρ1 S4).bind fun y S5 => .ok [y] S5 else .ok [] S4).bind fun a S =>
          ((compGo p.2 T (p.1.drop (j + 1)) S).bind fun zs S2 => .ok (a ++ zs) S2).bind fun zs S2 => k (ds' ++ zs) S2) =
          ((T p.1[j] S').bind fun a S => (compGo p.2 T (p.1.drop (j + 1)) S).bind fun zs S2 => .ok (a ++ zs) S2).bind fun zs S2 => k (ds' ++ zs) S2 := by
          rw [R.bind_assoc]
          have e2 : T p.1[j] S' = (rt1 p.1[j] (wipeE ρ vs1) S').bind fun ρ1 S3 => (rc1 ρ1 S3).bind fun b S4 => if b then (re ρ1 S4).bind fun y S5 => .ok [y] S5 else .ok [] S4 := rfl
          rw [e2, R.bind_assoc]
          refine R.bind_congr fun ρ1 S3 => ?_
          rw [R.bind_assoc]
        rw [e]; exact g'
      refine (Go.bindB (Rp := @RpT never K sl1 (wipe σ vs1)) f3.ext g2).mono fun σ3 H3 ⟨β3, S3, ρ3, x4, ⟨e4, w4⟩, s4, g4⟩ => ⟨?_, ?_⟩
      · have := w4 vs1 hsl
        rw [wipe_wipe] at this
        exact this
      · have f4 := f3.on x4 s4
        refine ⟨ρ3, S3, β3, e4, s4, (Go.bindB (Rp := Is) f4.ext g4).mono fun b H6 ⟨β6, S6, b', x6, eb, s6, g6⟩ => ?_⟩
        have eb : b' = b := eb
        subst eb
        have f6 := f4.on x6 s6
        have k6 : Ext β' H' β6 H6 := (x3.trans x4).trans x6
        have y6 : Ext2 β4 H4 β6 H6 := x'.trans (k6.to2 f'.rel)
        cases b' with
        | false =>
          refine iteF ⟨β6, S6, ds', f6, Nat.le_succ_of_le l', y6, er'.ext k6, ?_⟩
          have g7 : Go K (Rep K) NX β1 H1 (((R.ok [] S6).bind fun ys S1 => (compGo p.2 T (p.1.drop (j + 1)) S1).bind fun zs S2 => .ok (ys ++ zs) S2).bind fun zs S2 => k (ds' ++ zs) S2) Q := by
            rw [R.bind_assoc]; exact g6
          simp only [R.bind_ok, List.nil_append, R.bind_assoc] at g7
          exact g7
        | true =>
          refine iteT ⟨ρ3, S6, β6, e4.ext x6, s6, ?_⟩
          have g7 : Go K (Rep K) NX β1 H1 ((re ρ3 S6).bind fun y S7 => (compGo p.2 T (p.1.drop (j + 1)) S7).bind fun zs S2 => k ((ds' ++ [y]) ++ zs) S2) Q := by
            have e : ((re ρ3 S6).bind fun y S7 => (compGo p.2 T (p.1.drop (j + 1)) S7).bind fun zs S2 => k ((ds' ++ [y]) ++ zs) S2) =
                ((re ρ3 S6).bind fun y S7 => R.ok [y] S7).bind fun a S => ((compGo p.2 T (p.1.drop (j + 1)) S).bind fun zs S2 => .ok (a ++ zs) S2).bind fun zs S2 => k (ds' ++ zs) S2 := by
              rw [R.bind_assoc]
              refine R.bind_congr fun y S5 => ?_
              simp only [R.bind_ok, R.bind_assoc, List.append_assoc]
            rw [e]; exact g6
          refine (Go.bindB (Rp := Rep K) f6.ext g7).mono fun y H7 ⟨β7, S7, dy, x7, ry, s7, g8⟩ => ?_
          have f7 := f6.on x7 s7
          obtain ⟨acc, ha, ra⟩ := f7.acc
          have la : acc.length < sizeLine := by rw [← ra.length]; omega
          have k7 : Ext β' H' β7 H7 := k6.trans x7
          have pk : Ext2 β7 H7 β7 (upd H7 D (.lst (acc ++ [y]))) := Ext2.poke s7 ha f7.mz
          exact ⟨acc, ha, la, β7, S7, ds' ++ [dy], f7.put hD ry ha, by simp; omega, (x'.trans (k7.to2 f'.rel)).trans pk, (er'.ext k7).ext2 pk, g8⟩
    · rw [if_neg gd] at g'; exact g'.elim
  · have hj2 : j = p.1.length := by omega
    subst hj2
    rw [List.drop_length] at g'
    simp only [compGo] at g'
    by_cases gd : p.2.ok S'
    · rw [if_pos gd] at g'
      obtain ⟨_, w2⟩ := wk _ β' H' S' x' f'.rel gd hj
      simp only [R.bind_ok, List.append_nil] at g'
      exact .inl ⟨w2 rfl, hn β' H' S' ds' f' l' x' g'⟩
    · rw [if_neg gd] at g'; exact g'.elim
/-- the end of a comprehension -/
theorem fil_end {K : PySem.W.Frag} {β1 β' : Bk} {H1 H' : Hp} {S1 S' : Store} {D : Addr} {ds : List Pyx.D} {m : Bool} {Q : V → Hp → Prop} (s1 : SRel K β1 H1 S1) (hD : H1 D = none) (f : Fil K β1 H1 D β' H' S' ds) (g : Go K (Rep K) NX β1 H1 (mkL m ds S') Q) : Q (.ref D) H' := by
  obtain ⟨acc, hacc, ra⟩ := f.acc
  have x2 := f.ext
  have s2 := f.rel
  have nb : D ∉ β'.b := (s2.out D f.mz).1
  have cut : ∀ a ∈ β1.z, a ∈ β'.z := x2.hid
  unfold mkL at g
  by_cases zl : ds.length ≤ sizeLine
  · rw [if_pos zl] at g
    cases m with
    | false =>
      have g2 : Go K (Rep K) NX β1 H1 (.ok (.lst ds) S') Q := g
      refine g2 (.ref D) ⟨β'.b, β1.z⟩ H' ⟨x2.pre, fun _ h => h, fun _ h n _ => absurd h n, x2.stay, x2.new⟩ ?_ (SRel.less cut s2)
      simp only [Rep]
      exact ⟨D, acc, rfl, ⟨nb, s1.freshZ hD, hacc⟩, zl, Reps.less cut ra⟩
    | true =>
      have g2 : Go K (Rep K) NX β1 H1 (.ok (.ref S'.length) (S' ++ [.lst ds])) Q := g
      refine g2 (.ref D) ⟨β'.b ++ [D], β1.z⟩ H' ⟨?_, fun _ h => h, fun _ h n _ => absurd h n, x2.stay, fun a h n => ?_⟩ ?_ ?_
      · obtain ⟨nw, e⟩ := x2.pre
        exact ⟨nw ++ [D], by show β'.b ++ [D] = _; rw [e, List.append_assoc]⟩
      · rcases List.mem_append.mp h with h | h
        · exact x2.new a h n
        · rw [List.mem_singleton.mp h]; exact hD
      · simp only [Rep]
        exact ⟨D, by show (β'.b ++ [D])[S'.length]? = _; rw [← s2.len]; simp, rfl⟩
      · exact SRel.move s2 f.mz cut (s1.freshZ hD) hacc zl ra
  · rw [if_neg zl] at g; exact g.elim
theorem lc2_go {K : PySem.W.Frag} {rs rs1 : Env → Store → R (List D × Guard)} {rt rt1 : D → Env → Store → R Env} {rc rc1 : Env → Store → R Bool} {re : Env → Store → R D} {vs sl vs1 sl1 : List Nat} {m : Bool} {g g1 : TG} (hsl : ∀ i ∈ sl, i ∈ vs) (hsl1 : ∀ i ∈ sl1, i ∈ vs1)
    (hg : ∀ v σ H Q, (∃ d ρ S β, Rep K β H d v ∧ ERN K β H ρ σ ∧ SRel K β H S ∧ Go K (@RpT never K sl σ) NX β H (rt d ρ S) Q) → g v σ H Q)
    (hg1 : ∀ v σ H Q, (∃ d ρ S β, Rep K β H d v ∧ ERN K β H ρ σ ∧ SRel K β H S ∧ Go K (@RpT never K sl1 σ) NX β H (rt1 d ρ S) Q) → g1 v σ H Q) {σ : L2.St} {H : Hp} {Q : V → Hp → Prop}
    (hn : Fly.hand = none) (h : Rg K (Rep K) (fun ρ S => (rs ρ S).bind fun p S1 => if p.1.length ≤ 1000 then (compGo p.2 (turn2 rt rc rs1 (fun ρ1 => turnC rt1 rc1 re (wipeE ρ1 vs1)) (wipeE ρ vs)) p.1 S1).noX.bind (mkL m) else .stuck) σ H Q) :
    tLc2 (Rg K (Wk K) rs) g (RgN K Is rc) (RgN K (Wk K) rs1) g1 (RgN K Is rc1) (RgN K (Rep K) re) vs vs1 σ H Q := by
  obtain ⟨ρ, S, β, er, sr, g0⟩ := h
  have ern : ERN K β H ρ σ := er.to hn rfl
  refine ⟨ρ, S, β, er, sr, (Go.bind (Rp := Wk K) g0).mono fun J H1 ⟨β1, S1, p, x1, wk, s1, g1'⟩ => fun D hD => ?_⟩
  dsimp only at g1'
  split at g1'
  case isFalse => exact g1'.elim
  rename_i hp
  obtain ⟨z, wk⟩ := wk
  have g1' := Go.quiet g1'
  let T := turn2 rt rc rs1 (fun ρ1 => turnC rt1 rc1 re (wipeE ρ1 vs1)) (wipeE ρ vs)
  refine ⟨fun i mm H' => mm = p.1.length - i ∧ i ≤ p.1.length ∧ ∃ β' S' ds, Fil K β1 H1 D β' H' S' ds ∧ ds.length ≤ 1000 * i ∧ Ext2 β1 H1 β' H' ∧ ERN K β' H' (wipeE ρ vs) (wipe σ vs) ∧
    Go K (Rep K) NX β1 H1 ((compGo p.2 T (p.1.drop i) S').bind fun zs S2 => mkL m (ds ++ zs) S2) Q, ⟨p.1.length, by simp, Nat.zero_le _, β1.hide D, S1, [], ⟨Ext.hide hD, List.mem_cons_self .., s1.hide hD, [], upd_same, Reps.nil⟩, Nat.le_refl _, (Ext.hide hD).to2 s1, ((ern.ext x1).ext (Ext.hide hD)).wipe vs, g1'⟩, ?_⟩
  rintro i mm H' ⟨rfl, hi, β', S', ds, f', l', x', er', g'⟩
  by_cases hlt : i < p.1.length
  · have hdrop : p.1.drop i = p.1[i] :: p.1.drop (i + 1) := List.drop_eq_getElem_cons hlt
    rw [hdrop] at g'
    simp only [compGo] at g'
    by_cases gd : p.2.ok S'
    · rw [if_pos gd] at g'
      obtain ⟨w1, _⟩ := wk i β' H' S' x' f'.rel gd hi
      obtain ⟨go, yl⟩ := w1 p.1[i] (by simp [hlt])
      refine .inr ⟨go, _, fun H2 w => ⟨_, Nat.sub_lt_sub_left hlt (Nat.lt_succ_self i), rfl, hlt, w⟩, fun x H2 y => ?_⟩
      obtain ⟨x3, s3, r3⟩ := yl x H2 y
      have f3 := f'.on x3 s3
      refine hg _ _ _ _ ⟨p.1[i], wipeE ρ vs, S', β', r3, er'.ext x3, s3, ?_⟩
      let kk : List Pyx.D → Store → R Pyx.D := fun ds1 S => (compGo p.2 T (p.1.drop (i + 1)) S).bind fun zs S2 => mkL m (ds1 ++ zs) S2
      have g2 : Go K (Rep K) NX β1 H1 ((rt p.1[i] (wipeE ρ vs) S').bind fun ρ1 S3 => (rc ρ1 S3).bind fun b S4 =>
          (if b then (rs1 ρ1 S4).bind fun p1 S5 => if p1.1.length ≤ 1000 then compGo p1.2 (turnC rt1 rc1 re (wipeE ρ1 vs1)) p1.1 S5 else .stuck else .ok [] S4).bind fun a S => kk (ds ++ a) S) Q := by
        have e : ((rt p.1[i] (wipeE ρ vs) S').bind fun ρ1 S3 => (rc ρ1 S3).bind fun b S4 =>
          (if b then (rs1 ρ1 S4).bind fun p1 S5 => if p1.1.length ≤ 1000 then compGo p1.2 (turnC rt1 rc1 re (wipeE ρ1 vs1)) p1.1 S5 else .stuck else .ok [] S4).bind fun a S => kk (ds ++ a) S) =
          ((T p.1[i] S').bind fun a S => (compGo p.2 T (p.1.drop (i + 1)) S).bind fun zs S2 => .ok (a ++ zs) S2).bind fun zs S2 => mkL m (ds ++ zs) S2 := by
          rw [R.bind_assoc]
          have e2 : T p.1[i] S' = (rt p.1[i] (wipeE ρ vs) S').bind fun ρ1 S3 => (rc ρ1 S3).bind fun b S4 => if b then (rs1 ρ1 S4).bind fun p1 S5 => if p1.1.length ≤ 1000 then compGo p1.2 (turnC rt1 rc1 re (wipeE ρ1 vs1)) p1.1 S5 else .stuck else .ok [] S4 := rfl
          rw [e2, R.bind_assoc]
          refine R.bind_congr fun ρ1 S3 => ?_
          rw [R.bind_assoc]
          refine R.bind_congr fun b S4 => ?_
          refine R.bind_congr fun a S5 => ?_
          simp only [kk, R.bind_assoc, R.bind_ok, List.append_assoc]
        rw [e]; exact g'
      refine (Go.bindB (Rp := @RpT never K sl (wipe σ vs)) f3.ext g2).mono fun σ3 H3 ⟨β3, S3, ρ3, x4, ⟨e4, w4⟩, s4, g4⟩ => ⟨?_, ?_⟩
      · have := w4 vs hsl
        rw [wipe_wipe] at this
        exact this
      · have f4 := f3.on x4 s4
        refine ⟨ρ3, S3, β3, e4, s4, (Go.bindB (Rp := Is) f4.ext g4).mono fun b H6 ⟨β6, S6, b', x6, eb, s6, g6⟩ => ?_⟩
        have eb : b' = b := eb
        subst eb
        have f6 := f4.on x6 s6
        have k6 : Ext β' H' β6 H6 := (x3.trans x4).trans x6
        have y6 : Ext2 β1 H1 β6 H6 := x'.trans (k6.to2 f'.rel)
        cases b' with
        | false =>
          refine iteF ⟨β6, S6, ds, f6, by omega, y6, er'.ext k6, ?_⟩
          have g7 : Go K (Rep K) NX β1 H1 (kk (ds ++ []) S6) Q := g6
          rw [List.append_nil] at g7
          exact g7
        | true =>
          refine iteT ⟨ρ3, S6, β6, e4.ext x6, s6, ?_⟩
          have g7 : Go K (Rep K) NX β1 H1 ((rs1 ρ3 S6).bind fun p1 S7 => (if p1.1.length ≤ 1000 then compGo p1.2 (turnC rt1 rc1 re (wipeE ρ3 vs1)) p1.1 S7 else .stuck).bind fun a S => kk (ds ++ a) S) Q := by
            rw [← R.bind_assoc]; exact g6
          refine (Go.bindB (Rp := Wk K) f6.ext g7).mono fun J1 H7 ⟨β7, S7, p1, x7, wk1, s7, g8⟩ => ?_
          split at g8
          case isFalse => exact g8.elim
          rename_i hp1
          have f7 := f6.on x7 s7
          have k7 : Ext β' H' β7 H7 := k6.trans x7
          have hle : 1000 * i + p1.1.length ≤ sizeLine := by
            have e : (1000 * 1000 + 1000 : Nat) ≤ sizeLine := by decide
            omega
          refine inner_go hsl1 hg1 (S1 := S1) (k := kk) (N := 1000 * i) hle hD wk1 f7 l' ((e4.ext x6).ext x7) (fun β' H8 S8 ds8 f8 l8 x8 g9 => ?_) g8
          exact ⟨β', S8, ds8, f8, by omega, (x'.trans (k7.to2 f'.rel)).trans x8, (er'.ext k7).ext2 x8, g9⟩
    · rw [if_neg gd] at g'; exact g'.elim
  · have hi2 : i = p.1.length := by omega
    subst hi2
    rw [List.drop_length] at g'
    simp only [compGo] at g'
    by_cases gd : p.2.ok S'
    · rw [if_pos gd] at g'
      obtain ⟨_, w2⟩ := wk _ β' H' S' x' f'.rel gd hi
      simp only [R.bind_ok, List.append_nil] at g'
      exact .inl ⟨w2 rfl, fil_end s1 hD f' g'⟩
    · rw [if_neg gd] at g'; exact g'.elim
end Pyx
end
section
/-! Dicts made, asked. -/
namespace Pyx
open PySem L2 PySem.Spec PyProof.Rows
variable [Fly]
/-- an empty dict -/
def mtC (t : Bool) : Cell := if t then .dt [] else .dk []
def mtO (t : Bool) : HO := if t then .dT [] else .dK []
theorem mt_cell {K : PySem.W.Frag} {β : Bk} {H : Hp} (t : Bool) : CellO K β H (mtC t) (mtO t) := by
  cases t
  · exact ⟨[], rfl, by simp, rfl⟩
  · exact ⟨[], rfl, by simp, rfl⟩
section
variable {X : Cx} {k v d z : Expr} {pos : Pos} {rk rv rd rz : Env → Store → R D}
theorem g_dnew (t : Bool) : PE X (.Dict [] [] pos) (RE X fun _ S => .ok (.ref S.length) (S ++ [if t then .dt [] else .dk []])) := by
  have h : PE X (.Dict [] [] pos) (fun _ H Q => ∀ p, H p = none → Q (.ref p) (upd H p (mtO t))) := by
    cases t
    · exact pe_dnewK
    · exact pe_dnewT
  refine h.cv fun σ H Q ⟨ρ, S, β, er, sr, g⟩ p hp => ?_
  obtain ⟨x, s⟩ := sr.pushC hp (mt_cell (K := X.K) (β := β) (H := H) t)
  refine g (.ref p) _ _ x ?_ s
  simp only [Rep]
  exact ⟨p, by rw [← sr.len]; simp, rfl⟩
/-- {k: v}, k a tuple -/
def tDispT (tk tv : TE) : TE := fun σ H Q => ∀ p, H p = none → tPairs [(tk, tv)] σ (upd H p (.dT [])) fun ps H2 => H2 p = some (.dT []) ∧ ∃ (b : Addr) (ks : List Key) (y : V), ps = [(.ref b, y)] ∧ H2 b = some (.tup (ks.map kV)) ∧ Q (.ref p) (upd H2 p (.dT [(ks, y)]))
theorem pe_dispT {tk tv : TE} (hu : X.A.units + 1 < cLine) (hk : PE X k tk) (hv : PE X v tv) : PE X (.Dict [some k] [v] pos) (tDispT tk tv) := by
  refine ⟨fun pins s σ H Q I q => ?_⟩
  have hn := I.hok.fresh (Nat.le_refl s.heap.objs.size)
  have I1 := I.laid (a := s.heap.objs.size) (o := .dT []) (h' := s.heap.push { cls := .type "dict", data := .dict #[] }) (t' := s.toks) (fun _ _ q => Heap.get?_push_of_some _ q) (Nat.le_refl _) (dt_empty s.heap I.big)
  have hshape : (evalEachOpt [some k] X.env).zip ((evalEach [v] X.env).map fun v => do let x ← v; standAt pos; pure x) = (pairTrees [some k] [v] X.env pos).map fun p => (some p.1, p.2) :=
    zip_pairTrees [some k] [v] X.env pos rfl rfl
  have hln : (pairTrees [some k] [v] X.env pos).length = 1 := pairTrees_length [some k] [v] X.env pos rfl rfl
  have hp := (pps_cons (pos := pos) hk hv pps_nil).run pins _ σ _ _ I1 (q _ hn)
  rw [arm_eval_Dict, hshape, dictDisplay_pairs _ (by intro e; rw [e] at hln; cases hln) (by omega)]
  refine wpAny_bind (wpAny_standAt (wpAny_bind (wpAny_subDictH (knd := tupleKind (mixKind X.prog X.w)) (Q := fun d s' => wpAny (model X.prog X.w) X.A (pure (Value.ref d)) (EP X pins σ Q) X.xe s') (show X.A.units < cLine by omega) (by omega) ?_)))
  refine wpAny_mono hp (fun ws s2 hq => ?_) fun _ _ e => e
  obtain ⟨ps, H2, I2, rel, e, b, ks, y, rfl, eb, q2⟩ := hq
  cases rel with
  | cons r0 rn =>
    cases rn
    rename_i u
    obtain ⟨u1, u2⟩ := u
    obtain ⟨r1, r2⟩ := r0
    cases (show u1 = Value.ref b from r1)
    obtain ⟨z, hd, xs0, rel0, dd⟩ := dt_of I2.hok e
    cases rel0
    refine ⟨[(ks, b, u2)], ⟨rfl, rfl, key_of I2.hok eb, trivial⟩, dd, fun h' tk dd' hs => wpAny_pure ?_⟩
    rw [storedAllH_nil_of_nodup _ (by simp)] at dd'
    obtain ⟨o, es, ep, ho, h2, h3, h4, _, h5⟩ := dd'
    refine ⟨.ref s.heap.objs.size, _, ?_, rfl, q2⟩
    refine d_write I2 (by rw [e]; exact True.intro) hs ⟨o, ho⟩ ⟨by simp; decide, hd, [(ks, b, u2)], .cons ⟨rfl, ?_, r2⟩ .nil, o, es, ep, ho, h2, h3, h4, h5⟩
    rw [upd_ne (ne_of eb e (fun z => nomatch z))]
    exact eb
theorem g_dlit (t : Bool) (hu : X.A.units + 65 < cLine) (hk : PE X k (RE X rk)) (hv : PE X v (RE X rv)) : PE X (.Dict [some k] [v] pos) (RE X fun ρ S => (rk ρ (S ++ [if t then .dt [] else .dk []])).bind fun x S1 => (rv ρ S1).bind fun y S2 => dlitD t S.length x y S2) := by
  have hp : ∀ {σ : L2.St} {H : Hp} {Q : VK}, RE X (fun ρ S => (rk ρ (S ++ [if t then .dt [] else .dk []])).bind fun x S1 => (rv ρ S1).bind fun y S2 => dlitD t S.length x y S2) σ H Q → ∀ p, H p = none → tPairs [(RE X rk, RE X rv)] σ (upd H p (mtO t)) fun ps H2 =>
        match t with
        | true => H2 p = some (.dT []) ∧ ∃ (b : Addr) (ks : List Key) (y : V), ps = [(.ref b, y)] ∧ H2 b = some (.tup (ks.map kV)) ∧ Q (.ref p) (upd H2 p (.dT [(ks, y)]))
        | false => H2 p = some (.dK []) ∧ ∃ (ks : Key) (y : V), ps = [(kV ks, y)] ∧ Q (.ref p) (upd H2 p (.dK [(ks, y)])) := fun {σ H Q} ⟨ρ, S, β, er, sr, g⟩ p hp => by
    obtain ⟨x0, s0⟩ := sr.pushC hp (mt_cell (K := X.K) (β := β) (H := H) t)
    refine ⟨ρ, _, _, er.ext x0, s0, (Go.bind (Rp := Rep X.K) (Go.ext g x0)).mono fun x H1 ⟨β1, S1, dx, x1, r1, s1, g1⟩ => ?_⟩
    refine ⟨ρ, S1, β1, (er.ext x0).ext x1, s1, (Go.bind (Rp := Rep X.K) g1).mono fun y H2 ⟨β2, S2, dy, x2, r2, s2, g2⟩ => ?_⟩
    have hlp : β2.b[S.length]? = some p := (x1.trans x2).get (by show (β.b ++ [p])[S.length]? = some p; rw [← sr.len]; simp)
    have rp : Rep X.K β2 H2 (.ref S.length) (.ref p) := by
      simp only [Rep]
      exact ⟨p, hlp, rfl⟩
    have one : (1 : Nat) ≤ sizeLine := by decide
    dsimp only at g2
    unfold dlitD at g2
    split at g2
    · have c : S2[S.length]? = some (.dt []) := by assumption
      split at g2
      · rename_i S3 e3
        obtain ⟨a', g', ob, h1, ws, rfl, z, r⟩ := s2.cell _ _ c
        rw [hlp] at g'; cases g'
        have r : _ = [] := r
        subst r
        simp only [stoD, c] at e3
        split at e3
        · rename_i ds
          split at e3
          · obtain ⟨kk, hkk, rfl⟩ := Option.map_eq_some_iff.mp e3
            have r1' := r1.ext x2
            simp only [Rep] at r1'
            obtain ⟨b, vs, rfl, tp, _, rv2⟩ := r1'
            obtain ⟨x3, s3⟩ := s2.writeC hlp (c := .dt (putG [] kk dy)) (o := .dT [(kk, y)]) ⟨_, rfl, Nat.le_trans (putG_len ([] : List (List Key × D)) kk dy) one, y, [], rfl, r2, rfl⟩
            exact ⟨h1, b, kk, y, rfl, by rw [← keys_rep rv2 hkk]; exact tp.2, g2 (.ref p) β2 _ x3 (rp.ext x3) s3⟩
          · cases e3
        · cases e3
      · exact g2.elim
    · have c : S2[S.length]? = some (.dk []) := by assumption
      split at g2
      · rename_i S3 e3
        obtain ⟨a', g', ob, h1, ws, rfl, z, r⟩ := s2.cell _ _ c
        rw [hlp] at g'; cases g'
        have r : _ = [] := r
        subst r
        simp only [stoD, c] at e3
        split at e3
        · obtain ⟨kk, hkk, rfl⟩ := Option.map_eq_some_iff.mp e3
          obtain ⟨x3, s3⟩ := s2.writeC hlp (c := .dk (putG [] kk dy)) (o := .dK [(kk, y)]) ⟨_, rfl, Nat.le_trans (putG_len ([] : List (Key × D)) kk dy) one, y, [], rfl, r2, rfl⟩
          exact ⟨h1, kk, y, by rw [key_rep (r1.ext x2) hkk], g2 (.ref p) β2 _ x3 (rp.ext x3) s3⟩
        · cases e3
      · exact g2.elim
    · exact g2.elim
  cases t with
  | true => exact (pe_dispT (by omega) hk hv).cv fun σ H Q w p hp0 => hp w p hp0
  | false =>
    refine (pe_disp (pps_cons (pos := pos) hk hv pps_nil) rfl rfl (by simp) (by simp)).cv fun σ H Q w p hp0 => ?_
    obtain ⟨ρ, S, β, er, sr, g⟩ := hp w p hp0
    refine ⟨ρ, S, β, er, sr, g.mono fun x H1 ⟨ρ1, S1, β1, er1, s1, g1⟩ => ⟨ρ1, S1, β1, er1, s1, g1.mono fun y H2 hq => ?_⟩⟩
    obtain ⟨h2, ks, y', e, q⟩ := hq
    cases e
    exact ⟨h2, [(ks, y)], rfl, by simp, q⟩
end
/-- .get -/
theorem m1_of {X : Cx} {o : Expr} {m : Str} {e : Expr} {apos pos : Pos} (hb : isCall0 o = false) (hl : (apos.endLine == pos.line) = true) (n : isStar e = false) : M1 X o m apos e pos :=
  ⟨base_ok hb, few_of (by simp [noStar, n]) (by simp), hl, by rw [star_cons n]; rfl⟩
theorem m2_of {X : Cx} {o : Expr} {m : Str} {e f : Expr} {apos pos : Pos} (hb : isCall0 o = false) (hl : (apos.endLine == pos.line) = true) (n : isStar e = false) (n2 : isStar f = false) : M2 X o m apos e f pos :=
  ⟨base_ok hb, few_of (by simp [noStar, n, n2]) (by simp), hl, by rw [star_cons n, star_cons n2]; rfl⟩
theorem isDct_rep {K : PySem.W.Frag} {β : Bk} {H : Hp} {S : Store} {d : D} {v : V} (s : SRel K β H S) (r : Rep K β H d v) (h : isDct S d = true) : ∃ a, v = .ref a ∧ IsD H a := by
  unfold isDct at h
  split at h
  · rename_i l
    simp only [Rep] at r
    obtain ⟨a, ga, rfl⟩ := r
    split at h
    · rename_i kvs c
      obtain ⟨a', g', ob, h1, ws, rfl, z, r⟩ := s.cell _ _ c
      rw [ga] at g'; cases g'
      exact ⟨a, rfl, .inl ⟨ws, .inl h1⟩⟩
    · rename_i kvs c
      obtain ⟨a', g', ob, h1, ws, rfl, z, r⟩ := s.cell _ _ c
      rw [ga] at g'; cases g'
      exact ⟨a, rfl, .inr ⟨ws, .inl h1⟩⟩
    · cases h
  · cases h
section
variable {X : Cx} {k v d z : Expr} {pos apos : Pos} {rk rv rd rz : Env → Store → R D}
theorem g_dgt (hu : X.A.units + 65 < cLine) (hd : PE X d (RE X rd)) (hk : PE X k (RE X rk)) (hb : isCall0 d = false) (hl : (apos.endLine == pos.line) = true) (n : isStar k = false) :
    PE X (.Call (.Attribute d "get" apos) [k] [] pos) (RE X fun ρ S => (rd ρ S).bind fun x S1 => if isDct S1 x then (rk ρ S1).bind fun y S2 => (give S2 (dgetD S2 x y)).bind fun o S3 => .ok (o.getD .non) S3 else .stuck) :=
  (pe_dget1 (by omega) hd hk (m1_of hb hl n)).cv fun σ H Q ⟨ρ, S, β, er, sr, g⟩ => ⟨ρ, S, β, er, sr, (Go.bind (Rp := Rep X.K) g).mono fun x H1 ⟨β1, S1, dx, x1, r1, s1, g1⟩ => by
    dsimp only at g1
    split at g1
    · rename_i c
      obtain ⟨a, rfl, isd⟩ := isDct_rep s1 r1 c
      refine ⟨a, rfl, isd, ρ, S1, β1, er.ext x1, s1, (Go.bind (Rp := Rep X.K) g1).mono fun y H2 ⟨β2, S2, dy, x2, r2, s2, g2⟩ => ?_⟩
      dsimp only at g2
      cases eo : dgetD S2 dx dy with
      | none => rw [eo] at g2; exact g2.elim
      | some o =>
        rw [eo] at g2
        obtain ⟨a', w, e1, gt, ro⟩ := dget_rep s2 (r1.ext x2) r2 eo
        cases e1
        refine ⟨w, gt, ?_⟩
        have g2 : Go X.K (Rep X.K) (FlyE X.K σ) β2 H2 (.ok (o.getD .non) S2) Q := g2
        cases o with
        | none => cases w with
          | none => exact Go.same g2 non_rep s2
          | some _ => exact ro.elim
        | some dv => cases w with
          | none => exact ro.elim
          | some v => exact Go.same g2 ro s2
    · exact g1.elim⟩
theorem g_dgt2 (hu : X.A.units + 65 < cLine) (hd : PE X d (RE X rd)) (hk : PE X k (RE X rk)) (hz : PE X z (RE X rz)) (hb : isCall0 d = false) (hl : (apos.endLine == pos.line) = true) (n : isStar k = false) (n2 : isStar z = false) :
    PE X (.Call (.Attribute d "get" apos) [k, z] [] pos) (RE X fun ρ S => (rd ρ S).bind fun x S1 => if isDct S1 x then (rk ρ S1).bind fun y S2 => (rz ρ S2).bind fun w S3 => (give S3 (dgetD S3 x y)).bind fun o S4 => .ok (o.getD w) S4 else .stuck) :=
  (pe_dget2 (by omega) hd hk hz (m2_of hb hl n n2)).cv fun σ H Q ⟨ρ, S, β, er, sr, g⟩ => ⟨ρ, S, β, er, sr, (Go.bind (Rp := Rep X.K) g).mono fun x H1 ⟨β1, S1, dx, x1, r1, s1, g1⟩ => by
    dsimp only at g1
    split at g1
    · rename_i c
      obtain ⟨a, rfl, isd⟩ := isDct_rep s1 r1 c
      refine ⟨a, rfl, isd, ρ, S1, β1, er.ext x1, s1, (Go.bind (Rp := Rep X.K) g1).mono fun y H2 ⟨β2, S2, dy, x2, r2, s2, g2⟩ => ?_⟩
      refine ⟨ρ, S2, β2, (er.ext x1).ext x2, s2, (Go.bind (Rp := Rep X.K) g2).mono fun wv H3 ⟨β3, S3, dw, x3, r3, s3, g3⟩ => ?_⟩
      dsimp only at g3
      cases eo : dgetD S3 dx dy with
      | none => rw [eo] at g3; exact g3.elim
      | some o =>
        rw [eo] at g3
        obtain ⟨a', w, e1, gt, ro⟩ := dget_rep s3 ((r1.ext x2).ext x3) (r2.ext x3) eo
        cases e1
        refine ⟨w, gt, ?_⟩
        have g3 : Go X.K (Rep X.K) (FlyE X.K σ) β3 H3 (.ok (o.getD dw) S3) Q := g3
        cases o with
        | none => cases w with
          | none => exact Go.same g3 r3 s3
          | some _ => exact ro.elim
        | some dv => cases w with
          | none => exact ro.elim
          | some v => exact Go.same g3 ro s3
    · exact g1.elim⟩
end
end Pyx
end
section
/-! zip of a list and a tuple, in either order. -/
namespace Pyx
open PySem L2 PySem.Spec PyProof.Rows
variable [Fly]
/-- a tuple, or a list -/
def SqK (K : PySem.W.Frag) (t : Bool) (H : Hp) (a : Addr) (xs : List V) : Prop := match t with
  | true => SqT K H a xs
  | false => SqL K H a xs
def IsIt (t : Bool) (h : Heap) (it a : Addr) (i : Nat) : Prop := match t with
  | true => h.IsTupleIter it a i
  | false => h.IsListIter it a i
def IsOb (t : Bool) (h : Heap) (a : Addr) (its : Array Value) : Prop := match t with
  | true => h.IsTuple a its
  | false => h.IsList a its
def itOb (t : Bool) (a : Addr) : Obj := match t with
  | true => { cls := .type "tuple_iterator", data := .fields #[.ref a, .int 0 0] }
  | false => { cls := .type "list_iterator", data := .fields #[.ref a, .int 0 0] }
theorem drawsK (t : Bool) {prog : Program} {w : World} {A : Around} (hh : A.handled = none) (it a : Addr) (ne : a ≠ it) (its : Array Value) :
    Draws prog w A it [it, a] its.size (fun i v => its[i]? = some v) (fun i h => IsIt t h it a i ∧ IsOb t h a its) := by
  cases t
  · exact Draws.list hh it a ne its
  · exact Draws.tuple hh it a ne its
theorem beginsK (t : Bool) (a : Addr) (its : Array Value) : Begins (.ref a) (itOb t a) (fun h => IsOb t h a its) := by
  cases t
  · exact begins_list a its
  · exact begins_tuple a its
theorem itOb_is (t : Bool) {h : Heap} {it a : Addr} (e : h.get? it = some (itOb t a)) : IsIt t h it a 0 := by
  cases t
  · exact ⟨_, e, rfl, rfl⟩
  · exact ⟨_, e, rfl, rfl⟩
theorem IsIt.lives {t : Bool} {h : Heap} {it a : Addr} {i : Nat} (x : IsIt t h it a i) : ∃ o, h.get? it = some o ∧ ∀ v, o.data ≠ .cell v := by
  cases t
  · obtain ⟨o, ho, _, hd⟩ := x
    exact ⟨o, ho, fun v q => by rw [hd] at q; cases q⟩
  · obtain ⟨o, ho, _, hd⟩ := x
    exact ⟨o, ho, fun v q => by rw [hd] at q; cases q⟩
theorem IsIt.go {t : Bool} {h h' : Heap} {it a : Addr} {i : Nat} (x : IsIt t h it a i) (k : ∀ o, h.get? it = some o → h'.get? it = some o) : IsIt t h' it a i := by
  cases t
  · exact Heap.IsListIter.at x k
  · exact Heap.IsTupleIter.at x k
section
variable {X : Cx} {pins : List (Addr × Obj)} {σ : L2.St} {H : Hp} {s : Shared} {t : Bool} {a : Addr} {xs ys : List V}
theorem sqK_inj (I : Inv X pins σ H s) (h : SqK X.K t H a xs) (k : SqK X.K t H a ys) : xs = ys := by
  cases t
  · exact I.list_inj h k
  · exact I.tuple_inj h k
theorem sqK_ob (I : Inv X pins σ H s) (h : SqK X.K t H a xs) : ∃ its : List Value, Vals xs its ∧ IsOb t s.heap a its.toArray ∧ a < s.heap.objs.size := by
  cases t
  · obtain ⟨its, rv, p, _⟩ := I.list h
    exact ⟨its, rv, p.isList, p.lt⟩
  · obtain ⟨its, rv, p, _⟩ := I.tuple h
    obtain ⟨o, ho, _⟩ := id p
    exact ⟨its, rv, p, Heap.lt_size ho⟩
end
/-- the things at a and b as they stand at each turn, in new pairs -/
def ItzB (K : PySem.W.Frag) (t u : Bool) (a b : Addr) : It :=
  ⟨fun i H => ∃ (xs ys : List V) (x y : V), SqK K t H a xs ∧ SqK K u H b ys ∧ xs[i]? = some x ∧ ys[i]? = some y,
   fun i H v H' => ∃ T x y, v = .ref T ∧ H T = none ∧ H' = upd H T (.tup [x, y]) ∧ (∀ xs, SqK K t H a xs → xs[i]? = some x) ∧ ∀ ys, SqK K u H b ys → ys[i]? = some y,
   fun i H => ∃ xs ys : List V, SqK K t H a xs ∧ SqK K u H b ys ∧ i ≤ xs.length ∧ i ≤ ys.length ∧ (i = xs.length ∨ i = ys.length)⟩
theorem turn_zipB {P : Program} {w : World} {K : PySem.W.Frag} {elts : List Expr} {kk : Nat} {tpos : Pos} (t u : Bool) {a b z TI TO i1 i2 : Addr} (D : ZipSep2 z TI TO i1 i2 [i1, a] [i2, b]) (ne1 : a ≠ i1) (ne2 : b ≠ i2) :
    Turn P w K (.Tuple elts kk tpos) (ItzB K t u a b) [z, TI, TO, i1, i2] z (fun i h => IsZip h z TI TO .none ∧ IsTupOf2 h TI (.ref i1) (.ref i2) ∧ (∃ p q, IsTupOf2 h TO p q) ∧ IsIt t h i1 a i ∧ IsIt u h i2 b i) where
  mem := by simp
  obj := fun i h st c hc => by
    obtain ⟨hz, hI, ⟨p, q, hO⟩, s1, s2⟩ := st
    have five : c = z ∨ c = TI ∨ c = TO ∨ c = i1 ∨ c = i2 := by simpa using hc
    rcases five with rfl | rfl | rfl | rfl | rfl
    · exact ⟨_, hz, fun v e => nomatch e⟩
    · exact ⟨_, hI, fun v e => nomatch e⟩
    · exact ⟨_, hO, fun v e => nomatch e⟩
    · exact s1.lives
    · exact s2.lives
  keep := fun i h h' st k => by
    obtain ⟨hz, hI, ⟨p, q, hO⟩, s1, s2⟩ := st
    exact ⟨k z (by simp) _ hz, k TI (by simp) _ hI, ⟨p, q, k TO (by simp) _ hO⟩, s1.go fun o e => k i1 (by simp) o e, s2.go fun o e => k i2 (by simp) o e⟩
  item := by
    intro X hP hw hK hc i pins s σ H E I hf st hg
    subst hP hw hK
    obtain ⟨hz, hI, ⟨p, q, hO⟩, s1, s2⟩ := st
    obtain ⟨xs, ys, x, y, hx, hy, ex, ey⟩ := hg
    obtain ⟨its, rv, ob, lta⟩ := sqK_ob I hx
    obtain ⟨its2, rv2, ob2, ltb⟩ := sqK_ob I hy
    obtain ⟨v1, hv1, r1⟩ := rv.get ex
    obtain ⟨v2, hv2, r2⟩ := rv2.get ey
    have zl : z < s.heap.objs.size := Heap.lt_size hz
    have hh : X.A.in1.handled = none := I.ok.hd hc
    have D1 := drawsK (prog := X.prog) (w := X.w) t hh i1 a ne1 its.toArray
    have D2 := drawsK (prog := X.prog) (w := X.w) u hh i2 b ne2 its2.toArray
    have n1 : i < its.toArray.size := by
      have := (List.getElem?_eq_some_iff.mp hv1).1
      simpa using this
    have n2 : i < its2.toArray.size := by
      have := (List.getElem?_eq_some_iff.mp hv2).1
      simpa using this
    refine wpAny_pyNext_zipD2_item D D1 D2 hz hI hO ⟨s1, ob⟩ ⟨s2, ob2⟩ n1 n2 fun x1 x2 h' tk q1 q2 z' O' st1 st2 T' _ old => ?_
    have e1 : x1 = v1 := by
      have k : its[i]? = some x1 := by simpa using q1
      rw [hv1] at k; cases k; rfl
    have e2 : x2 = v2 := by
      have k : its2[i]? = some x2 := by simpa using q2
      rw [hv2] at k; cases k; rfl
    subst e1 e2
    refine ⟨_, rfl, wpAny_letOwnedTupleGo_zip (s := { s with heap := h', toks := tk }) z' fun h'' z'' sb => ?_⟩
    have T2 : h''.get? s.heap.objs.size = some { cls := .type "tuple", data := .seq #[x1, x2] } := (sb.2 _ (Nat.ne_of_gt zl)).trans T'
    have fresh : ObjOk X.prog X.w (upd H s.heap.objs.size (.tup [x, y])) h'' s.heap.objs.size (.tup [x, y]) :=
      ⟨by show 2 ≤ sizeLine; decide, [x1, x2], .cons r1 (.cons r2 .nil), ⟨_, T2, rfl, _, rfl⟩⟩
    have J : Inv X pins σ (upd H s.heap.objs.size (.tup [x, y])) { s with heap := h'', toks := tk } :=
      I.turnedNew (ch := [z, TI, TO, i1, i2]) (fun c o hb e => by
        have c1 : c ≠ z := fun k => hb (by rw [k]; simp)
        have c2 : c ≠ TO := fun k => hb (by rw [k]; simp)
        have c3 : c ≠ i1 := fun k => hb (by rw [k]; simp)
        have c4 : c ≠ i2 := fun k => hb (by rw [k]; simp)
        exact (sb.2 c c1).trans (old c o c1 c2 c3 c4 e)) hf (Nat.le_refl _) fresh
    have zi1 := D.zi1
    have zi2 := D.zi2
    refine ⟨.ref s.heap.objs.size, _, J, rfl, ⟨_, x, y, rfl, I.hok.fresh (Nat.le_refl _), rfl, fun zs hzs => by rw [sqK_inj I hzs hx]; exact ex, fun zs hzs => by rw [sqK_inj I hzs hy]; exact ey⟩,
      ⟨z'', (sb.2 _ D.TIz).trans (old _ _ D.TIz D.TITO D.TIi1 D.TIi2 hI), ⟨x1, x2, (sb.2 _ D.TOz).trans O'⟩, st1.1.go fun o e => (sb.2 i1 (Ne.symm zi1)).trans e, st2.1.go fun o e => (sb.2 i2 (Ne.symm zi2)).trans e⟩, fun c hcm => ?_⟩
    have lt : c < s.heap.objs.size := by
      have five : c = z ∨ c = TI ∨ c = TO ∨ c = i1 ∨ c = i2 := by simpa using hcm
      rcases five with rfl | rfl | rfl | rfl | rfl
      · exact zl
      · exact Heap.lt_size hI
      · exact Heap.lt_size hO
      · obtain ⟨o, ho, _⟩ := s1.lives; exact Heap.lt_size ho
      · obtain ⟨o, ho, _⟩ := s2.lives; exact Heap.lt_size ho
    rw [upd_ne (Nat.ne_of_lt lt)]
    exact (hf c hcm).1
  done := by
    intro X hP hw hK hc i pins s σ H E I hf st hg
    subst hP hw hK
    obtain ⟨hz, hI, ⟨p, q, hO⟩, s1, s2⟩ := st
    obtain ⟨xs, ys, hx, hy, l1, l2, en⟩ := hg
    obtain ⟨its, rv, ob, lta⟩ := sqK_ob I hx
    obtain ⟨its2, rv2, ob2, ltb⟩ := sqK_ob I hy
    have m1 := rv.length
    have m2 := rv2.length
    have hh : X.A.in1.handled = none := I.ok.hd hc
    have D1 := drawsK (prog := X.prog) (w := X.w) t hh i1 a ne1 its.toArray
    have D2 := drawsK (prog := X.prog) (w := X.w) u hh i2 b ne2 its2.toArray
    refine wpAny_pyNext_zipD2_end D D1 D2 hz hI hO ⟨s1, ob⟩ ⟨s2, ob2⟩ (by simp; omega) (by simp; omega) (by simp; omega) fun h' tk old => ?_
    refine ⟨rfl, ?_⟩
    exact I.turnedL (ch := [z, TI, TO, i1, i2]) (fun c o hb e => by
      have c1 : c ≠ z := fun k => hb (by rw [k]; simp)
      have c2 : c ≠ TO := fun k => hb (by rw [k]; simp)
      have c3 : c ≠ i1 := fun k => hb (by rw [k]; simp)
      have c4 : c ≠ i2 := fun k => hb (by rw [k]; simp)
      exact old c o c1 c2 c3 c4 e) hf
  self := fun A i s Q E st h => wpAny_pyIter_zip st.1 h
def iZipB (K : PySem.W.Frag) (ta : TA) : TI := fun σ H R => ta σ H fun vs H1 => ∃ (t u : Bool) (a b : Addr) (xs ys : List V), vs = [.ref a, .ref b] ∧ SqK K t H1 a xs ∧ SqK K u H1 b ys ∧ R (ItzB K t u a b) H1
theorem sep_new {n a b : Nat} (la : a < n) (lb : b < n) : ZipSep2 (n + 4) (n + 2) (n + 3) n (n + 1) [n, a] [n + 1, b] := by
  have ne : ∀ {x y : Nat}, (x = y → False) → ¬ @Eq Addr x y := fun h e => h e
  have nm : ∀ {x y z : Nat}, (x = y → False) → (x = z → False) → ¬ @Membership.mem Addr (List Addr) _ [y, z] x := fun {x y z} h k m => by
    rcases List.mem_cons.mp m with e | m
    · exact h e
    · exact k (List.mem_singleton.mp m)
  exact ⟨ne (by omega), ne (by omega), ne (by omega), ne (by omega), by simp, nm (by omega) (by omega), nm (by omega) (by omega), ne (by omega), by simp, nm (by omega) (by omega), nm (by omega) (by omega), nm (by omega) (by omega), nm (by omega) (by omega)⟩
theorem pi_zipB {X : Cx} {e e2 : Expr} {ta : TA} {p pos tpos : Pos} {elts : List Expr} {kk : Nat} (hg : Gl X "zip") (hm : X.mg "zip" = none) (ha : PA X [e, e2] ta)
    (hs : starEach [e, e2] X.env = (false, eval e X.env) :: starEach [e2] X.env) (hpl : (backTo pos (starEach [e2] X.env)).any (·.1) = false) :
    PI X (.Tuple elts kk tpos) (.Call (.Name "zip" p) [e, e2] [] pos) (iZipB X.K ta) := by
  refine ⟨fun pins s σ H R I h => ?_⟩
  refine Call_ (ld_blt I hg hm boot_zip (PyProof.Rows.callWith_type1 (thn (ha.run pos pins s σ H _ I h) fun us s1 ⟨vs, H1, I1, r1, q1⟩ => ?_) hs hpl))
  obtain ⟨t, u, a, b, xs, ys, ex, hx, hy, q⟩ := q1
  subst ex
  cases r1 with
  | cons r rr =>
    cases rr with
    | cons r' rr =>
      cases rr
      cases r
      cases r'
      obtain ⟨its, rv, ob, la⟩ := sqK_ob I1 hx
      obtain ⟨its2, rv2, ob2, lb⟩ := sqK_ob I1 hy
      refine zip_begins2 (beginsK t a its.toArray) (beginsK u b its2.toArray) ob ob2 fun h' hz hI hO g1 g2 _ old => wpAny_pyIter_zip hz ?_
      have I2 : Inv X pins σ H1 { s1 with heap := h' } := I1.kept (t' := s1.toks) old
      refine ⟨s1.heap.objs.size + 4, [s1.heap.objs.size + 4, s1.heap.objs.size + 2, s1.heap.objs.size + 3, s1.heap.objs.size, s1.heap.objs.size + 1], _, _, H1, rfl, I2,
        turn_zipB t u (sep_new la lb) (Nat.ne_of_lt la) (Nat.ne_of_lt (Nat.lt_succ_of_lt lb)), ⟨hz, hI, ⟨_, _, hO⟩, itOb_is t g1, itOb_is u g2⟩, fun c hc => ?_, q⟩
      have le : s1.heap.objs.size ≤ c := by
        have five : c = s1.heap.objs.size + 4 ∨ c = s1.heap.objs.size + 2 ∨ c = s1.heap.objs.size + 3 ∨ c = s1.heap.objs.size ∨ c = s1.heap.objs.size + 1 := by simpa using hc
        rcases five with e | e | e | e | e
        · rw [e]; exact Nat.le_add_right _ _
        · rw [e]; exact Nat.le_add_right _ _
        · rw [e]; exact Nat.le_add_right _ _
        · rw [e]; exact Nat.le_refl _
        · rw [e]; exact Nat.le_add_right _ _
      exact I1.fpOk le (I1.hok.fresh le)
/-- what stands wherever we go -/
def Stays (K : PySem.W.Frag) (t : Bool) (β : Bk) (H : Hp) (a : Addr) (vs : List V) (ds : List D) : Prop := ∀ β' H', Ext2 β H β' H' → SqK K t H' a vs ∧ Reps K β' H' ds vs
theorem stays_tup {K : PySem.W.Frag} {β : Bk} {H : Hp} {ds : List D} {v : V} (r : Rep K β H (.tup ds) v) : ∃ a vs, v = .ref a ∧ Stays K true β H a vs ds ∧ ds.length ≤ sizeLine := by
  simp only [Rep] at r
  obtain ⟨a, vs, rfl, t, z, r⟩ := r
  exact ⟨a, vs, rfl, fun β' H' x => ⟨TpAt.sq (K := K) (t.ext2 x), r.ext2 x⟩, z⟩
theorem stays_lst {K : PySem.W.Frag} {β : Bk} {H : Hp} {ds : List D} {v : V} (r : Rep K β H (.lst ds) v) : ∃ a vs, v = .ref a ∧ Stays K false β H a vs ds ∧ ds.length ≤ sizeLine := by
  obtain ⟨a, vs, e, t, z⟩ := inl_of r
  exact ⟨a, vs, e, t, z⟩
theorem wk_zipB {K : PySem.W.Frag} {β : Bk} {H : Hp} {t u : Bool} {xs ys : List D} {a b : Addr} {vs ws : List V} (h1 : Stays K t β H a vs xs) (h2 : Stays K u β H b ws ys) (z : xs.length ≤ sizeLine) :
    Wk K β H (List.zipWith (fun x y => D.tup [x, y]) xs ys, none) (ItzB K t u a b) := by
  have hl : (List.zipWith (fun x y => D.tup [x, y]) xs ys).length = min xs.length ys.length := List.length_zipWith
  refine ⟨by show (List.zipWith _ xs ys).length ≤ _; rw [hl]; exact Nat.le_trans (Nat.min_le_left _ _) z, fun i β' H' S' x s g hi => ⟨fun d hd => ?_, fun e => ?_⟩⟩
  · obtain ⟨p, q, e1, e2, rfl⟩ := zip_get _ xs ys i d hd
    obtain ⟨s1, r1⟩ := h1 _ _ x
    obtain ⟨s2, r2⟩ := h2 _ _ x
    obtain ⟨v, hv, rv⟩ := r1.get e1
    obtain ⟨w, hw, rw'⟩ := r2.get e2
    refine ⟨⟨vs, ws, v, w, s1, s2, hv, hw⟩, fun y H2 ⟨T, v', w', e3, hT, e4, q1, q2⟩ => ?_⟩
    subst e3; subst e4
    have k1 := q1 vs s1
    have k2 := q2 ws s2
    rw [hv] at k1; cases k1
    rw [hw] at k2; cases k2
    obtain ⟨x2, s3, n⟩ := s.laid hT (.tup [v, w])
    refine ⟨x2, s3, ?_⟩
    simp only [Rep]
    exact ⟨T, _, rfl, ⟨n.1, upd_same⟩, by show 2 ≤ sizeLine; decide, Reps.cons (rv.ext x2) (Reps.one (rw'.ext x2))⟩
  · obtain ⟨s1, r1⟩ := h1 _ _ x
    obtain ⟨s2, r2⟩ := h2 _ _ x
    have e : i = (List.zipWith (fun x y => D.tup [x, y]) xs ys).length := e
    rw [hl] at e
    refine ⟨vs, ws, s1, s2, ?_⟩
    have l1 := r1.length
    have l2 := r2.length
    omega
section
variable {X : Cx} {a b : Expr} {pos : Pos} {ra rb : Env → Store → R D}
theorem i_zipB {p tpos : Pos} {elts : List Expr} {kk : Nat} (hg : Gl X "zip") (hm : X.mg "zip" = none) (ha : PE X a (RE X ra)) (hb : PE X b (RE X rb)) (n : isStar a = false) (n2 : isStar b = false) :
    PI X (.Tuple elts kk tpos) (.Call (.Name "zip" p) [a, b] [] pos) (RI X fun ρ S => (ra ρ S).bind fun d S1 => (rb ρ S1).bind fun e S2 => give S2 (zipSrc d e)) :=
  (pi_zipB hg hm (pa_cons ha (pa_cons hb pa_nil (star_cons n2)) (star_cons n)) (star_cons n) (by rw [star_cons n2]; rfl)).cv fun σ H Q ⟨ρ, S, β, er, sr, g⟩ => ⟨ρ, S, β, er, sr,
    (Go.bind (Rp := Rep X.K) g).mono fun x H1 ⟨β1, S1, d, x1, r1, s1, g1⟩ => ⟨ρ, S1, β1, er.ext x1, s1, (Go.bind (Rp := Rep X.K) g1).mono fun y H2 ⟨β2, S2, e, x2, r2, s2, g2⟩ => by
      dsimp only at g2
      have r1 := r1.ext x2
      have fin : ∀ (t u : Bool) (xs ys : List D), zipSrc d e = some (List.zipWith (fun x y => D.tup [x, y]) xs ys, none) → (∃ a vs, x = .ref a ∧ Stays X.K t β2 H2 a vs xs ∧ xs.length ≤ sizeLine) → (∃ b ws, y = .ref b ∧ Stays X.K u β2 H2 b ws ys ∧ ys.length ≤ sizeLine) →
          ∃ (t u : Bool) (a b : Addr) (xs ys : List V), [x, y] = [V.ref a, V.ref b] ∧ SqK X.K t H2 a xs ∧ SqK X.K u H2 b ys ∧ Q (ItzB X.K t u a b) H2 := fun t u xs ys ez ⟨a, vs, e1, st1, z1⟩ ⟨b, ws, e2, st2, z2⟩ => by
        subst e1 e2
        rw [ez] at g2
        exact ⟨t, u, a, b, vs, ws, rfl, (st1 _ _ (Ext.refl.to2 s2)).1, (st2 _ _ (Ext.refl.to2 s2)).1, Go.same g2 (wk_zipB st1 st2 z1) s2⟩
      cases d with
      | tup xs => cases e with
        | tup ys => exact fin true true xs ys rfl (stays_tup r1) (stays_tup r2)
        | lst ys => exact fin true false xs ys rfl (stays_tup r1) (stays_lst r2)
        | _ => exact g2.elim
      | lst xs => cases e with
        | tup ys => exact fin false true xs ys rfl (stays_lst r1) (stays_tup r2)
        | lst ys => exact fin false false xs ys rfl (stays_lst r1) (stays_lst r2)
        | _ => exact g2.elim
      | _ => exact g2.elim⟩⟩
end
end Pyx
end
section
/-! len(set(rows)): many rows, few kinds. -/
namespace Pyx
open PySem L2 PySem.Spec PyProof.Rows
variable [Fly]
theorem nodup_le {α : Type} [DecidableEq α] : ∀ {l D : List α}, l.Nodup → (∀ x ∈ l, x ∈ D) → l.length ≤ D.length
  | [], D, _, _ => Nat.zero_le _
  | x :: l, D, nd, h => by
    obtain ⟨nx, nl⟩ := List.nodup_cons.mp nd
    have hx := h x List.mem_cons_self
    have ih := nodup_le (D := D.erase x) nl fun y my => (List.mem_erase_of_ne (fun e => nx (by rw [← e]; exact my))).mpr (h y (List.mem_cons_of_mem _ my))
    rw [List.length_erase_of_mem hx] at ih
    have : 0 < D.length := List.length_pos_iff.mpr (fun e => by rw [e] at hx; cases hx)
    rw [List.length_cons]; omega
/-- the set as it begins -/
abbrev newSet (w : World) : Obj := { cls := .type "set", dict := none, data := .set #[] 0 (.fresh 0 0 (!w.params.followText "set-order")) }
section
variable {P : Program} {w : World} {A : Around} {E : Value → Shared → Prop} {s : Shared}
/-- a set is filled from a walk in which few kinds of rows come -/
theorem fill_set {I : Addr} {fp wr : List Addr} {G : Array GenState → Array GenState → Prop} {n : Nat} {Pv : Nat → Value → Prop} {St : Nat → Shared → Prop} {R : Result → Shared → Prop}
    (W : WalksS P w A.in1 I fp wr G n Pv St) (Z : Addr) (zf : Z ∉ fp) (rows : List (Addr × List Int)) (hn : n = rows.length) (kinds : List (List Int)) (hk : ∀ p ∈ rows, p.2 ∈ kinds) (few : kinds.length < 63)
    (hv : ∀ i v, Pv i v → ∃ p, rows[i]? = some p ∧ v = .ref p.1) (g0 : Heap) (ht : ∀ p ∈ rows, IsT P w g0 p.2 p.1) (z0 : g0.get? Z = none) (w0 : ∀ b ∈ wr, g0.get? b = none) (un : A.in1.units < cLine) :
    ∀ (k i : Nat) (s : Shared), n - i = k → i ≤ n → St i s → (∀ b o, g0.get? b = some o → s.heap.get? b = some o) → (∃ L es ep t, SetTR P w s.heap Z L es ep t ∧ Got rows i L) →
      (∀ s' L es ep t, Moved (Z :: wr) G s s' → SetTR P w s'.heap Z L es ep t → Got rows n L → (∀ b o, g0.get? b = some o → s'.heap.get? b = some o) → R (.ok (.ret .none)) s') →
      codeAny (model P w) A (.builtin "set.update.loop" ⟨[.ref Z, .ref I], []⟩) R s := by
  have zw : Z ∉ wr := fun m => zf (W.sub _ m)
  have wide : ∀ b ∈ wr, b ∈ Z :: wr := fun b m => List.mem_cons_of_mem _ m
  have old : ∀ {s s' : Shared}, Moved wr G s s' → (∀ b o, g0.get? b = some o → s.heap.get? b = some o) → ∀ b o, g0.get? b = some o → s'.heap.get? b = some o := fun m kp b o e =>
    m.heap b o (fun mb => by rw [w0 b mb] at e; cases e) (kp b o e)
  have inL : ∀ {i : Nat} {L : List (Addr × List Int)}, Got rows i L → ∀ p ∈ L, p ∈ rows := fun g p mp => List.mem_of_mem_take (g.sub p mp)
  intro k
  induction k with
  | zero =>
    intro i s ek le st kp ⟨L, es, ep, t, hZ, g⟩ fin
    obtain rfl : i = n := by omega
    refine (codeAny_builtin F.entry_set_update_loop ?_)
    rw [(Around.under_plainId F.plain_set_update_loop _)]
    show wpAny _ A.in1 (pyNext (Value.ref I) >>= _) _ _ s
    refine wpAny_bind (W.done s _ _ st fun s' m => ?_)
    show wpAny _ A.in1 ((ret Value.none)) _ _ s'
    have kp' := old m kp
    exact wpAny_pure (fin s' L es ep t (m.mono wide) (hZ.keep (fun o e => m.heap Z o zw e) fun p mp => isT_keep (ht p (inL g p mp)) kp') g kp')
  | succ k ih =>
    intro i s ek le st kp ⟨L, es, ep, t, hZ, g⟩ fin
    have lt : i < n := by omega
    refine (codeAny_builtin F.entry_set_update_loop ?_)
    rw [(Around.under_plainId F.plain_set_update_loop _)]
    show wpAny _ A.in1 (pyNext (Value.ref I) >>= _) _ _ s
    refine wpAny_bind (W.item i s _ _ lt st fun v s' pv st' m => ?_)
    obtain ⟨p, ep1, rfl⟩ := hv i v pv
    have kp' := old m kp
    have hZ' : SetTR P w s'.heap Z L es ep t := hZ.keep (fun o e => m.heap Z o zw e) fun q mq => isT_keep (ht q (inL g q mq)) kp'
    have hx : IsT P w s'.heap p.2 p.1 := isT_keep (ht p (List.mem_of_getElem? ep1)) kp'
    have room : L.length + 1 < 64 := by
      have := nodup_le (D := kinds) hZ'.nd (fun y my => by
        obtain ⟨q, mq, rfl⟩ := List.mem_map.mp my
        exact hk q (inL g q mq))
      rw [List.length_map] at this; omega
    show wpAny _ A.in1 (holding [Value.ref p.1] (setAdd Z (Value.ref p.1)) >>= _) _ _ s'
    refine wpAny_bind (wpAny_holding ?_)
    unfold setAdd
    refine wpAny_holding (wpAny_bind (wpAny_pyHash_tuple un hx ?_))
    refine add_at (s := { s' with toks := s'.toks + (p.2.length + 1) }) hZ' hx un room fun b h' L' es' ep' t' sb hZ2 same more => ?_
    have g' : Got rows (i + 1) L' := by
      by_cases c : p.2 ∈ L.map (·.2)
      · rw [same c]; exact g.same ep1 c
      · exact g.more ep1 (more c)
    have kp2 : ∀ b o, g0.get? b = some o → h'.get? b = some o := fun b o e => (sb.2 b (fun q => by rw [q, z0] at e; cases e)).trans (kp' b o e)
    refine wpAny_pure ⟨plainId_quiet F.plain_set_update_loop _, ih (i + 1) _ (by omega) lt (W.frame _ s' _ _ st' (Nat.le_add_right _ _) fun b mb o e => ?_) kp2 ⟨L', es', ep', t', hZ2, g'⟩ fun s'' L2 es2 ep2 t2 m2 hZ3 g3 kp3 => ?_⟩
    · rw [sb.2 b (fun q : b = Z => zf (by rw [← q]; exact mb))]
      exact e
    · refine fin s'' L2 es2 ep2 t2 (Moved.trans W.gtrans ((m.mono wide).then_heap (Nat.le_add_right _ _) fun b o mb e => ?_) m2) hZ3 g3 kp3
      rw [sb.2 b (fun q : b = Z => mb (by rw [q]; exact List.mem_cons_self))]
      exact e
theorem no_objs {h : Heap} {b : Addr} (l : h.objs.size ≤ b) : h.get? b = none := by
  cases q : h.get? b with
  | none => rfl
  | some o => exact absurd (Nat.lt_of_lt_of_le (Heap.lt_size q) l) (Nat.lt_irrefl _)
/-- set(rows) -/
theorem call_set_few {l : Addr} {its : Array Value} (rows : List (Addr × List Int)) (kinds : List (List Int)) {Q : Value → Shared → Prop} (hh : A.handled = none) (hl : s.heap.IsList l its) (hit : its.toList = rows.map fun p => Value.ref p.1)
    (ht : ∀ p ∈ rows, IsT P w s.heap p.2 p.1) (hk : ∀ p ∈ rows, p.2 ∈ kinds) (few : kinds.length < 63) (un : A.units + 3 < cLine)
    (fin : ∀ (h' : Heap) (tk : Nat) L es ep t, SetTR P w h' s.heap.objs.size L es ep t → Got rows rows.length L → (∀ b o, s.heap.get? b = some o → h'.get? b = some o) → Q (.ref s.heap.objs.size) { s with heap := h', toks := tk }) :
    wpAny (model P w) A (call (.type "set") [.ref l]) Q E s := by
  have isz : its.size = rows.length := by
    have q := congrArg List.length hit
    simpa using q
  obtain ⟨c, tl, hmro⟩ := F.called_set.mro
  have hmade := F.called_set.made
  have hsub := F.called_set.sub
  refine (wpAny_call (codeAny_of_tree ?_))
  show (wpAny _ _ (callAny (.type "set") _) _ _ _)
  refine wpAny_pure ⟨(Code.quiet_builtin _ (by decide +kernel)), codeAny_builtin F.entry_type_call ?_⟩
  rw [(Around.under_plain (weight_type_call_type "set" [.ref l] []) rfl)]
  have h1 := F.called_set.notType
  have h2 := F.called_set.canCreate
  have hct := F.typeCall_set_1 (.ref l)
  repeat (any_goals (first | assumption | wp_step))
  refine codeAny_mono (code_set_led1 (.ref l) (E := E) (Q₁ := fun ob s1 => ob = .ref s.heap.objs.size ∧ s1 = { s with heap := s.heap.push (newSet w) }) ⟨rfl, rfl⟩) fun r s1 hr => ?_
  cases r with
  | error e => exact hr
  | ok fl =>
    cases fl with
    | ret ob =>
      obtain ⟨rfl, rfl⟩ := hr
      have hZ : (s.heap.push (newSet w)).get? s.heap.objs.size = some (newSet w) := Heap.get?_push_size _ rfl
      have hT : Shared.TypeIs { s with heap := s.heap.push (newSet w) } (.ref s.heap.objs.size) "set" := ⟨_, hZ, rfl⟩
      have hli := F.called_set.init.lookup
      have hbi := F.called_set.init.bind (.ref s.heap.objs.size)
      repeat (any_goals (first | assumption | wp_step))
      refine codeAny_mono (codeAny_call_builtin (R := wants (fun r s2 => r = .none ∧ ∃ h' tk L es ep t, s2 = { s with heap := h', toks := tk } ∧ SetTR P w h' s.heap.objs.size L es ep t ∧ Got rows rows.length L ∧
          ∀ b o, s.heap.get? b = some o → h'.get? b = some o) E) F.called_set.init.plain F.entry_set_init (check_set_init_1 hT ?_)) fun r2 s2 hr2 => ?_
      · obtain ⟨ol, hol, hcl, nl, hdl⟩ := hl
        obtain ⟨ocls, odict, odata, oslots⟩ := ol
        simp only at hcl hdl
        subst hcl; subst hdl
        have hol' : (s.heap.push (newSet w)).get? l = some { cls := .type "list", dict := odict, data := .seq its nl, slots := oslots } := Heap.get?_push_of_some _ hol
        have hsls := F.sub_list_set
        have hslf := F.sub_list_frozenset
        have hne : (Value.type "list" == Value.type "dict") = false := by decide
        have hl1 : (s.heap.push (newSet w)).IsList l its := ⟨_, hol', rfl, nl, rfl⟩
        unfold Builtin.«set.__init__» noKeywords Builtin.Frozenset.updateFrom
        generalize hPI : pyIter = PI
        wp_walk
        subst hPI
        refine wpAny_pyIter_list hl1 ?_
        refine wpAny_bind (wpAny_runValue ?_)
        have ll : l < s.heap.objs.size := Heap.lt_size hol
        have hh3 : A.in1.in1.in1.handled = none := by simp [hh]
        have hz1 : (s.heap.push (newSet w)).objs.size = s.heap.objs.size + 1 := Heap.size_push ..
        have neI : l ≠ (s.heap.push (newSet w)).objs.size := by rw [hz1]; exact Nat.ne_of_lt (Nat.lt_succ_of_lt ll)
        have nfp : s.heap.objs.size ∉ [(s.heap.push (newSet w)).objs.size, l] := by
          rw [hz1]
          simp only [List.mem_cons, List.mem_singleton, List.not_mem_nil, or_false, not_or]
          exact ⟨Nat.ne_of_lt (Nat.lt_succ_self _), Nat.ne_of_gt ll⟩
        have val : ∀ (i : Nat) (v : Value), its[i]? = some v → ∃ p, rows[i]? = some p ∧ v = .ref p.1 := fun i v e => by
          have q : its.toList[i]? = some v := by rw [Array.getElem?_toList]; exact e
          rw [hit, List.getElem?_map] at q
          cases er : rows[i]? with
          | none => rw [er] at q; cases q
          | some p => rw [er] at q; cases q; exact ⟨p, rfl, rfl⟩
        refine fill_set ((Walks.list hh3 _ l neI its).toS) s.heap.objs.size nfp rows isz kinds hk few val s.heap ht (no_objs (Nat.le_refl _)) (fun b mb => no_objs (by
            rw [List.mem_singleton.mp mb, hz1]
            exact Nat.le_succ _)) un (its.size - 0) 0 _ (by omega) (Nat.zero_le _)
          ⟨⟨_, Heap.get?_push_size _ rfl, rfl, rfl⟩, hl1.push _⟩ (fun b o e => Heap.get?_push_of_some _ (Heap.get?_push_of_some _ e)) ?start ?rest
        case start =>
          have here : ((s.heap.push (newSet w)).push { cls := .type "list_iterator", data := .fields #[.ref l, .int 0 0] }).get? s.heap.objs.size = some (newSet w) := Heap.get?_push_of_some _ hZ
          exact ⟨[], #[], 0, _, setTR_fresh here, Got.zero rows⟩
        case rest =>
          intro s' L es ep t m hZ' g' kp
          obtain ⟨h', g2, d', tk', os'⟩ := s'
          obtain rfl : g2 = s.gens := m.gens
          obtain rfl : d' = s.drawn := m.drawn
          obtain rfl : os' = s.os := m.os
          show (wpAny _ _ _ _ _ _)
          refine wpAny_pure ?_
          show (wpAny _ _ (ret Value.none) _ _ _)
          rw [isz] at g'
          exact wpAny_pure ⟨rfl, h', tk', L, es, ep, t, rfl, hZ', g', kp⟩
      · cases r2 with
        | error e => exact hr2
        | ok f2 =>
          cases f2 with
          | ret r =>
            obtain ⟨rfl, h', tk, L, es, ep, t, rfl, hZ', g', kp⟩ := hr2
            repeat (any_goals (first | assumption | wp_step))
            exact fin _ _ _ _ _ _ hZ' g' kp
          | _ => exact hr2.elim
    | _ => exact hr.elim
end
/-- a list of rows, with their kinds -/
def tLenSetR (K : PySem.W.Frag) (ta : TE) : TE := fun σ H Q => ta σ H fun x H1 => ∃ (l : Addr) (rows : List (Addr × List Int)) (kinds : List (List Int)), x = V.ref l ∧ SqL K H1 l (rows.map fun p => V.ref p.1) ∧ (∀ p ∈ rows, SqT K H1 p.1 (p.2.map V.int)) ∧ (∀ p ∈ rows, p.2 ∈ kinds) ∧ kinds.length < 63 ∧
  ∀ L : List (List Int), L.Nodup → (∀ r ∈ L, r ∈ rows.map (·.2)) → (∀ p ∈ rows, p.2 ∈ L) → Q (.int L.length) H1
section
variable {X : Cx}
theorem pe_lenSetR {a : Expr} {ta : TE} {p p2 q pos : Pos} (hc : X.calm = true) (hu : X.A.units + 65 < cLine) (hg : Gl X "len") (hm : X.mg "len" = none) (hg2 : Gl X "set") (hm2 : X.mg "set" = none) (ha : PE X a ta)
    (na : starEach [a] X.env = (false, eval a X.env) :: starEach [] X.env) : PE X (.Call (.Name "len" p) [.Call (.Name "set" p2) [a] [] q] [] pos) (tLenSetR X.K ta) := by
  refine ⟨fun pins s σ H Q I h => ?_⟩
  refine Call_ (ld_blt I hg hm PySem.boot_len (PyProof.Rows.callWith_builtin1 (PyProof.Rows.args_cons ?_ rfl) rfl rfl))
  refine Call_ (ld_blt I hg2 hm2 PyProof.Rows.boot_set (PyProof.Rows.callWith_type1 (PyProof.Rows.args_cons (thn (ha.run pins s σ H _ I h) fun v s1 ⟨x, H1, I1, r1, q1⟩ => PyProof.Rows.args_nil ?_) na) na rfl))
  obtain ⟨l, rows, kinds, rfl, hq, ht, hk, few, q1⟩ := q1
  cases r1
  obtain ⟨its, rv, pl, hz⟩ := I1.list hq
  refine call_set_few (P := X.prog) (w := X.w) rows kinds (I1.ok.hd hc) pl.isList (by simpa using refs_of_vals rv) (fun p hp => I1.isT (ht p hp)) hk few ?_ fun h' tk L es ep t R g old => ?_
  · omega
  refine PyProof.Rows.args_nil ?_
  have I2 : Inv X pins σ H1 { s1 with heap := h', toks := tk } := I1.kept old
  obtain ⟨o, ho, hex, hd⟩ := R.ob
  have n := SetTR.size (s := { s1 with heap := h', toks := tk }) R
  have lt := R.few
  have fin := q1 (L.map (·.2)) R.nd (fun r mr => by
    obtain ⟨q, mq, rfl⟩ := List.mem_map.mp mr
    exact List.mem_map_of_mem (List.mem_of_mem_take (g.sub q mq))) fun p hp => g.all p (by rw [List.take_length]; exact hp)
  rw [List.length_map, ← n] at fin
  exact call_len_set ho hex hd (SetTR.fits (s := { s1 with heap := h', toks := tk }) R) (by rw [n]; omega) ⟨.int es.size, H1, I2.tok _, ⟨_, rfl⟩, fin⟩
theorem mem_kinds : ∀ {rs : List (List Int)} {r : List Int}, r ∈ kindsOf rs ↔ r ∈ rs
  | [], r => Iff.rfl
  | x :: rs, r => by
    have ih := @mem_kinds rs r
    unfold kindsOf
    split
    · rename_i hx
      rw [ih]
      constructor
      · exact List.mem_cons_of_mem _
      · intro h
        rcases List.mem_cons.mp h with rfl | h
        · exact hx
        · exact h
    · rw [List.mem_cons, List.mem_cons, ih]
theorem nodup_kinds : ∀ rs : List (List Int), (kindsOf rs).Nodup
  | [] => List.nodup_nil
  | x :: rs => by
    unfold kindsOf
    split
    · exact nodup_kinds rs
    · rename_i hx
      exact List.nodup_cons.mpr ⟨fun h => hx (mem_kinds.mp h), nodup_kinds rs⟩
theorem rows_rep {K : PySem.W.Frag} {β : Bk} {H : Hp} : ∀ {ds : List D} {vs : List V} {rs : List (List Int)}, Reps K β H ds vs → rowsOf ds = some rs → ∃ rows : List (Addr × List Int), vs = (rows.map fun p => V.ref p.1) ∧ rows.map (·.2) = rs ∧ ∀ p ∈ rows, SqT K H p.1 (p.2.map V.int)
  | [], vs, rs, r, e => by
    cases vs with
    | nil => cases e; exact ⟨[], rfl, rfl, fun p m => by cases m⟩
    | cons v vs => simp [Reps] at r
  | d :: ds, vs, rs, r, e => by
    cases vs with
    | nil => simp [Reps] at r
    | cons v vs =>
      simp only [Reps] at r
      obtain ⟨w0, wr, e0, r1, r2⟩ := r
      cases e0
      cases d with
      | tup es =>
        simp only [rowsOf] at e
        obtain ⟨is, ei, e⟩ := Option.bind_eq_some_iff.mp e
        obtain ⟨rs', er, rfl⟩ := Option.map_eq_some_iff.mp e
        obtain ⟨rows, e1, e2, e3⟩ := rows_rep r2 er
        simp only [Rep] at r1
        obtain ⟨a, ws, rfl, t, z, r1⟩ := r1
        have ew := ints_rep r1 ei
        subst ew e1 e2
        exact ⟨(a, is) :: rows, rfl, rfl, fun p m => by
          rcases List.mem_cons.mp m with rfl | m
          · exact t.sq
          · exact e3 p m⟩
      | _ => simp [rowsOf] at e
theorem g_lset {a : Expr} {ra : Env → Store → R D} {p p2 q pos : Pos} (hc : X.calm = true) (hu : X.A.units + 65 < cLine) (hg : Gl X "len") (hm : X.mg "len" = none) (hg2 : Gl X "set") (hm2 : X.mg "set" = none) (ha : PE X a (RE X ra)) (n : isStar a = false) :
    PE X (.Call (.Name "len" p) [.Call (.Name "set" p2) [a] [] q] [] pos) (RE X fun ρ S => (ra ρ S).bind fun x S1 => give S1 (lsetD S1 x)) :=
  (pe_lenSetR hc hu hg hm hg2 hm2 ha (star_cons n)).cv fun σ H Q ⟨ρ, S, β, er, sr, g⟩ => ⟨ρ, S, β, er, sr, (Go.bind (Rp := Rep X.K) g).mono fun x H1 ⟨β1, S1, d, x1, r1, s1, g1⟩ => by
    dsimp only at g1
    cases e1 : asL S1 d with
    | none => simp only [lsetD, e1, Option.bind_none] at g1; exact g1.elim
    | some ds =>
      cases e2 : rowsOf ds with
      | none => simp only [lsetD, e1, e2, Option.bind_some, Option.bind_none] at g1; exact g1.elim
      | some rs =>
        simp only [lsetD, e1, e2, Option.bind_some] at g1
        by_cases c : (kindsOf rs).length < 63
        · rw [if_pos c] at g1
          obtain ⟨l, vs, rfl, hl, z, r⟩ := asL_rep s1 r1 e1
          obtain ⟨rows, rfl, rfl, ht⟩ := rows_rep r e2
          refine ⟨l, rows, kindsOf (rows.map (·.2)), rfl, SqL.of hl, ht, fun p mp => mem_kinds.mpr (List.mem_map_of_mem mp), c, fun L nd h1 h2 => ?_⟩
          have l1 := nodup_le nd fun r mr => mem_kinds.mpr (h1 r mr)
          have l2 := nodup_le (nodup_kinds (rows.map (·.2))) fun r mr => by
            obtain ⟨p, mp, rfl⟩ := List.mem_map.mp (mem_kinds.mp mr)
            exact h2 p mp
          have el : L.length = (kindsOf (rows.map (·.2))).length := Nat.le_antisymm l1 l2
          rw [el]
          exact Go.same g1 (int_rep _) s1
        · rw [if_neg c] at g1; exact g1.elim⟩
end
end Pyx
end
section
/-! ### t[::-1] of a tuple -/
namespace Pyx.Rv
open PySem PySem.Spec PyProof.Rows HT L2
section
variable {prog : Program} {w : World} {A : Around} {E : Value → Shared → Prop} {s : Shared}
theorem whole_places (n : Nat) : Builtin.Slice.slicePlaces ((n : Int) - 1) (-1) (-1) = n := by
  unfold Builtin.Slice.slicePlaces
  have h1 : ¬ ((-1 : Int) > 0) := by decide
  rw [if_neg h1]
  by_cases h : (n : Int) - 1 > -1
  · rw [if_pos h, show (-(-1) : Int) = 1 by decide, Int.ediv_one]; omega
  · rw [if_neg h]; omega
theorem fm_congr {α β : Type} {f : α → Option β} {g : α → β} : ∀ {l : List α}, (∀ a ∈ l, f a = some (g a)) → l.filterMap f = l.map g
  | [], _ => rfl
  | a :: l, h => by rw [List.filterMap_cons_some (h a List.mem_cons_self), fm_congr fun b m => h b (List.mem_cons_of_mem _ m), List.map_cons]
theorem back_to (xs : Array Value) : ((List.range xs.size).filterMap fun (k : Nat) => xs[(((xs.size : Int) - 1) + (k : Int) * (-1)).toNat]?).toArray = xs.toList.reverse.toArray := by
  congr 1
  apply List.ext_getElem?
  intro k
  have e : (List.range xs.size).filterMap (fun (k : Nat) => xs[(((xs.size : Int) - 1) + (k : Int) * (-1)).toNat]?) = (List.range xs.size).map fun k => xs.toList.reverse[k]?.getD .none := by
    apply fm_congr
    intro a ha
    have ha : a < xs.size := List.mem_range.mp ha
    have q : (((xs.size : Int) - 1) + (a : Int) * (-1)).toNat = xs.size - 1 - a := by omega
    have l1 : a < xs.toList.reverse.length := by rw [List.length_reverse, Array.length_toList]; exact ha
    rw [q, List.getElem?_eq_getElem l1, Option.getD_some, List.getElem_reverse, Array.getElem?_eq_getElem (by omega)]
    simp
  rw [e, List.getElem?_map]
  by_cases hk : k < xs.size
  · have l1 : k < xs.toList.reverse.length := by rw [List.length_reverse, Array.length_toList]; exact hk
    rw [List.getElem?_range hk, Option.map_some, List.getElem?_eq_getElem l1, Option.getD_some]
  · rw [List.getElem?_eq_none (by rw [List.length_range]; omega), List.getElem?_eq_none (by rw [List.length_reverse, Array.length_toList]; omega)]; rfl
theorem backed {sl : Addr} {vs : Value} {n : Nat} {Q : Int × Int × Nat → Shared → Prop} (hs : s.heap.IsSliceOf sl .none .none vs) (ps : IsPart vs (some (-1)))
    (h : Q ((n : Int) - 1, -1, n) s) : wpAny (model prog w) A (Builtin.Slice.sliceApplied (.ref sl) (pure (n : Int))) Q E s := by
  obtain ⟨os, hos, hcs, hds⟩ := id hs
  unfold Builtin.Slice.sliceApplied Builtin.Slice.sliceFields
  refine wpAny_bind (wpAny_bind (wpAny_field hos hds (x := .none) rfl (wpAny_bind (wpAny_field hos hds (x := .none) rfl (wpAny_bind (wpAny_field hos hds (x := vs) rfl (wpAny_pure ?_)))))))
  refine wpAny_bind (slicePart_ ps ?_)
  show wpAny _ _ (if ((-1 : Int) == 0) = true then _ else _) _ _ s
  rw [if_neg (by decide)]
  refine wpAny_bind (slicePart_ .none (wpAny_bind (slicePart_ .none (wpAny_bind (wpAny_pure ?_)))))
  show wpAny _ _ (pure ((n : Int) - 1, (-1 : Int), Builtin.Slice.slicePlaces ((n : Int) - 1) (-1) (-1))) _ _ s
  rw [whole_places]
  exact wpAny_pure h
theorem turned {t sl : Addr} {items : Array Value} {vs : Value} {Q : Value → Shared → Prop} (ht : IsTup s.heap t items) (hs : s.heap.IsSliceOf sl .none .none vs) (ps : IsPart vs (some (-1)))
    (h : Q (.ref s.heap.objs.size) { s with heap := s.heap.push { cls := .type "tuple", data := .seq items.toList.reverse.toArray } })
    (hsz : items.size ≤ sizeLine) : wpAny (model prog w) A (getItem (.ref t) (.ref sl)) Q E s := by
  have htake : sizeOk (.seq items.toList.reverse.toArray) := by
    show items.toList.reverse.toArray.size ≤ sizeLine
    rw [List.size_toArray, List.length_reverse, Array.length_toList]
    exact hsz
  obtain ⟨os, hos, hcs, hds⟩ := id hs
  have hTs : s.TypeIs (.ref sl) "slice" := ⟨os, hos, hcs⟩
  unfold getItem
  try with_reducible refine wpAny_holding ?_
  first | refine wpAny_bind (wpAny_pure ?_) | skip
  refine wpAny_bind (wpAny_sequenceKey ht.typeIs (by decide) ?_)
  refine wpAny_bind (wpAny_callSpecial?_slot (name := Str.ofString "__getitem__") ht.typeIs PyProof.Rows.slot_tuple_getitem
    (wpAny_call_entry PyProof.Rows.slot_tuple_getitem ht.typeIs entry_tuple_getitem ?_ (args_tuple_getitem _ _)))
  show wpAny _ _ (Builtin.Tuple.tupleItemsOf (.ref t) >>= _) _ _ s
  refine wpAny_bind (tupleItemsOf_ ht ?_)
  refine wpAny_bind (wpAny_typeOf hTs ?_)
  rw [if_pos (by decide)]
  refine wpAny_bind (backed hs ps ?_)
  show wpAny _ _ (if (((items.size : Int) - 1) == 0 && (-1 : Int) == 1 && items.size == items.size) = true then _ else _) _ _ s
  rw [if_neg (by simp), back_to]
  first
    | exact wpAny_bind (m := Builtin.Tuple.tupleExact _) (wpAny_newObj_type (wpAny_pure ⟨_, rfl, wpAny_pure h⟩) htake)
    | exact wpAny_bind (m := Builtin.Tuple.tupleExact _) (wpAny_newObj_type (wpAny_bind (wpAny_pure (wpAny_pure ⟨_, rfl, wpAny_pure h⟩))) htake)
    | exact wpAny_bind (wpAny_bind (m := Builtin.Tuple.tupleExact _) (wpAny_newObj_type (wpAny_pure (wpAny_pure ⟨_, rfl, wpAny_pure h⟩)) htake))
    | exact wpAny_bind (wpAny_bind (m := Builtin.Tuple.tupleExact _) (wpAny_newObj_type (wpAny_pure ⟨_, rfl, wpAny_pure h⟩) htake))
end
section
variable {X : Cx}
def tRevT (K : PySem.W.Frag) (te : TE) : TE := fun σ H Q => te σ H fun x H1 => ∃ a xs, x = .ref a ∧ SqT K H1 a xs ∧ ∀ p, H1 p = none → Q (.ref p) (upd H1 p (.tup xs.reverse))
theorem pe_revT {e : Expr} {te : TE} {k : Nat} {p1 p2 p3 pos : Pos} (he : PE X e te) : PE X (.Subscript e (.Slice none none (some (.UnaryOp .USub (.Constant (.int 1) k p1) p2)) p3) pos) (tRevT X.K te) := by
  refine ⟨fun pins s σ H Q I h => ?_⟩
  refine Subscript_ (thn (he.run pins s σ H _ I h) fun v s1 ⟨x, H1, I1, r1, q1⟩ => ?_)
  obtain ⟨a, xs, ex, hx, q⟩ := q1
  subst ex
  cases r1
  have hst : PO X (some (.UnaryOp .USub (.Constant (.int 1) k p1) p2)) (tPart (tUn (rU fun i => .int (-i)) (tC (.int 1)))) := po_some (pe_un un_neg pe_int)
  refine wpAny_Slice (thn (po_none.run pins s1 σ H1 (fun o H2 => o = none ∧ H2 = H1) I1 ⟨rfl, rfl⟩) fun vl s2 ⟨l, H2, I2, pl, el, e2⟩ => ?_)
  subst el e2
  refine thn (po_none.run pins s2 σ H2 (fun o H3 => o = none ∧ H3 = H2) I2 ⟨rfl, rfl⟩) fun vu s3 ⟨u, H3, I3, pu, eu, e3⟩ => ?_
  subst eu e3
  refine thn (hst.run pins s3 σ H3 (fun o H4 => o = some (-1) ∧ H4 = H3) I3 ⟨1, rfl, -1, rfl, rfl, rfl⟩) fun vs s4 ⟨o, H4, I4, ps, eo, e4⟩ => ?_
  subst eo e4
  have I5 : Inv X pins σ H4 { s4 with heap := s4.heap.push { cls := .type "slice", data := .fields #[vl, vu, vs] } } := I4.kept (t' := s4.toks) fun b ob q => Heap.get?_push_of_some _ q
  obtain ⟨its, r, ht, hz⟩ := I5.tuple hx
  have hlen := r.length
  show wpAny (model X.prog X.w) X.A (subscriptTail e (.Slice none none (some (.UnaryOp .USub (.Constant (.int 1) k p1) p2)) p3) (.ref a) (.ref s4.heap.objs.size)) (EP X pins σ Q) X.xe { s4 with heap := s4.heap.push { cls := .type "slice", data := .fields #[vl, vu, vs] } }
  refine tail_any (ops := [.ref a, .ref s4.heap.objs.size]) ht.typeIs (PyProof.Rows.slot_tuple_getitem.lookup) ?_ (by with_unfolding_all rfl)
  cases pl
  cases pu
  refine turned ht (Heap.IsSliceOf.new _ .none .none vs) ps ?_ (by rw [List.size_toArray]; omega)
  refine ⟨.ref _, _, I5.laid (t' := s4.toks) (o := .tup xs.reverse) (fun b ob q => Heap.get?_push_of_some _ q) (Nat.le_refl _) ?_, rfl, q _ (I5.hok.fresh (Nat.le_refl _))⟩
  exact ⟨by rw [List.length_reverse]; exact hz, _, r.reverse, IsTup.new _ _⟩
end
end Pyx.Rv
/-! Calls with keywords. -/
namespace Pyx
open PySem L2
variable [Fly]
def pick {α : Type} (pl : List Nat) (l : List α) : List α := pl.filterMap (l[·]?)
theorem vals_pick {vs : List V} {us : List Value} (r : Vals vs us) : ∀ (pl : List Nat), Vals (pick pl vs) (pick pl us)
  | [] => .nil
  | i :: pl => by
    have ih := vals_pick r pl
    unfold pick at ih ⊢
    cases e : vs[i]? with
    | none => rw [List.filterMap_cons_none e, List.filterMap_cons_none (Vals.none_of r e)]; exact ih
    | some v =>
      obtain ⟨u, e2, q⟩ := Vals.get r e
      rw [List.filterMap_cons_some e, List.filterMap_cons_some e2]
      exact .cons q ih
theorem reps_pick {K : PySem.W.Frag} {β : Bk} {H : Hp} {ds : List D} {vs : List V} (r : Reps K β H ds vs) : ∀ {pl : List Nat} {us : List D}, pl.mapM (ds[·]?) = some us → Reps K β H us (pick pl vs)
  | [], us, h => by
    cases h
    exact Reps.nil
  | i :: pl, us, h => by
    rw [List.mapM_cons] at h
    obtain ⟨d, e1, h⟩ := Option.bind_eq_some_iff.mp h
    obtain ⟨us', e2, h⟩ := Option.bind_eq_some_iff.mp h
    cases h
    have ih := reps_pick r e2
    obtain ⟨v, hv, rv⟩ := r.get e1
    unfold pick at ih ⊢
    rw [List.filterMap_cons_some hv]
    exact Reps.cons rv ih
/-- the values of keywords bind as the plan says -/
def KB (fd : FuncData) (ps : List Str) (n : Nat) (ks : List Str) (pl : List Nat) : Prop := ∀ us ws : List Value, us.length = n → ws.length = ks.length → bindArgs fd ⟨us, ks.zip ws⟩ = pure (ps.zip (pick pl (us ++ ws)))
section
variable {X : Cx} {n k : Nat} {f : Addr} {fd : FuncData} {ps ks : List Str} {sp : Sp} {x : Str} {p pos : Pos} {es : List Expr} {kws : List Keyword} {t tk : TA} {pl : List Nat}
theorem kw_all {pos : Pos} : ∀ {kws : List Keyword} {ks : List Str} {env : PySem.Env}, kwNames kws = some ks → (backToKw pos (keywordEach kws env)).all (·.1.isSome) = true ∧ (backToKw pos (keywordEach kws env)).filterMap (·.1) = ks ∧ (backToKw pos (keywordEach kws env)).any (·.1.isNone) = false
  | [], ks, env, h => by
    cases h
    exact ⟨rfl, rfl, rfl⟩
  | ⟨none, _, _⟩ :: _, _, _, h => by cases h
  | ⟨some y, e, q⟩ :: kws, ks, env, h => by
    simp only [kwNames] at h
    obtain ⟨ks', e1, rfl⟩ := Option.map_eq_some_iff.mp h
    obtain ⟨h1, h2, h3⟩ := kw_all (pos := pos) (env := env) e1
    unfold backToKw at h1 h2 h3 ⊢
    simp only [keywordEach, List.map_cons, List.all_cons, List.filterMap_cons, List.any_cons, Option.isSome_some, Option.isNone_some, Bool.true_and, Bool.false_or]
    exact ⟨h1, by rw [h2], h3⟩
theorem run_kw {pins : List (Addr × Obj)} {σ : St} {H : Hp} {s : Shared} {Q : VK} {us ws : List Value} {vs zs : List V} (F : FnX X k f fd ps sp) (hr : Room k X.A) (hx : Open X) (hb : KB fd ps n ks pl)
    (I : Inv X pins σ H s) (r : Vals vs us) (rz : Vals zs ws) (l1 : vs.length = n) (l2 : zs.length = ks.length) (h : sp (pick pl (vs ++ zs)) H Q (Fly.f σ)) : wpAny (model X.prog X.w) X.A (call (.ref f) us (ks.zip ws)) (EP X pins σ Q) X.xe s := by
  have r2 := vals_pick (r.append rz) pl
  refine wpAny_call (codeAny_mono (F.run X.A X.stack s H ⟨us, ks.zip ws⟩ (pick pl (us ++ ws)) _ Q (Fly.f σ) hr I.env0 (BindsTo.of_eq (hb us ws (r.length.symm.trans l1) (rz.length.symm.trans l2))) r2 h) fun r s' hq => ?_)
  cases r with
  | error e => exact hx σ pins H s e s' I hq
  | ok fl =>
    cases fl with
    | ret u => exact I.after hq
    | next => exact False.elim hq
    | brk => exact False.elim hq
    | cont => exact False.elim hq
theorem pe_kw {e : Expr} (F : FnX X k f fd ps sp) (hr : Room k X.A) (hx : Open X) (hg : Gl X x) (hm : X.mg x = some (.ref f)) (hk : PySem.W.keepIn X.K (.ref f) = true) (hb : KB fd ps n ks pl)
    (ha : PA X (e :: es) t) (hkw : PK X kws tk) (ns : noStar (e :: es) = true) (hn : kwNames kws = some ks) (hdb : (x == ("__debug__" : Str)) = false) :
    PE X (.Call (.Name x p) (e :: es) kws pos) (fun σ H Q => t σ H fun vs H1 => tk σ H1 fun zs H2 => vs.length = n ∧ zs.length = ks.length ∧ sp (pick pl (vs ++ zs)) H2 Q (Fly.f σ)) := by
  refine ⟨fun pins s σ H Q I h => ?_⟩
  obtain ⟨h1, h2, h3⟩ := kw_all (pos := pos) (env := X.env) hn
  refine wpAny_Call_Name_kw (ld_glob I hg hm ?_ hdb)
  have n2 : isStar e = false ∧ noStar es = true := by simpa [noStar] using ns
  refine PySem.W.callWith_KW (h₀ := X.base) I.ok.mod.kin hk h1 (thn (ha.run pos pins s σ H _ I h) fun us s1 ⟨vs, H1, I1, r, q⟩ => ?_) (by rw [h3, star_none ns]; rfl) (star_cons n2.1)
  refine thn (hkw.run pos pins s1 σ H1 _ I1 q) fun ws s2 ⟨zs, H2, I2, rz, l1, l2, q2⟩ => ⟨I2.kIn, ?_⟩
  rw [h2]
  exact run_kw F hr hx hb I2 r rz l1 l2 q2
theorem pe_kw0 (F : FnX X k f fd ps sp) (hr : Room k X.A) (hx : Open X) (hg : Gl X x) (hm : X.mg x = some (.ref f)) (hk : PySem.W.keepIn X.K (.ref f) = true) (hb : KB fd ps 0 ks pl)
    (hkw : PK X kws tk) (hn : kwNames kws = some ks) (hdb : (x == ("__debug__" : Str)) = false) :
    PE X (.Call (.Name x p) [] kws pos) (fun σ H Q => tk σ H fun zs H2 => zs.length = ks.length ∧ sp (pick pl zs) H2 Q (Fly.f σ)) := by
  refine ⟨fun pins s σ H Q I h => ?_⟩
  obtain ⟨h1, h2, h3⟩ := kw_all (pos := pos) (env := X.env) hn
  refine wpAny_Call_Name_kw (ld_glob I hg hm ?_ hdb)
  refine PySem.W.callWith_KW0 (h₀ := X.base) I.ok.mod.kin hk h1 ?_ (by rw [h3]; rfl)
  refine thn (hkw.run pos pins s σ H _ I h) fun ws s2 ⟨zs, H2, I2, rz, l2, q2⟩ => ⟨I2.kIn, ?_⟩
  rw [h2]
  exact run_kw (us := []) (vs := []) F hr hx hb I2 .nil rz rfl l2 q2
end
section
variable {P : Pr} {X : Cx} {C : Str → List D → Store → R D}
theorem ks_ok {f : Expr → E} (h : ∀ e, PE X e (RE X (evE C P.gl (f e)))) : ∀ (kws : List Keyword), PK X kws (RA X (evEs C P.gl (esOf (kws.map fun k => f k.value))))
  | [] => ⟨fun pos pins s σ H Q I ⟨ρ, S, β, er, sr, g⟩ => pk_nil.run pos pins s σ H Q I (by
      simp only [List.map_nil, esOf, evEs] at g
      exact Go.same (t := ([] : List V)) g Reps.nil sr)⟩
  | ⟨nm, e, q⟩ :: kws => ⟨fun pos pins s σ H Q I w => (pk_cons (h e) (ks_ok h kws)).run pos pins s σ H Q I (by
      obtain ⟨ρ, S, β, er, sr, g⟩ := w
      simp only [List.map_cons, esOf, evEs] at g
      refine ⟨ρ, S, β, er, sr, (Go.bind (Rp := Rep X.K) g).mono fun x H1 ⟨β1, S1, d, x1, r1, s1, g1⟩ => ?_⟩
      refine ⟨ρ, S1, β1, er.ext x1, s1, (Go.bind (Rp := Reps X.K) g1).mono fun xs H2 ⟨β2, S2, ds, x2, r2, s2, g2⟩ => ?_⟩
      exact Go.same (t := x :: xs) g2 (Reps.cons (r1.ext x2) r2) s2)⟩
end
section
variable {X : Cx} {a : Expr} {ra : Env → Store → R D}
theorem reps_rev {K : PySem.W.Frag} {β : Bk} {H : Hp} : ∀ {ds : List D} {vs : List V}, Reps K β H ds vs → Reps K β H ds.reverse vs.reverse
  | [], _, r => by
    simp only [Reps] at r; subst r; exact Reps.nil
  | d :: ds, _, r => by
    simp only [Reps] at r
    obtain ⟨v, vs, rfl, h, t⟩ := r
    rw [List.reverse_cons, List.reverse_cons]
    exact (reps_rev t).append (Reps.cons h Reps.nil)
theorem g_rev {k : Nat} {p1 p2 p3 pos : Pos} (ha : PE X a (RE X ra)) : PE X (.Subscript a (.Slice none none (some (.UnaryOp .USub (.Constant (.int 1) k p1) p2)) p3) pos) (RE X fun ρ S => (ra ρ S).bind fun x S1 => match x with
    | .tup ds => mkT ds.reverse S1
    | _ => .stuck) :=
  (Rv.pe_revT ha).cv fun σ H Q ⟨ρ, S, β, er, sr, g⟩ => ⟨ρ, S, β, er, sr, g.bind.mono fun x H1 ⟨β1, S1, d, x1, r1, s1, g1⟩ => by
    cases d with
    | tup ds =>
      simp only [Rep] at r1
      obtain ⟨a, vs, rfl, t, z, r⟩ := r1
      exact ⟨a, vs, rfl, t.sq, (go_mkT s1 (reps_rev r) g1).2⟩
    | _ => exact g1.elim⟩
end
theorem mapM_len {α β : Type} {f : α → Option β} : ∀ {l : List α} {us : List β}, l.mapM f = some us → us.length = l.length
  | [], us, h => by cases h; rfl
  | a :: l, us, h => by
    rw [List.mapM_cons] at h
    obtain ⟨d, e1, h⟩ := Option.bind_eq_some_iff.mp h
    obtain ⟨us', e2, h⟩ := Option.bind_eq_some_iff.mp h
    cases h
    rw [List.length_cons, List.length_cons, mapM_len e2]
theorem kw_len : ∀ {kws : List Keyword} {ks : List Str}, kwNames kws = some ks → ks.length = kws.length
  | [], ks, h => by cases h; rfl
  | ⟨none, _, _⟩ :: _, _, h => by cases h
  | ⟨some y, e, q⟩ :: kws, ks, h => by
    simp only [kwNames] at h
    obtain ⟨ks', e1, rfl⟩ := Option.map_eq_some_iff.mp h
    rw [List.length_cons, List.length_cons, kw_len e1]
section
variable {X : Cx} {C : Str → List D → Store → R D} {n k : Nat} {f : Addr} {fd : FuncData} {ps ks : List Str} {x : Str} {p pos : Pos} {es : List Expr} {kws : List Keyword} {rs rk : Env → Store → R (List D)} {pl : List Nat}
theorem g_kw (F : FnX X k f fd ps (spF X.K C x ps.length)) (hr : Room k X.A) (hx : Open X) (hg : Gl X x) (hm : X.mg x = some (.ref f)) (hk : PySem.W.keepIn X.K (.ref f) = true) (hb : KB fd ps es.length ks pl)
    (h : PA X es (RA X rs)) (hkw : PK X kws (RA X rk)) (ns : noStar es = true) (hn : kwNames kws = some ks) (hp : pl.length = ps.length) (hdb : (x == ("__debug__" : Str)) = false)
    (hlen : ∀ ρ S ds S1, rs ρ S = .ok ds S1 → ds.length = es.length) (klen : ∀ ρ S ds S1, rk ρ S = .ok ds S1 → ds.length = ks.length) (h0 : es = [] → ∀ ρ S, rs ρ S = .ok [] S) :
    PE X (.Call (.Name x p) es kws pos) (RE X fun ρ S => (rs ρ S).bind fun ds S1 => (rk ρ S1).bind fun ws S2 => (give S2 (pl.mapM fun i => (ds ++ ws)[i]?)).bind fun us S3 => C x us S3) := by
  have lp : ∀ {l us : List D}, pl.mapM (fun i => l[i]?) = some us → us.length = ps.length := fun {l us} e => by rw [← hp]; exact mapM_len e
  have fin : ∀ {σ : St} {β : Bk} {H : Hp} {S : Store} {ds ws : List D} {vs zs : List V} {Q : VK}, Reps X.K β H ds vs → Reps X.K β H ws zs → SRel X.K β H S → Go X.K (Rep X.K) (FlyE X.K σ) β H ((give S (pl.mapM fun i => (ds ++ ws)[i]?)).bind fun us S3 => C x us S3) Q → spF X.K C x ps.length (pick pl (vs ++ zs)) H Q (Fly.f σ) := fun {σ β H S ds ws vs zs Q} r rz s g => by
    cases e : pl.mapM (fun i => (ds ++ ws)[i]?) with
    | none => rw [e] at g; exact g.elim
    | some us =>
      rw [e] at g
      exact ⟨us, S, β, reps_pick (r.append rz) e, s, lp e, g⟩
  cases es with
  | nil =>
    refine (pe_kw0 F hr hx hg hm hk hb hkw hn hdb).cv fun σ H Q ⟨ρ, S, β, er, sr, g⟩ => ?_
    dsimp only at g
    rw [h0 rfl ρ S, R.bind_ok] at g
    refine ⟨ρ, S, β, er, sr, ?_⟩
    have kl := klen ρ S
    cases e : rk ρ S with
    | ok ws S2 =>
      rw [e] at g
      intro zs β1 H1 x1 r1 s1
      refine ⟨by rw [← r1.length]; exact kl _ _ e, ?_⟩
      exact fin (vs := []) Reps.nil r1 s1 (Go.ext g x1)
    | exc x' S1 => rw [e] at g; exact g
    | stuck => rw [e] at g; exact g
  | cons e0 es =>
    refine (pe_kw F hr hx hg hm hk hb h hkw ns hn hdb).cv fun σ H Q ⟨ρ, S, β, er, sr, g⟩ => ?_
    refine ⟨ρ, S, β, er, sr, ?_⟩
    dsimp only at g
    cases e : rs ρ S with
    | ok ds S1 =>
      rw [e] at g
      intro vs β1 H1 x1 r1 s1
      refine ⟨ρ, S1, β1, er.ext x1, s1, ?_⟩
      have g := Go.ext g x1
      rw [R.bind_ok] at g
      have kl := klen ρ S1
      cases e2 : rk ρ S1 with
      | ok ws S2 =>
        rw [e2] at g
        intro zs β2 H2 x2 r2 s2
        refine ⟨by rw [← r1.length]; exact hlen _ _ _ _ e, by rw [← r2.length]; exact kl _ _ e2, ?_⟩
        exact fin (r1.ext x2) r2 s2 (Go.ext g x2)
      | exc x' S1 => rw [e2] at g; exact g
      | stuck => rw [e2] at g; exact g
    | exc x' S1 => rw [e] at g; exact g
    | stuck => rw [e] at g; exact g
end
end Pyx
end
section
/-! Errors of own classes: made where nothing is handled, their `__init__`, raised. -/
namespace Pyx
open PySem PySem.Spec PyProof.Rows L2
theorem pmk_new {X : Cx} {CX : CXT} {x : Str} {e : Expr} {es : List Expr} {ta : TA} {p pos : Pos} {C fI : Addr} {k : Nat} {fd : FuncData} {ps : List Str} {sp : Sp} (T : OexC X.K C)
    (iC : PySem.W.findIn X.K (.ref C) "__init__" = some (some (.ref fI))) (tI : PySem.W.typeIn X.K (.ref fI) = some (.type "function"))
    (F1 : FnOk X.prog X.w X.K X.mg X.base CX k fI fd ps sp) (hr : Room (k + 1) X.A) (hb : Binds X.K fd ps []) (hx : Passes CX X (fun _ _ _ => False))
    (hg : Gl X x) (hm : X.mg x = some (.ref C)) (ha : PA X (e :: es) ta) (hdb : (x == ("__debug__" : Str)) = false)
    (he : starEach (e :: es) X.env = (false, eval e X.env) :: starEach es X.env) (hpl : (backTo pos (starEach es X.env)).any (·.1) = false) :
    L2N.PMk X (.Call (.Name x p) (e :: es) [] pos) (tMkO C sp [] ta) := by
  intro pins s σ H Q I h
  obtain ⟨nm, q, N, bs, bm, sn, sub, ab, col, dd, k0, k1, k2, k3, k5, hC, hbm⟩ := T.cls
  refine wpAny_Call_Name_kw (ld_glob I hg hm ?_ hdb)
  refine PySem.W.callWith_K (h₀ := X.base) I.ok.mod.kin T.kC (thn (ha.run pos pins s σ H _ I h) fun us s1 ⟨vs, H1, I1, r1, hz, q1⟩ => ⟨I1.kIn, ?_⟩) he hpl
  show wpAny _ _ (call (.ref C) us) _ _ _
  obtain ⟨hp, g, dr, tk, os⟩ := s1
  have hsz : hp.objs.size ≤ hp.objs.size + 1 := Nat.le_succ _
  have hq := q1 (hp.objs.size + 1) (I1.hok.fresh hsz)
  rw [List.append_nil] at hq
  let hn := (hp.push (PySem.W.kdv_tup us)).push (PySem.HandSPX.excO C hp.objs.size)
  have kk : ∀ b o, hp.get? b = some o → hn.get? b = some o := fun b o e => Heap.get?_push_of_some _ (Heap.get?_push_of_some _ e)
  have hget : hn.get? (hp.objs.size + 1) = some (PySem.HandSPX.excO C hp.objs.size) := by show Heap.get? (Heap.push (Heap.push _ _) _) _ = _; heap_get
  have I2 : Inv X pins σ (upd H1 (hp.objs.size + 1) (exo (hp.objs.size + 1) C none)) ⟨hn, g, dr, tk, os⟩ :=
    I1.laid (t' := tk) (a := hp.objs.size + 1) (o := exo (hp.objs.size + 1) C none) (h' := hn) kk hsz (exo_ok hget)
  have r2 : Vals (V.ref (hp.objs.size + 1) :: vs) (Value.ref (hp.objs.size + 1) :: us) := .cons rfl r1
  have hl : (Value.ref (hp.objs.size + 1) :: us ++ []).length = ps.length := by
    have e := r2.length
    rw [F1.len _ _ _ _ hq] at e
    rw [List.append_nil]
    exact e.symm
  have hus : us.length ≤ sizeLine := by
    rw [← Paired.length r1, sizeLine_eq]
    omega
  have b2 := hb _ (Value.ref (hp.objs.size + 1) :: us) I2.kIn hl
  rw [List.append_nil] at b2
  refine wpAny_call (PySem.HandSPX.call_own F.excBase_ValueError (fun Y => PySem.HandSPX.refsVE_contains Y bm hbm) (I1.kIn _ _ hC) (PySem.W.looks_findIn I1.kIn iC) (fun self => PySem.W.bind_fn I1.kIn self tI) hus
    (codeAny_mono (F1.run _ X.stack _ _ ⟨Value.ref (hp.objs.size + 1) :: us, []⟩ (Value.ref (hp.objs.size + 1) :: us) _ _ (fun _ _ _ => False) (hr.make C us []) (I2.env0.make C us []) b2 r2 hq) fun r s' hq' => ?_))
  cases r with
  | error er => exact hx pins σ _ _ er s' I2 hq'
  | ok fl =>
    cases fl with
    | ret u =>
      obtain ⟨v, H2, os2, bare2, un2, hok2, rv, ev, d, fs, ea, ed, hd1, q2⟩ := hq'
      subst ev
      obtain ⟨h2, g2, d2, t2, os'⟩ := s'
      obtain ⟨t0, G, J, kG, ge, hoe, na⟩ := mk_end0 (d2 := d2) (t2 := t2) I1 hsz kk un2 hok2 os2 bare2 ea ed hd1
      refine ⟨rv, hp.objs.size + 1, _, _, ⟨G, g2, d2, t2, os'⟩, _, .ref C, some d, rfl, J, kG, ge, hoe, ⟨rfl, rfl, fun vs hv => ?_⟩, rfl, rfl, na, rfl, bare2, raises_own T.exC T.tyC, q2⟩
      cases hv
      rfl
    | next => exact False.elim hq'
    | brk => exact False.elim hq'
    | cont => exact False.elim hq'
/-- what it keeps -/
def spE (K : PySem.W.Frag) (C : Addr) (f : Str) : Sp := fun vs H Q _ => ∃ (a : Addr) (u : V), vs = [.ref a, u] ∧ H a = some (exo a C none) ∧
  ∀ d, H d = none → d ≠ a → Q .non (upd (upd H d (exd d [(f, u)])) a (exo a C (some d)))
theorem initE_ok {CX : CXT} {Pg : Program} {w : World} {K : PySem.W.Frag} {mg : Str → Option Value} {base : Heap} {k : Nat} {fI C : Addr} {name qual f sf : Str} {params : Arguments} {scope : Scope} {dV kV doc pm cdv ct oc : Value} {an od : Option Addr}
    {osl : Array (Option Value)} {p0 p1 p2 pos : Pos} (lk : K.lookup fI = some ⟨oc, od, .func (PySem.W.fnOf name qual params [.Assign [.Attribute (.Name sf p0) f p1] (.Name f p2) pos] scope dV kV doc pm an cdv ct), osl⟩)
    (hcd : PySem.W.codeIn K cdv qual = true) (S : FnScope [sf, f] [sf, f] scope) (d1 : (sf == ("__debug__" : Str)) = false) (d2 : (sf == ("__classdict__" : Str)) = false) (d3 : (f == ("__debug__" : Str)) = false) (d4 : (f == ("__classdict__" : Str)) = false)
    (T : OexC K C) (hno : PySem.W.findIn K (.ref C) f = some none) :
    FnOk Pg w K mg base CX (k + 1) fI (PySem.W.fnOf name qual params [.Assign [.Attribute (.Name sf p0) f p1] (.Name f p2) pos] scope dV kV doc pm an cdv ct) [sf, f] (spE K C f) := by
  refine fn_of lk hcd S (fun vs H Q E ⟨a, u, e, _⟩ => by rw [e]; rfl) fun A outer s H vs Q E hr hsp => ?_
  obtain ⟨a, u, rfl, ha, hq⟩ := hsp
  have v0 : ∀ x ∈ [sf, f], Vis scope x := fun x m => (S.par x m).elim .inl fun q => .inr (.inl q)
  refine ⟨_, pss_cons (ps_ost (pe_var (i := 0) (x := sf) rfl (v0 sf (by simp)) d1 d2) (pe_var (i := 1) (x := f) rfl (v0 f (by simp)) d3 d4)) pss_nil, ?_⟩
  refine ⟨u, rfl, .ref a, rfl, a, C, rfl, T, hno, .inl ⟨ha, fun dx n ne => ?_⟩⟩
  exact hq dx n ne
variable [Fly]
/-- an error class with one field -/
def ExOk (X : Cx) (n : Nat) (c f : Str) : Prop := ∃ (C fI : Addr) (fd : FuncData) (ps : List Str), ClsAt X.K c C ∧ OexC X.K C ∧ X.mg c = some (.ref C) ∧ PySem.W.findIn X.K (.ref C) "__init__" = some (some (.ref fI)) ∧
  PySem.W.typeIn X.K (.ref fI) = some (.type "function") ∧ Binds X.K fd ps [] ∧ FnX X n fI fd ps (spE X.K C f)
theorem s_raise {X : Cx} {n : Nat} {c f : Str} {e : Expr} {p p2 pos : Pos} {rs : Env → Store → R (List D)} (F : ExOk X n c f) (hr : Room (n + 1) X.A) (hc : X.calm = true) (tk : L2N.Takes X fun cls d σ H => Fly.f σ cls d H) (hg : Gl X c)
    (h : PA X [e] (RA X rs)) (ns : isStar e = false) (hdb : (c == ("__debug__" : Str)) = false) :
    PS X (.Raise (some (.Call (.Name c p) [e] [] p2)) none pos) (RS X fun ρ S => (rs ρ S).bind fun ds S1 => match ds with
      | [v] => .exc ⟨c, some (f, v)⟩ S1
      | _ => .stuck) := by
  obtain ⟨C, fI, fd, ps, k, T, hm, iC, tI, hb, F⟩ := F
  refine (L2N.ps_raise hc tk (pmk_new T iC tI F hr hb (L2N.passes_call tk fun _ _ _ _ q => q.elim) hg hm h hdb (star_cons ns) (star_none rfl))).cv fun Dn σ H ⟨ρ, S, β, er, sr, g⟩ => ⟨ρ, S, β, er, sr, ?_⟩
  dsimp only at g
  cases q : rs ρ S with
  | ok ds S1 =>
    rw [q] at g
    intro vs β1 H1 x1 r1 s1
    match ds, r1, g with
    | [], _, g => exact (show False from g).elim
    | _ :: _ :: _, _, g => exact (show False from g).elim
    | [v], r1, g =>
      obtain ⟨u, vr, rfl, ru, rn⟩ := (show ∃ u vr, vs = u :: vr ∧ Rep X.K β1 H1 v u ∧ Reps X.K β1 H1 [] vr by simpa only [Reps] using r1)
      have rn : vr = [] := by simpa [Reps] using rn
      subst rn
      refine ⟨by simp, fun a ha => ⟨a, u, rfl, upd_same, fun d hd ne => ⟨rfl, d, [(f, u)], upd_same, ?_, ?_, ?_⟩⟩⟩
      · rw [upd_ne ne]; exact upd_same
      · rw [upd_ne ne] at hd; exact hd
      · have hd' : H1 d = none := by rw [upd_ne ne] at hd; exact hd
        have eq : upd (del (upd (upd (upd H1 a (exo a C none)) d (exd d [(f, u)])) a (exo a C (some d))) a) d (.xd [(f, u)]) = upd H1 d (.xd [(f, u)]) := by
          funext b
          by_cases hb : b = d
          · subst hb; rw [upd_same, upd_same]
          · rw [upd_ne hb, upd_ne hb]
            by_cases hba : b = a
            · subst hba; rw [del_same, ha]
            · rw [del_ne hba, upd_ne hba, upd_ne hb, upd_ne hba]
        rw [eq]
        obtain ⟨x2, s2, n1, n2⟩ := s1.laid hd' (.xd [(f, u)])
        exact g β1 _ (x1.trans x2) s2 σ _ _ ⟨C, rfl, k, d, u, rfl, n1, n2, upd_same, ru.ext x2⟩
  | exc x' S1 => rw [q] at g; exact fun b c y z => g b c y z σ
  | stuck => rw [q] at g; exact g
end Pyx
end
section
/-! The exception at hand: its field, its class; defs called while it is handled; try. -/
namespace Pyx
open PySem PySem.Spec PyProof.Rows L2
/-- isinstance of the exception at hand, fields or none -/
theorem call_isX {X : Cx} {a D : Addr} {oe : Obj} {pn : List (Addr × Obj)} {d : Option Addr} (C : ExcC X.K D) (hz : Zc (.ref D) d oe) (hf : ∃ vs, oe.data = .fields vs) :
    CallR (X.suite a ((a, oe) :: pn)) (.builtin "isinstance") (fun xs H Q => ∃ (c : V) (cv : Value) (b : Bool), xs = [.ref a, c] ∧ (∀ u, RelV c u → u = cv) ∧ (∀ dd, d = some dd → ∃ fs, H dd = some (.xd fs)) ∧ PySem.W.kitOne X.K (.ref D) cv = some b ∧ Q (.bl b) H) := by
  intro pins s σ H xs us Q I rel w
  obtain ⟨c, cv, b, rfl, hcv, hdd, ek, q⟩ := w
  match us, rel with
  | [u1, u2], .cons rx (.cons rt .nil) =>
    cases rx
    obtain rfl := hcv _ rt
    obtain ⟨hget, _⟩ := I.pin (a, oe) (List.mem_append.mpr (.inl List.mem_cons_self))
    obtain ⟨vs, hv⟩ := hf
    have J : ∃ od, PySem.W.InstAt s.heap a oe D od := by
      cases d with
      | none => exact ⟨none, hget, hz.1, by unfold PySem.W.notCls; rw [hv] <;> rfl, by rw [hz.2]; trivial⟩
      | some dd =>
        obtain ⟨fs, ea⟩ := hdd dd rfl
        have hx : ObjOk X.prog X.w H s.heap dd (.xd fs) := I.hok dd _ ea
        obtain ⟨mA, hns, hr⟩ := hx
        obtain ⟨od, ho, hl⟩ := lookIn_ns hns
        exact ⟨some od, hget, hz.1, by unfold PySem.W.notCls; rw [hv] <;> rfl, by rw [hz.2]; exact ho⟩
    obtain ⟨od, J⟩ := J
    obtain ⟨cd, hcd, _⟩ := PySem.W.any_some C.hd
    exact PySem.W.kia_one (PySem.W.kitx_exc (by rw [hcd]; rfl) C.hg C.hk C.hs C.ha C.hn C.ht C.hm) I.kIn J ek (fun z => nomatch z) fun tk => ⟨.bl b, H, I.kept (t' := tk) fun _ _ z => z, rfl, q⟩
/-- the class of the exception at hand: its field may be read -/
def XfOk (K : PySem.W.Frag) (c f : Str) : Prop := ∃ C, ClsAt K c C ∧ XfC K C ∧ PySem.W.findIn K (.ref C) f = some none
/-- what isinstance says of the error classes, for the class of this name -/
def XiOk (K : PySem.W.Frag) (mg : Str → Option Value) (x : Str) (ms : List (Str × Bool)) : Prop := ∃ (v : V) (cv : Value), (∀ u, RelV v u → u = cv) ∧ ((mg x = some cv ∧ RelV v cv) ∨ (mg x = none ∧ bootBuiltins x = some cv ∧ RelV v cv)) ∧
  ∀ p ∈ ms, ∃ C, ClsAt K p.1 C ∧ ExcC K C ∧ PySem.W.kitOne K (.ref C) cv = some p.2
/-- what an except clause with the class of this name takes -/
def XmOk (K : PySem.W.Frag) (mg : Str → Option Value) (x : Str) (ms : List (Str × Bool)) : Prop := ∃ cv : Value, mg x = some cv ∧ ∀ p ∈ ms, ∃ C, ClsAt K p.1 C ∧ PySem.W.exmOne K (.ref C) cv = some p.2
theorem mem_look {β : Type} {x : Str} {b : β} : ∀ {l : List (Str × β)}, l.lookup x = some b → (x, b) ∈ l
  | [], h => by cases h
  | (k, v) :: l, h => by
    rw [List.lookup_cons] at h
    split at h
    · rename_i e
      cases h
      rw [beq_iff_eq.mp e]; exact List.mem_cons_self
    · exact List.mem_cons_of_mem _ (mem_look h)
section
variable [Fly] {X0 : Cx} {oe : Obj} {pn : List (Addr × Obj)} {hd : Hand} {pos p : Pos} {y : Str}
theorem xfD_code {cs : List Str} {f : Str} {x : Exc} {v : D} (h : xfD cs f (some (codeX x)) = some v) : x.fld = some (f, v) ∧ x.cls ∈ cs := by
  obtain ⟨c, fl⟩ := x
  cases fl with
  | none => simp [codeX, xfD] at h
  | some q =>
    obtain ⟨g, w⟩ := q
    simp only [codeX, xfD] at h
    split at h
    · rename_i e
      cases h
      rw [e.1]
      exact ⟨rfl, List.contains_iff_mem.mp e.2⟩
    · cases h
theorem xisD_code {ms : List (Str × Bool)} {x : Exc} : xisD ms (some (codeX x)) = ms.lookup x.cls := by
  obtain ⟨c, fl⟩ := x
  cases fl with
  | none => rfl
  | some q => rfl
/-- e.f -/
theorem g_xf {f : Str} {cs : List Str} (eh : Fly.hand = some hd) (hz : Zc hd.cls hd.d oe) (hf : ∃ vs, oe.data = .fields vs) (hN : X0.N[hd.slot]? = some y) (hv : Vis X0.env.scope y) (o1 : (y == ("__debug__" : Str)) = false) (o2 : (y == ("__classdict__" : Str)) = false)
    (F : ∀ c ∈ cs, XfOk X0.K c f) : PE (X0.suite hd.ea ((hd.ea, oe) :: pn)) (.Attribute (.Name y p) f pos) (RE (X0.suite hd.ea ((hd.ea, oe) :: pn)) fun ρ S => give S (xfD cs f (ρ[hd.slot]?.join))) := by
  refine ⟨fun pins s σ H Q I ⟨ρ, S, β, er, sr, g⟩ => ?_⟩
  obtain ⟨x, g1, g2, g3⟩ := er.hnd hd eh
  obtain ⟨v, e, g⟩ := Go.give g
  rw [g1] at e
  obtain ⟨e1, e2⟩ := xfD_code (show xfD cs f (some (codeX x)) = some v from e)
  obtain ⟨C, ec, kc, h⟩ := g3
  rw [e1] at h
  obtain ⟨dx, u, ed, _, _, hdx, ru⟩ := h
  obtain ⟨C', kc', T, hno⟩ := F _ e2
  cases kc'.inj kc
  refine (pe_xf (te := tVar hd.slot) T hno hz hf (pe_var (X := X0.suite hd.ea ((hd.ea, oe) :: pn)) hN hv o1 o2)).run pins s σ H Q I ?_
  exact ⟨_, g2, rfl, ec, dx, _, u, ed, hdx, by rw [List.lookup_cons, beq_self_eq_true], Go.same g ru sr⟩
/-- isinstance(e, C) -/
theorem g_xis {z : Str} {ms : List (Str × Bool)} {p2 p3 : Pos} (eh : Fly.hand = some hd) (hz : Zc hd.cls hd.d oe) (hf : ∃ vs, oe.data = .fields vs) (hN : X0.N[hd.slot]? = some y) (hv : Vis X0.env.scope y) (o1 : (y == ("__debug__" : Str)) = false) (o2 : (y == ("__classdict__" : Str)) = false)
    (hg : Gl X0 "isinstance") (hm : X0.mg "isinstance" = none) (hgz : Gl X0 z) (z1 : (z == ("__debug__" : Str)) = false) (z2 : z ≠ "__name__") (F : XiOk X0.K X0.mg z ms) :
    PE (X0.suite hd.ea ((hd.ea, oe) :: pn)) (.Call (.Name "isinstance" p2) [.Name y p, .Name z p3] [] pos) (RE (X0.suite hd.ea ((hd.ea, oe) :: pn)) fun ρ S => (give S (xisD ms (ρ[hd.slot]?.join))).bind fun b S1 => .ok (.bl b) S1) := by
  obtain ⟨v, cv, hcv, hname, F⟩ := F
  have pz : PE (X0.suite hd.ea ((hd.ea, oe) :: pn)) (.Name z p3) (tC v) := by
    rcases hname with ⟨h1, h2⟩ | ⟨h1, h2, h3⟩
    · exact pe_glob (X := X0.suite hd.ea ((hd.ea, oe) :: pn)) hgz h1 h2 z1
    · exact pe_bltn (X := X0.suite hd.ea ((hd.ea, oe) :: pn)) hgz h1 h2 h3 z2 z1
  refine ⟨fun pins s σ H Q I ⟨ρ, S, β, er, sr, g⟩ => ?_⟩
  obtain ⟨x, g1, g2, g3⟩ := er.hnd hd eh
  dsimp only at g
  rw [g1] at g
  cases e : xisD ms (some (codeX x)) with
  | none =>
    have g : Go X0.K (Rep X0.K) (FlyE X0.K σ) β H ((give S (xisD ms (some (codeX x)))).bind fun b S1 => .ok (.bl b) S1) Q := g
    rw [e] at g; exact g.elim
  | some b =>
    have g : Go X0.K (Rep X0.K) (FlyE X0.K σ) β H ((give S (xisD ms (some (codeX x)))).bind fun b S1 => .ok (.bl b) S1) Q := g
    rw [e] at g
    rw [xisD_code] at e
    obtain ⟨C', kc', EC, hk⟩ := F _ (mem_look e)
    obtain ⟨C, ec, kc, h⟩ := g3
    cases kc'.inj kc
    rw [ec] at hz
    refine (pe_callB (call_isX (pn := pn) EC hz hf) hg hm (by decide +kernel) (pa_cons (pe_var (X := X0.suite hd.ea ((hd.ea, oe) :: pn)) hN hv o1 o2) (pa_cons pz pa_nil rfl) rfl) (by decide) (by decide) rfl rfl).run pins s σ H Q I ?_
    refine ⟨_, g2, _, cv, b, rfl, hcv, fun dd edd => ?_, hk, Go.same g (bl_rep b) sr⟩
    split at h
    · rw [h] at edd; cases edd
    · obtain ⟨dx, u, ed, _, _, hdx, _⟩ := h
      rw [ed] at edd; cases edd
      exact ⟨_, hdx⟩
/-- a def called where an exception is handled -/
theorem g_callH {X : Cx} {C : Str → List D → Store → R D} {n : Nat} {f : Addr} {fd : FuncData} {ps : List Str} {x k : Str} {e : Expr} {es : List Expr} {rs : Env → Store → R (List D)}
    (F : L2H.FnH X.prog X.w X.K X.mg X.base (L2N.CX X.prog X.w) n f fd ps (spF X.K C k ps.length)) (hr : L2H.RoomH n X.A) (hc : L2H.HotC X) (hx : Open X) (hg : Gl X x) (hm : X.mg x = some (.ref f)) (hk : PySem.W.keepIn X.K (.ref f) = true) (hb : Binds X.K fd ps [])
    (h : PA X (e :: es) (RA X rs)) (ns : noStar (e :: es) = true) (hl : (e :: es).length = ps.length) (hlen : ∀ ρ S ds S1, rs ρ S = .ok ds S1 → ds.length = (e :: es).length) (hdb : (x == ("__debug__" : Str)) = false) :
    PE X (.Call (.Name x p) (e :: es) [] pos) (RE X fun ρ S => (rs ρ S).bind fun ds S1 => C k ds S1) := by
  have n2 : isStar e = false ∧ noStar es = true := by simpa [noStar] using ns
  refine (L2H.pe_callH F hr hc hg hm hk hb hx h hdb (star_cons n2.1) (star_none n2.2)).cv fun σ H Q ⟨ρ, S, β, er, sr, g⟩ => ⟨ρ, S, β, er, sr, ?_⟩
  dsimp only at g
  cases q : rs ρ S with
  | ok ds S1 =>
    rw [q] at g
    intro vs β1 H1 x1 r1 s1
    exact ⟨ds, S1, β1, r1, s1, by rw [hlen _ _ _ _ q, hl], Go.ext g x1⟩
  | exc x' S1 => rw [q] at g; exact g
  | stuck => rw [q] at g; exact g
end
end Pyx
end
section
/-! The translated syntax reckons what the machine does: the whole induction. -/
namespace Pyx
open PySem L2
variable [Fly]
structure Ctx (P : Pr) (C : Str → List D → Store → R D) (n : Nat) (c : Sc) (X : Cx) : Prop where
  hN : X.N = c.N
  nd : c.N.Nodup
  sc : X.env.scope = c.sc
  kind : c.sc.kind = .function
  fn : X.fn = c.fn
  cool : c.hot = false → X.calm = true ∧ Room (2 * n + 1 + 1) X.A ∧ Fly.hand = none
  rmH : L2H.RoomH (2 * n + 1 + 1) X.A
  slot : Fly.hand.map (·.slot) = c.xs
  hnd : ∀ h, Fly.hand = some h → ∃ X0 oe pn, X = Cx.suite X0 h.ea ((h.ea, oe) :: pn) ∧ Zc h.cls h.d oe ∧ ∃ vs, oe.data = .fields vs
  hotc : c.hot = true → L2H.HotC X
  pass : PassesOwn (model X.prog X.w) X.A X.env X.xe
  tk : L2N.Takes X fun cls d σ H => Fly.f σ cls d H
  bl : ∀ x, P.bl x = true → X.mg x = none
  gl : ∀ x d, P.gl x = some d → ∃ u v, X.mg x = some u ∧ RelV v u ∧ ∀ β H, Rep X.K β H d v
  fns : ∀ x ps, P.ps x = some ps → ∃ f fd, X.mg x = some (.ref f) ∧ PySem.W.keepIn X.K (.ref f) = true ∧ Binds X.K fd ps [] ∧ (∀ n ks pl, P.kw x n ks = true → kwPlan ps n ks = some pl → KB fd ps n ks pl) ∧ FnX X (2 * n + 1) f fd ps (spF X.K C x ps.length)
  hfn : ∀ x ps, P.hp x = some ps → ∃ f fd, X.mg x = some (.ref f) ∧ PySem.W.keepIn X.K (.ref f) = true ∧ Binds X.K fd ps [] ∧ L2H.FnH X.prog X.w X.K X.mg X.base (L2N.CX X.prog X.w) (2 * n + 1) f fd ps (spF X.K C (hkey x) ps.length)
  fld : ∀ x, ∀ c ∈ P.fl x, FldOk X.K c x
  mth : ∀ c m np, P.ms c m = some np → MthOk X C (2 * n + 1) c m np
  mks : ∀ c np, P.ci c = some np → MkOk X C (2 * n + 1) c np
  exs : ∀ c f, P.ex c = some f → ExOk X (2 * n + 1) c f
  xf : ∀ f, ∀ c ∈ P.ef f, XfOk X.K c f
  xi : ∀ x ms, P.xi x = some ms → XiOk X.K X.mg x ms
  xm : ∀ x ms, P.xm x = some ms → XmOk X.K X.mg x ms
theorem Ctx.out {P : Pr} {C : Str → List D → Store → R D} {n : Nat} {c : Sc} {X : Cx} (h : Ctx P C n c X) : Open X := fun σ => L2N.passAt h.tk σ
theorem Ctx.calm {P : Pr} {C : Str → List D → Store → R D} {n : Nat} {c : Sc} {X : Cx} (h : Ctx P C n c X) (hc : c.hot = false) : X.calm = true := (h.cool hc).1
theorem Ctx.room {P : Pr} {C : Str → List D → Store → R D} {n : Nat} {c : Sc} {X : Cx} (h : Ctx P C n c X) (hc : c.hot = false) : Room (2 * n + 1 + 1) X.A := (h.cool hc).2.1
theorem Ctx.h0 {P : Pr} {C : Str → List D → Store → R D} {n : Nat} {c : Sc} {X : Cx} (h : Ctx P C n c X) (hc : c.hot = false) : Fly.hand = none := (h.cool hc).2.2
theorem Ctx.r0 {P : Pr} {C : Str → List D → Store → R D} {n : Nat} {c : Sc} {X : Cx} (h : Ctx P C n c X) (hc : c.hot = false) : Room (2 * n + 1) X.A := (h.room hc).mono (by omega)
theorem Ctx.u65 {P : Pr} {C : Str → List D → Store → R D} {n : Nat} {c : Sc} {X : Cx} (h : Ctx P C n c X) : X.A.units + 65 < cLine := by have := h.rmH.un; omega
theorem Ctx.off {P : Pr} {C : Str → List D → Store → R D} {n : Nat} {c : Sc} {X : Cx} (h : Ctx P C n c X) {i : Nat} (o : onX c i = false) : Off i := fun hd e q => by
  have s := h.slot
  rw [e] at s
  have s : some hd.slot = c.xs := s
  unfold onX at o
  rw [← s, q, beq_self_eq_true] at o
  cases o
section
variable {P : Pr} {C : Str → List D → Store → R D} {n : Nat} {c : Sc} {X : Cx}
theorem Ctx.inner (h : Ctx P C n c X) (hc : c.hot = false) (scope : Scope) (s : Shared) (H : Hp) (L : Addr) (cl : List (Str × Addr)) (fp : List Addr) (hk : scope.kind = .function) : @Ctx never P C n (Pyx.inner c scope) (X.blk s H scope (compEnvC scope cl L X.env) fp) :=
  @Ctx.mk never P C n (Pyx.inner c scope) (X.blk s H scope (compEnvC scope cl L X.env) fp) h.hN h.nd (by show relS scope X.env.scope = relS scope c.sc; rw [h.sc]) hk rfl (fun _ => ⟨h.calm hc, h.room hc, rfl⟩) h.rmH
    (by show none = c.xs; rw [← h.slot, h.h0 hc]; rfl) (fun q e => by cases e) (fun e => by have e : c.hot = true := e; rw [hc] at e; cases e) PassesOwn.never (fun _ _ q => by
    obtain ⟨_, _, _, _, _, _, _, _, _, _, _, _, _, _, _, _, z⟩ := q
    exact (show False from z).elim) h.bl h.gl h.fns h.hfn h.fld h.mth h.mks h.exs h.xf h.xi h.xm
theorem find_ok {N : List Str} {x : Str} {i : Nat} (h : N.findIdx? (· == x) = some i) : N[i]? = some x := by
  obtain ⟨hi, h1, _⟩ := List.findIdx?_eq_some_iff_getElem.mp h
  rw [List.getElem?_eq_getElem hi, beq_iff_eq.mp h1]
theorem plc_ok {x : Str} {i : Nat} (h : plc c x = some i) : c.N[i]? = some x ∧ Vis c.sc x ∧ onX c i = false := by
  unfold plc at h
  split at h
  all_goals first | cases h | skip
  all_goals split at h
  all_goals first | cases h | skip
  · rename_i h2 h1 o; exact ⟨find_ok h1, .inl h2, by simpa using o⟩
  · rename_i h2 h1 o; exact ⟨find_ok h1, .inr (.inl h2), by simpa using o⟩
  · rename_i h2 h1 o; exact ⟨find_ok h1, .inr (.inr h2), by simpa using o⟩
theorem stq_ok {x : Str} {i : Nat} (h : stq c x = some i) : c.N[i]? = some x ∧ Loc c.sc x ∧ (c.fn x = true ∨ c.sc.names.lookup x = some .local) ∧ onX c i = false := by
  unfold stq at h
  split at h
  · rename_i h1 h2
    split at h
    · cases h
    · rename_i o; cases h; exact ⟨find_ok h1, .inl h2, .inr h2, by simpa using o⟩
  · rename_i h1 h2
    split at h
    · cases h
    · rename_i o
      split at h
      · rename_i h3; cases h; exact ⟨find_ok h1, .inr h2, .inl h3, by simpa using o⟩
      · cases h
  · cases h
theorem exq_ok {x : Str} {i : Nat} (h : exq c x = some i) : c.N[i]? = some x ∧ c.sc.names.lookup x = some .local ∧ c.xs = some i ∧ okN x = true := by
  unfold exq at h
  split at h
  · rename_i h1 h2
    split at h
    · rename_i o
      cases h
      rw [Bool.and_eq_true] at o
      exact ⟨find_ok h1, h2, beq_iff_eq.mp o.1, o.2⟩
    · cases h
  · cases h
/-- the exception at hand, where the scope says that there is one -/
theorem Ctx.at_ (h : Ctx P C n c X) {i : Nat} (e : c.xs = some i) : ∃ hd, Fly.hand = some hd ∧ hd.slot = i := by
  have s := h.slot
  rw [e] at s
  obtain ⟨hd, e1, e2⟩ := Option.map_eq_some_iff.mp s
  exact ⟨hd, e1, e2⟩
theorem Ctx.gl' (h : Ctx P C n c X) {x : Str} (g : isGl c x = true) : Gl X x := by
  unfold Gl Env.kindOf
  rw [h.sc]
  exact beq_iff_eq.mp g
theorem okN_ok {x : Str} (h : okN x = true) : (x == ("__debug__" : Str)) = false ∧ (x == ("__classdict__" : Str)) = false ∧ x ≠ "__name__" := by
  simp only [okN, Bool.and_eq_true, Bool.not_eq_true'] at h
  refine ⟨h.1.1, h.1.2, fun e => ?_⟩
  have := h.2
  rw [e] at this; exact absurd this (by decide)
theorem ite_some {α : Type} {p : Prop} [Decidable p] {a b : α} {o : Option α} (h : (if p then some a else o) = some b) : (p ∧ a = b) ∨ o = some b := by
  split at h
  · rename_i hp; cases h; exact .inl ⟨hp, rfl⟩
  · exact .inr h
theorem trBi_ok {x : Str} {b : Bi} (h : trBi x = some b) : bootBuiltins x = some (biF b) := by
  unfold trBi at h
  repeat (rcases ite_some h with ⟨rfl, rfl⟩ | h; · decide +kernel)
  cases h
/-! ### lists of expressions -/
theorem es_len (G : Str → Option D) : ∀ (es : List E) (ρ : Env) (S : Store) (ds : List D) (S1 : Store), evEs C G (esOf es) ρ S = .ok ds S1 → ds.length = es.length
  | [], ρ, S, ds, S1, h => by simp only [esOf, evEs] at h; cases h; rfl
  | e :: es, ρ, S, ds, S1, h => by
    simp only [esOf, evEs] at h
    cases q : evE C G e ρ S with
    | ok d S2 =>
      rw [q] at h
      simp only [R.bind_ok] at h
      cases q2 : evEs C G (esOf es) ρ S2 with
      | ok dr S3 =>
        rw [q2] at h
        simp only [R.bind_ok] at h
        cases h
        simp [es_len G es ρ S2 dr _ q2]
      | _ => rw [q2] at h; cases h
    | _ => rw [q] at h; cases h
theorem es_ok {f : Expr → E} (h : ∀ e, PE X e (RE X (evE C P.gl (f e)))) : ∀ (es : List Expr), noStar es = true → PA X es (RA X (evEs C P.gl (esOf (es.map f))))
  | [], _ => by simp only [List.map_nil, esOf]; exact a_nil.cv fun σ H Q ⟨ρ, S, β, er, sr, g⟩ => ⟨ρ, S, β, er, sr, by simpa only [evEs] using g⟩
  | e :: es, ns => by
    simp only [noStar, List.all_cons, Bool.and_eq_true, Bool.not_eq_true'] at ns
    have ih := es_ok h es (by simpa [noStar] using ns.2)
    simp only [List.map_cons, esOf]
    exact (a_cons (h e) ih ns.1).cv fun σ H Q ⟨ρ, S, β, er, sr, g⟩ => ⟨ρ, S, β, er, sr, by simpa only [evEs] using g⟩
def Snd (P : Pr) (C : Str → List D → Store → R D) (X : Cx) (e : Expr) (e' : E) : Prop := PE X e (RE X (evE C P.gl e')) ∧ PT X e (RT X (tst (evE C P.gl e')))
theorem Snd.pe {e : Expr} {e' : E} (h : Snd P C X e e') : PE X e (RE X (evE C P.gl e')) := h.1
theorem snd_never {e : Expr} : Snd P C X e .never := by
  unfold Snd
  have e1 : evE C P.gl .never = fun _ _ => .stuck := by funext ρ S; simp only [evE]
  rw [e1]
  exact ⟨g_never, t_never⟩
/-- from a rule about an equal reckoning -/
theorem snd_of {e : Expr} {e' : E} {r : Env → Store → R D} (h : PE X e (RE X r)) (he : ∀ whole, isTrue e X.env whole = (do let v ← whole; standAt e.pos; holding [v] (truthy v))) (q : evE C P.gl e' = r) : Snd P C X e e' := by
  unfold Snd
  rw [q]
  exact ⟨h, t_gen h he⟩
theorem snd_eq {e : Expr} {e' : E} {r : Env → Store → R D} (h : PE X e (RE X r)) (t : PT X e (RT X (tst r))) (q : evE C P.gl e' = r) : Snd P C X e e' := by
  unfold Snd
  rw [q]
  exact ⟨h, t⟩
theorem snd_const (k : Const) (i : Nat) (pos : Pos) : Snd P C X (.Constant k i pos) (trK k) := by
  cases k with
  | none => exact snd_of (g_con pe_non fun _ _ => non_rep) (fun _ => rfl) (by funext ρ S; simp only [trK, evE])
  | bool b => exact snd_of (g_con pe_bl fun _ _ => bl_rep b) (fun _ => rfl) (by funext ρ S; simp only [trK, evE])
  | int j => exact snd_of (g_con pe_int fun _ _ => int_rep j) (fun _ => rfl) (by funext ρ S; simp only [trK, evE])
  | str s =>
    simp only [trK]
    by_cases z : s.length ≤ sizeLine
    · rw [if_pos z]; exact snd_of (g_con pe_str fun _ _ => str_rep z) (fun _ => rfl) (by funext ρ S; simp only [evE])
    · rw [if_neg z]; exact snd_never
  | _ => exact snd_never
theorem snd_name (h : Ctx P C n c X) (x : Str) (pos : Pos) : Snd P C X (.Name x pos) (trN P c x) := by
  unfold trN
  by_cases o : okN x = true
  · rw [if_pos o]
    obtain ⟨o1, o2, o3⟩ := okN_ok o
    split
    · rename_i i e
      obtain ⟨h1, h2, o⟩ := plc_ok e
      exact snd_of (g_var (h.off o) (by rw [h.hN]; exact h1) (by rw [h.sc]; exact h2) o1 o2) (fun _ => rfl) (by funext ρ S; simp only [evE])
    · split
      · rename_i c1
        rw [Bool.and_eq_true] at c1
        obtain ⟨d, hd⟩ := Option.isSome_iff_exists.mp c1.2
        obtain ⟨u, v, h1, h2, h3⟩ := h.gl x d hd
        exact snd_of (g_glob (h.gl' c1.1) h1 h2 h3 o1 hd) (fun _ => rfl) (by funext ρ S; simp only [evE])
      · exact snd_never
  · rw [if_neg o]; exact snd_never
theorem bop_ok {o : Operator} {o' : BOp} (h : trBop o = some o') : o = opOf o' := by
  cases o <;> simp [trBop] at h <;> subst h <;> rfl
theorem cop_ok2 (o : COp) : trCop (copOf o) = o := by cases o <;> rfl
theorem cop_ok (o : CmpOp) : copOf (trCop o) = o := by cases o <;> rfl
theorem mark_ok {b : Expr} (o : CmpOp) (h : isSet b = false) : behindInMarks o b = false := by
  cases b <;> first | rfl | (simp [isSet] at h)
theorem snd_cmp (h : Ctx P C n c X) {f : Expr → E} (ih : ∀ e, Snd P C X e (f e)) (a : Expr) (ops : List CmpOp) (bs : List Expr) (pos : Pos) : Snd P C X (.Compare a ops bs pos) (trCmp f a ops bs) := by
  unfold trCmp
  split
  · rename_i o b
    obtain ⟨o, rfl⟩ : ∃ o', o = copOf o' := ⟨trCop o, (cop_ok o).symm⟩
    rw [cop_ok2]
    by_cases s : isSet b = true
    · rw [if_pos s]; exact snd_never
    · rw [if_neg s]
      have m := mark_ok (copOf o) (by simpa using s)
      have q : evE C P.gl (.cmp o (f a) (f b)) = fun ρ S => (evE C P.gl (f a) ρ S).bind fun x S1 => (evE C P.gl (f b) ρ S1).bind fun y S2 => cmpD o x y S2 := by funext ρ S; simp only [evE]
      exact snd_eq (g_cmp h.u65 (ih a).1 (ih b).1 m) (t_cmp h.u65 (ih a).1 (ih b).1 m) q
  · rename_i o p b d
    obtain ⟨o, rfl⟩ : ∃ o', o = copOf o' := ⟨trCop o, (cop_ok o).symm⟩
    obtain ⟨p, rfl⟩ : ∃ o', p = copOf o' := ⟨trCop p, (cop_ok p).symm⟩
    rw [cop_ok2, cop_ok2]
    by_cases s : (isSet b || isSet d) = true
    · rw [if_pos s]; exact snd_never
    · rw [if_neg s]
      rw [Bool.not_eq_true, Bool.or_eq_false_iff] at s
      have m : lastMarks [copOf o, copOf p] [b, d] = false := mark_ok (copOf p) s.2
      have q : evE C P.gl (.cmp2 o p (f a) (f b) (f d)) = fun ρ S => (evE C P.gl (f a) ρ S).bind fun x S1 => (evE C P.gl (f b) ρ S1).bind fun y S2 => (give S2 (cmpB o x y S2)).bind fun r S3 => if r then (evE C P.gl (f d) ρ S3).bind fun z S4 => cmpD p y z S4 else .ok (.bl false) S3 := by funext ρ S; simp only [evE]
      exact snd_eq (g_cmp2 h.u65 (ih a).1 (ih b).1 (ih d).1 m) (t_cmp2 h.u65 (ih a).1 (ih b).1 (ih d).1 m) q
  · exact snd_never
theorem snd_bool {f : Expr → E} (ih : ∀ e, Snd P C X e (f e)) (o : BoolOp) (pos : Pos) : ∀ (es : List Expr), es ≠ [] → PE X (.BoolOp o es pos) (RE X (evE C P.gl (trBool f o es))) ∧ PW X (.BoolOp o es pos) (RT X (tst (evE C P.gl (trBool f o es))))
  | [], h => absurd rfl h
  | [e], _ => by
    simp only [trBool]
    exact ⟨pe_one (ih e).1, w_one (ih e).2⟩
  | e :: b :: es, _ => by
    obtain ⟨h1, h2⟩ := snd_bool ih o pos (b :: es) (by simp)
    cases o with
    | And =>
      have q : evE C P.gl (trBool f .And (e :: b :: es)) = fun ρ S => (evE C P.gl (f e) ρ S).bind fun x S1 => (condS S1 x).bind fun c S2 => if c then evE C P.gl (trBool f .And (b :: es)) ρ S2 else .ok x S2 := by funext ρ S; simp only [trBool, evE]
      rw [q]
      exact ⟨g_and (ih e).1 h1, w_and (ih e).2 h2⟩
    | Or =>
      have q : evE C P.gl (trBool f .Or (e :: b :: es)) = fun ρ S => (evE C P.gl (f e) ρ S).bind fun x S1 => (condS S1 x).bind fun c S2 => if c then .ok x S2 else evE C P.gl (trBool f .Or (b :: es)) ρ S2 := by funext ρ S; simp only [trBool, evE]
      rw [q]
      exact ⟨g_or (ih e).1 h1, w_or (ih e).2 h2⟩
theorem o_ok {f : Expr → E} (ih : ∀ e, Snd P C X e (f e)) (o : Option Expr) : PO X o (RO X (evO C P.gl (trO f o))) := by
  cases o with
  | none =>
    have q : evO C P.gl (trO f none) = fun _ S => .ok none S := by funext ρ S; simp only [trO, evO]
    rw [q]; exact o_none
  | some e =>
    have q : evO C P.gl (trO f (some e)) = fun ρ S => (evE C P.gl (f e) ρ S).bind fun d S1 => (give S1 (asI d)).bind fun i S2 => .ok (some i) S2 := by funext ρ S; simp only [trO, evO]
    rw [q]; exact o_some (ih e).1
theorem plan_len {ps ks : List Str} {n : Nat} {pl : List Nat} (h : kwPlan ps n ks = some pl) : pl.length = ps.length := by
  unfold kwPlan at h
  split at h
  · rename_i e
    obtain ⟨l, e1, rfl⟩ := Option.map_eq_some_iff.mp h
    rw [List.length_append, List.length_range, mapM_len e1, List.length_drop]
    omega
  · cases h
theorem snd_sub (hc : Ctx P C n c X) {f : Expr → E} (ih : ∀ e, Snd P C X e (f e)) (a i : Expr) (pos : Pos) : Snd P C X (.Subscript a i pos) (trSub P f a i pos) := by
  unfold trSub
  split
  · rename_i lo hi p2
    exact snd_of (g_sl (m := P.mu pos) (ih a).1 (o_ok ih lo) (o_ok ih hi)) (fun _ => rfl) (by funext ρ S; simp only [evE])
  · exact snd_of (g_rev (ih a).1) (fun _ => rfl) (by funext ρ S; simp only [evE] <;> rfl)
  · exact snd_never
  · rename_i h1 h3 h2
    refine snd_of (g_ix hc.u65 (ih a).1 (ih i).1 (fun o j => ?_) (fun o j => ?_)) (fun _ => rfl) (by funext ρ S; simp only [evE])
    · cases i with
      | Slice lo hi st p => first | exact absurd rfl (h2 lo hi st p) | exact absurd rfl (h1 lo hi st p)
      | _ => rfl
    · cases i with
      | Slice lo hi st p => first | exact absurd rfl (h2 lo hi st p) | exact absurd rfl (h1 lo hi st p)
      | _ => rfl
theorem snd_call (h : Ctx P C n c X) (hc : c.hot = false) {f : Expr → E} (ih : ∀ e, Snd P C X e (f e)) (g : Expr) (as : List Expr) (kws : List Keyword) (pos : Pos) : Snd P C X (.Call g as kws pos) (trCall P c f g as kws pos) := by
  unfold trCall
  by_cases ns : noStar as = true
  · rw [if_pos ns]
    have pa := es_ok (P := P) (fun e => (ih e).1) as ns
    split
    · rename_i x p
      split
      · rename_i c1
        rw [Bool.and_eq_true] at c1
        have hg := h.gl' c1.1
        obtain ⟨o1, o2, o3⟩ := okN_ok c1.2
        split
        · rename_i ps e1
          split
          · rename_i hl
            obtain ⟨fa, fd, hm, hk, hb, _, F⟩ := h.fns x ps e1
            have q : evE C P.gl (.call x (esOf (as.map f))) = fun ρ S => (evEs C P.gl (esOf (as.map f)) ρ S).bind fun ds S1 => C x ds S1 := by funext ρ S; simp only [evE]
            cases as with
            | nil =>
              refine snd_of (g_call0 F (h.r0 hc) h.out hg hm hk hb hl o1) (fun _ => rfl) ?_
              rw [q]; funext ρ S; simp only [List.map_nil, esOf, evEs]
            | cons a as =>
              refine snd_of (g_call F (h.r0 hc) h.out hg hm hk hb pa ns hl (by simp) (fun ρ S ds S1 e => ?_) o1) (fun _ => rfl) q
              have := es_len P.gl _ ρ S ds S1 e
              rw [List.length_map] at this; exact this
          · exact snd_never
        · rename_i ps k0 kr e1
          split
          · rename_i ks e2
            split
            · rename_i e3
              split
              · rename_i pl e4
                obtain ⟨fa, fd, hm, hk, hb, hkb, F⟩ := h.fns x ps e1
                have q : evE C P.gl (.callk x (esOf (as.map f)) pl (esOf ((k0 :: kr).map fun k => f k.value))) = fun ρ S => (evEs C P.gl (esOf (as.map f)) ρ S).bind fun ds S1 => (evEs C P.gl (esOf ((k0 :: kr).map fun k => f k.value)) ρ S1).bind fun ws S2 => (give S2 (pl.mapM fun i => (ds ++ ws)[i]?)).bind fun us S3 => C x us S3 := by funext ρ S; simp only [evE]
                refine snd_of (g_kw F (h.r0 hc) h.out hg hm hk (hkb _ _ _ e3 e4) pa (ks_ok (fun e => (ih e).1) (k0 :: kr)) ns e2 (plan_len e4) o1 (fun ρ S ds S1 e => ?_) (fun ρ S ds S1 e => ?_) fun e => ?_) (fun _ => rfl) q
                · have := es_len P.gl _ ρ S ds S1 e
                  rw [List.length_map] at this; exact this
                · have := es_len P.gl _ ρ S ds S1 e
                  rw [List.length_map] at this; rw [this, kw_len e2]
                · subst e
                  intro ρ S
                  simp only [List.map_nil, esOf, evEs]
              · exact snd_never
            · exact snd_never
          · exact snd_never
        · rename_i e1
          split
          · rename_i hb
            have hm := h.bl x hb
            split
            · rename_i ex
              subst ex
              split
              · rename_i a ts k2 p2
                have n2 : isStar a = false := by
                  simp only [noStar, List.all_cons, Bool.and_eq_true, Bool.not_eq_true'] at ns; exact ns.1
                split
                · rename_i tys et
                  split
                  · exact snd_never
                  · rename_i ne
                    obtain ⟨_, pt⟩ := tys_ok h.sc h.bl et
                    refine snd_of (g_isinT hg hm (ih a).1 pt (fun q => ne (.inl (by rw [q]; rfl))) ?_ n2) (fun _ => rfl) (by funext ρ S; simp only [evE])
                    have h100 : ¬ 100 < tys.length := fun q => ne (.inr q)
                    exact Nat.le_trans (Nat.le_of_not_lt h100) (by decide)
                · exact snd_never
              · rename_i a t nt
                split
                · rename_i ty et
                  exact snd_of (g_isin1 hg hm (ih a).1 (tyName_ok h.sc h.bl et) ns) (fun _ => rfl) (by funext ρ S; simp only [evE])
                · exact snd_never
              · exact snd_never
            · split
              · rename_i b eb
                split
                · exact snd_never
                · rename_i ne
                  cases as with
                  | nil => exact absurd rfl ne
                  | cons a as => exact snd_of (g_bi (m := P.mu pos) (h.calm hc) hg hm (trBi_ok eb) pa ns o3 o1) (fun _ => rfl) (by funext ρ S; simp only [evE])
              · exact snd_never
          · split
            · rename_i np e2
              split
              · rename_i c2
                have F := h.mks x np e2
                rw [← c2.1] at F
                exact snd_of (g_mk F (h.room hc) h.out hg pa ns c2.2 (fun ρ S ds S1 e => by have := es_len P.gl _ ρ S ds S1 e; rw [List.length_map] at this; exact this) o1) (fun _ => rfl) (by funext ρ S; simp only [evE] <;> rfl)
              · exact snd_never
            · exact snd_never
        · exact snd_never
      · exact snd_never
    · rename_i o m apos
      split
      · rename_i c1
        rw [Bool.and_eq_true, Bool.not_eq_true'] at c1
        split
        · rename_i t a e1
          exact snd_of (g_mt (m := P.mu pos) e1 (ih o).1 pa ns c1.1 c1.2) (fun _ => rfl) (by funext ρ S; simp only [evE, List.map_cons, List.map_nil])
        · rename_i as e1
          unfold trMth
          split
          · rename_i em
            subst em
            split
            · rename_i k
              simp only [noStar, List.all_cons, List.all_nil, Bool.and_true, Bool.not_eq_true'] at ns
              exact snd_of (g_dgt h.u65 (ih o).1 (ih k).1 c1.1 c1.2 ns) (fun _ => rfl) (by funext ρ S; simp only [evE])
            · rename_i k z
              simp only [noStar, List.all_cons, List.all_nil, Bool.and_true, Bool.and_eq_true, Bool.not_eq_true'] at ns
              exact snd_of (g_dgt2 h.u65 (ih o).1 (ih k).1 (ih z).1 c1.1 c1.2 ns.1 ns.2) (fun _ => rfl) (by funext ρ S; simp only [evE])
            · exact snd_never
          · split
            · rename_i c2
              refine snd_of (g_mth (ih o).1 pa ns c1.1 c1.2 c2.2 (fun c hc => h.mth c m _ ?_) (h.r0 hc) h.out (fun ρ S ds S1 e => ?_) fun e => ?_) (fun _ => rfl) (by funext ρ S; simp only [evE] <;> rfl)
              · exact beq_iff_eq.mp (List.all_eq_true.mp c2.1 c hc)
              · have := es_len P.gl _ ρ S ds S1 e
                rw [List.length_map] at this; exact this
              · subst e
                intro ρ S
                simp only [List.map_nil, esOf, evEs]
            · exact snd_never
        · exact snd_never
      · exact snd_never
    · exact snd_never
  · rw [if_neg ns]; exact snd_never
theorem snd_xis (h : Ctx P C n c X) (hot : c.hot = true) {x y z : Str} {xp yp zp pos : Pos} {sl : Nat} {ms : List (Str × Bool)} (ex : x = "isinstance") (g : (isGl c x && P.bl x) = true) (e1 : exq c y = some sl) (e2 : P.xi z = some ms) (g2 : (isGl c z && okN z) = true) :
    Snd P C X (.Call (.Name x xp) [.Name y yp, .Name z zp] [] pos) (.xis sl ms) := by
  subst ex
  rw [Bool.and_eq_true] at g g2
  obtain ⟨h1, h2, h3, oy⟩ := exq_ok e1
  obtain ⟨hd, eh, rfl⟩ := h.at_ h3
  obtain ⟨z1, _, z2⟩ := okN_ok g2.2
  have hg := h.gl' g.1
  have hgz := h.gl' g2.1
  have hm := h.bl _ g.2
  have F := h.xi z ms e2
  have hN := h.hN
  have hsc := h.sc
  obtain ⟨X0, oe, pn, rfl, hz, hf⟩ := h.hnd hd eh
  obtain ⟨y1, y2, _⟩ := okN_ok oy
  exact snd_of (g_xis (pn := pn) (X0 := X0) eh hz hf (by have : X0.N = c.N := hN; rw [this]; exact h1) (by have : X0.env.scope = c.sc := hsc; rw [this]; exact .inl h2) y1 y2 hg hm hgz z1 z2 F) (fun _ => rfl) (by funext ρ S; simp only [evE])
theorem snd_hot (h : Ctx P C n c X) (hot : c.hot = true) {f : Expr → E} (ih : ∀ e, Snd P C X e (f e)) (g : Expr) (as : List Expr) (kws : List Keyword) (pos : Pos) : Snd P C X (.Call g as kws pos) (trHot P c f g as kws pos) := by
  have hcall : ∀ {x : Str} {xp : Pos} {a : Expr} {as : List Expr} {ps : List Str}, P.hp x = some ps → (isGl c x && okN x && noStar (a :: as) && decide ((a :: as).length = ps.length)) = true → Snd P C X (.Call (.Name x xp) (a :: as) [] pos) (.call (hkey x) (esOf ((a :: as).map f))) := fun {x xp a as ps} e1 c1 => by
    simp only [Bool.and_eq_true, decide_eq_true_eq] at c1
    obtain ⟨⟨⟨c1, c2⟩, c3⟩, c4⟩ := c1
    obtain ⟨fa, fd, hm, hk, hb, F⟩ := h.hfn x ps e1
    have pa := es_ok (P := P) (fun e => (ih e).1) (a :: as) c3
    refine snd_of (g_callH F (L2H.RoomH.mono h.rmH (by omega)) (h.hotc hot) h.out (h.gl' c1) hm hk hb pa c3 c4 (fun ρ S ds S1 e => ?_) (okN_ok c2).1) (fun _ => rfl) (by funext ρ S; simp only [evE])
    have := es_len P.gl _ ρ S ds S1 e
    rw [List.length_map] at this; exact this
  unfold trHot
  split
  · rename_i x xp y yp z zp
    split
    · rename_i c1
      split
      · rename_i sl e1
        split
        · rename_i ms e2
          split
          · rename_i c2
            exact snd_xis h hot c1.1 c1.2 e1 e2 c2
          · exact snd_never
        · exact snd_never
      · split
        · rename_i ty et
          obtain ⟨rfl, c2⟩ := c1
          rw [Bool.and_eq_true] at c2
          exact snd_of (g_isin1 (h.gl' c2.1) (h.bl _ c2.2) (ih _).1 (tyName_ok h.sc h.bl et) rfl) (fun _ => rfl) (by funext ρ S; simp only [evE])
        · exact snd_never
    · split
      · rename_i ps e1
        split
        · rename_i c2
          refine hcall (a := .Name y yp) (as := [.Name z zp]) e1 ?_
          simp only [Bool.and_eq_true, decide_eq_true_eq] at c2 ⊢
          exact ⟨⟨c2.1, rfl⟩, c2.2⟩
        · exact snd_never
      · exact snd_never
  · split
    · rename_i ps e1
      split
      · rename_i c1
        exact hcall e1 c1
      · exact snd_never
    · exact snd_never
  · exact snd_never
theorem snd_att (h : Ctx P C n c X) {f : Expr → E} (ih : ∀ e, Snd P C X e (f e)) (a : Expr) (x : Str) (pos : Pos) : Snd P C X (.Attribute a x pos) (trAtt P c f a x) := by
  have fld : isCall0 a = false → Snd P C X (.Attribute a x pos) (.fld (f a) x (P.fl x)) := fun hb => snd_of (g_fld (ih a).1 hb (h.fld x)) (fun _ => rfl) (by funext ρ S; simp only [evE])
  unfold trAtt
  split
  · rename_i hot
    split
    · rename_i y yp
      split
      · rename_i sl e1
        obtain ⟨h1, h2, h3, oy⟩ := exq_ok e1
        obtain ⟨hd, eh, rfl⟩ := h.at_ h3
        have F := h.xf x
        have hN := h.hN
        have hsc := h.sc
        obtain ⟨X0, oe, pn, rfl, hz, hf⟩ := h.hnd hd eh
        obtain ⟨y1, y2, _⟩ := okN_ok oy
        exact snd_of (g_xf (pn := pn) (X0 := X0) eh hz hf (by have : X0.N = c.N := hN; rw [this]; exact h1) (by have : X0.env.scope = c.sc := hsc; rw [this]; exact .inl h2) y1 y2 F) (fun _ => rfl) (by funext ρ S; simp only [evE])
      · exact fld rfl
    · rename_i nm
      split
      · exact snd_never
      · rename_i hb
        exact fld (by simpa using hb)
  · split
    · exact snd_never
    · rename_i hb
      exact fld (by simpa using hb)
theorem snd_len (h : Ctx P C n c X) {f : Expr → E} (ih : ∀ e, Snd P C X e (f e)) (g : Expr) (as : List Expr) (kws : List Keyword) (pos : Pos) : Snd P C X (.Call g as kws pos) (trLen P c f g as kws pos) := by
  unfold trLen
  split
  · rename_i hot
    exact snd_hot h hot ih g as kws pos
  rename_i hc
  have hc : c.hot = false := by simpa using hc
  split
  · rename_i x p y p2 a q
    split
    · rename_i e
      obtain ⟨rfl, rfl⟩ := e
      split
      · rename_i c1
        simp only [Bool.and_eq_true, Bool.not_eq_true'] at c1
        obtain ⟨⟨⟨⟨g1, g2⟩, b1⟩, b2⟩, ns⟩ := c1
        exact snd_of (g_lset (h.calm hc) h.u65 (h.gl' g1) (h.bl _ b1) (h.gl' g2) (h.bl _ b2) (ih a).1 ns) (fun _ => rfl) (by funext ρ S; simp only [evE])
      · exact snd_never
    · exact snd_call h hc ih _ _ _ _
  · exact snd_call h hc ih _ _ _ _
end
end Pyx
end
section
namespace Pyx
open PySem L2
variable [Fly]
section
variable {P : Pr} {C : Str → List D → Store → R D} {n : Nat} {c : Sc} {X : Cx}
/-! ### targets -/
theorem trTs_len {f : Expr → E} : ∀ {k : Nat} {es : List Expr} {ts : Tgs}, trTs c f k es = some ts → ts.len = es.length
  | 0, _, _, h => by simp [trTs] at h
  | k + 1, [], ts, h => by simp only [trTs, Option.some.injEq] at h; subst h; rfl
  | k + 1, e :: es, ts, h => by
    simp only [trTs] at h
    split at h
    · rename_i t tr h1 h2
      cases h
      simp [Tgs.len, trTs_len h2]
    · cases h
mutual
theorem tg_ok (h : Ctx P C n c X) {f : Expr → E} (ih : ∀ e, Snd P C X e (f e)) : ∀ (k : Nat) (e : Expr) (t : Tg), trT c f k e = some t → PG X e (RG X t.slots (asgT C P.gl t))
  | 0, _, _, q => by simp [trT] at q
  | k + 1, e, t, q => by
    cases e with
    | Name x p =>
      simp only [trT] at q
      obtain ⟨i, e1, rfl⟩ := Option.map_eq_some_iff.mp q
      obtain ⟨h1, h2, h3, o⟩ := stq_ok e1
      have q2 : asgT C P.gl (.var i) = fun d ρ S => if i < ρ.length then .ok (ρ.set i (some d)) S else .stuck := by funext d ρ S; simp only [asgT]
      rw [q2]
      exact p_var (h.off o) (by rw [h.hN]; exact h.nd) (by rw [h.hN]; exact h1) (by rw [h.sc]; exact h2) (by rw [h.fn, h.sc]; exact h3)
    | Subscript o i p =>
      simp only [trT] at q
      split at q
      · cases q
      · rename_i ns
        cases q
        have q2 : asgT C P.gl (.sub (f o) (f i)) = fun d ρ S => (evE C P.gl (f o) ρ S).bind fun x S1 => (evE C P.gl (f i) ρ S1).bind fun y S2 => match stoD S2 x y d with
          | some S3 => .ok ρ S3
          | none => .stuck := by funext d ρ S; simp only [asgT] <;> rfl
        rw [q2]
        exact p_sub h.u65 (ih o).1 (ih i).1 (by simpa using ns)
    | Tuple es k2 p =>
      simp only [trT] at q
      split at q
      · cases q
      rename_i hc
      have hc : c.hot = false := by simpa using hc
      split at q
      · rename_i ns
        obtain ⟨ts, e1, rfl⟩ := Option.map_eq_some_iff.mp q
        have q2 : asgT C P.gl (.tup ts) = fun d ρ S => match d with
          | .tup ds => if ds.length = ts.len then asgTs C P.gl ts ds ρ S else .stuck
          | _ => .stuck := by funext d ρ S; simp only [asgT] <;> rfl
        rw [q2]
        exact p_tup (h.calm hc) (tgs_ok h ih k es ts e1 ns) ns (trTs_len e1)
      · cases q
    | _ => simp [trT] at q
theorem tgs_ok (h : Ctx P C n c X) {f : Expr → E} (ih : ∀ e, Snd P C X e (f e)) : ∀ (k : Nat) (es : List Expr) (ts : Tgs), trTs c f k es = some ts → noStar es = true → PGs X es (RGs X ts.slots (asgTs C P.gl ts))
  | 0, _, _, q, _ => by simp [trTs] at q
  | k + 1, [], ts, q, _ => by
    simp only [trTs, Option.some.injEq] at q
    subst q
    have q2 : asgTs C P.gl .nil = fun ds ρ S => match ds with
      | [] => .ok ρ S
      | _ => .stuck := by funext ds ρ S; cases ds <;> simp only [asgTs]
    rw [q2]
    exact ps_nil
  | k + 1, e :: es, ts, q, ns => by
    simp only [trTs] at q
    simp only [noStar, List.all_cons, Bool.and_eq_true, Bool.not_eq_true'] at ns
    split at q
    · rename_i t tr h1 h2
      cases q
      have q2 : asgTs C P.gl (.cons t tr) = fun ds ρ S => match ds with
        | d :: ds => (asgT C P.gl t d ρ S).bind fun ρ1 S1 => asgTs C P.gl tr ds ρ1 S1
        | [] => .stuck := by funext ds ρ S; cases ds <;> simp only [asgTs]
      rw [q2]
      exact ps_cons (tg_ok h ih k e t h1) (tgs_ok h ih k es tr h2 (by simpa [noStar] using ns.2)) ns.1
    · cases q
end
/-! ### what is walked -/
theorem folded_ok {e : Expr} (h : isSet e = false) (env : PySem.Env) (x : Value) : foldedSetIterable e env x = pure x := by
  cases e <;> first | rfl | (simp [isSet] at h)
theorem src_ok (h : Ctx P C n c X) {f : Expr → E} (ih : ∀ e, Snd P C X e (f e)) {tg e : Expr} {s : Src} (q : trSrc P c f tg e = some s) : PI X tg e (RI X (evSrc C P.gl s)) ∧ isSet e = false := by
  have val : ∀ e, isSet e = false → PI X tg e (RI X (evSrc C P.gl (.val (f e)))) ∧ isSet e = false := fun e ns => by
    have q2 : evSrc C P.gl (.val (f e)) = fun ρ S => (evE C P.gl (f e) ρ S).bind fun d S1 => give S1 (srcVal S1 d) := by funext ρ S; simp only [evSrc]
    rw [q2]
    exact ⟨i_val (ih e).1, ns⟩
  unfold trSrc at q
  split at q
  · rename_i x p as qpos
    split at q
    · rename_i c1
      simp only [Bool.and_eq_true] at c1
      obtain ⟨⟨g1, g2⟩, g3⟩ := c1
      have hg := h.gl' g1
      have hm := h.bl x g2
      split at q
      · rename_i ex
        subst ex
        split at q
        · rename_i c2
          cases q
          rw [Bool.and_eq_true, Bool.or_eq_true, beq_iff_eq, beq_iff_eq] at c2
          obtain ⟨ns, hl⟩ := c2
          have pa := es_ok (P := P) (fun e => (ih e).1) as ns
          have q2 : evSrc C P.gl (.rng (esOf (as.map f))) = fun ρ S => (evEs C P.gl (esOf (as.map f)) ρ S).bind fun ds S1 => give S1 ((srcRng ds).map fun is => (is, none)) := by funext ρ S; simp only [evSrc]
          rw [q2]
          refine ⟨?_, rfl⟩
          match as, hl, ns, pa with
          | [a], _, ns, pa =>
            simp only [noStar, List.all_cons, List.all_nil, Bool.and_true, Bool.not_eq_true'] at ns
            exact i_rng1 hg hm pa ns fun ρ S ds S1 e => by have := es_len P.gl _ ρ S ds S1 e; simpa using this
          | [a, b], _, ns, pa =>
            simp only [noStar, List.all_cons, List.all_nil, Bool.and_true, Bool.and_eq_true, Bool.not_eq_true'] at ns
            exact i_rng2 hg hm pa ns.1 ns.2 fun ρ S ds S1 e => by have := es_len P.gl _ ρ S ds S1 e; simpa using this
        · cases q
      · split at q
        · rename_i ex
          subst ex
          split at q
          · rename_i a elts k tp
            split at q
            · rename_i ns
              cases q
              have q2 : evSrc C P.gl (.enum (f a)) = fun ρ S => (evE C P.gl (f a) ρ S).bind fun d S1 => give S1 (srcEnum S1 d) := by funext ρ S; simp only [evSrc]
              rw [q2]
              simp only [noStar, List.all_cons, List.all_nil, Bool.and_true, Bool.not_eq_true'] at ns
              exact ⟨i_enumA hg hm (ih a).1 ns, rfl⟩
            · cases q
          · cases q
        · split at q
          · rename_i ex
            subst ex
            split at q
            · rename_i a b elts k tp
              split at q
              · rename_i ns
                cases q
                have q2 : evSrc C P.gl (.zip (f a) (f b)) = fun ρ S => (evE C P.gl (f a) ρ S).bind fun d S1 => (evE C P.gl (f b) ρ S1).bind fun e S2 => give S2 (zipSrc d e) := by funext ρ S; simp only [evSrc]
                rw [q2]
                simp only [noStar, List.all_cons, List.all_nil, Bool.and_true, Bool.and_eq_true, Bool.not_eq_true'] at ns
                exact ⟨i_zipB hg hm (ih a).1 (ih b).1 ns.1 ns.2, rfl⟩
              · cases q
            · cases q
          · split at q
            · cases q
            · cases q
              exact val _ rfl
    · cases q
      exact val _ rfl
  · cases q
  · rename_i h1 h2
    cases q
    exact val e (by cases e <;> first | rfl | (rename_i a b c; exact absurd rfl (h2 a b c)))
theorem src_set {f : Expr → E} {tg e : Expr} {s : Src} (q : trSrc P c f tg e = some s) : isSet e = false := by
  cases e with
  | Set es k p => simp [trSrc] at q
  | _ => rfl
/-! ### comprehensions -/
theorem cs_ok {X : Cx} {f : Expr → E} (ih : ∀ e, Snd P C X e (f e)) (ifs : List Expr) (l : ifs.length ≤ 1) : PTs X ifs (RT X (evCs C P.gl (esOf (ifs.map f)))) := by
  match ifs, l with
  | [], _ =>
    have q : evCs C P.gl (esOf ([].map f)) = fun _ S => .ok true S := by funext ρ S; simp only [List.map_nil, esOf, evCs]
    rw [q]
    exact ⟨fun pins s σ H Q I ⟨ρ, S, β, er, sr, g⟩ => pts_nil.run pins s σ H Q I (Go.same g rfl sr)⟩
  | [e], _ =>
    refine ⟨fun pins s σ H Q I ⟨ρ, S, β, er, sr, g⟩ => (pts_one (ih e).2).run pins s σ H Q I ⟨ρ, S, β, er, sr, ?_⟩⟩
    have q : evCs C P.gl (esOf ([e].map f)) ρ S = tst (evE C P.gl (f e)) ρ S := by
      simp only [List.map_cons, List.map_nil, esOf, evCs, tst]
      refine R.bind_congr fun d S1 => ?_
      cases w : condS S1 d with
      | ok b S2 => cases b <;> rfl
      | _ => rfl
    rw [← q]; exact g
theorem plain_wipe {f : Nat → Nat} : True := trivial
theorem swap_no {e : Expr} (h : isComp e = false) (t : Option Expr) (l : Nat) (env : PySem.Env) : swapsWith e t l env = pure false := by
  cases e <;> first | rfl | (simp [isComp] at h)
theorem own_blk {scope : Scope} {own : List (Str × Nat)} (h : Ctx P C n c X) (b : blkC c.N c.sc scope own = true) : BlkOk X.N X.env.scope scope own := by
  rw [h.hN, h.sc]; exact blkOk_by b
theorem _root_.L2.PTs.cv {X : Cx} {ifs : List Expr} {t t' : TT} (h : PTs X ifs t) (c : ∀ σ H Q, t' σ H Q → t σ H Q) : PTs X ifs t' := ⟨fun pins s σ H Q I w => h.run pins s σ H Q I (c σ H Q w)⟩
/-- a comprehension's parts -/
theorem comp1_ok (h : Ctx P C n c X) (hc : c.hot = false) {f : Sc → Expr → E} (ih : ∀ (F : Fly) (c : Sc) (X : Cx), @Ctx F P C n c X → ∀ e, @Snd F P C X e (f c e)) {k : Nat} {elt tg iter : Expr} {ifs : List Expr} {scope : Scope} {pos : Pos} {own : List (Str × Nat)} {s : Src} {t : Tg}
    (b : blkC c.N c.sc scope own = true) (l : ifs.length ≤ 1) (e1 : trSrc P c (f c) tg iter = some s) (e2 : trT (inner c scope) (f (inner c scope)) k tg = some t) (sl : ∀ i ∈ t.slots, i ∈ own.map (·.2)) (m : Bool) :
    (∀ {g : TE}, (PE X (.ListComp elt [⟨tg, iter, ifs, 0⟩] scope pos) g) → True) ∧
    PE X (.ListComp elt [⟨tg, iter, ifs, 0⟩] scope pos) (RE X (evE C P.gl (.comp m (own.map (·.2)) (f (inner c scope) elt) t s (esOf (ifs.map (f (inner c scope))))))) ∧
    (∀ {i : Nat} {y : Str} {py spos : Pos}, c.N[i]? = some y → c.sc.names.lookup y = some .local → swapsWith (.ListComp elt [⟨tg, iter, ifs, 0⟩] scope pos) (some (.Name y py)) spos.line X.env = pure true →
      PS X (.Assign [.Name y py] (.ListComp elt [⟨tg, iter, ifs, 0⟩] scope pos) spos) (RS X fun ρ S => (evE C P.gl (.comp m (own.map (·.2)) (f (inner c scope) elt) t s (esOf (ifs.map (f (inner c scope))))) ρ S).bind fun d S1 => (asgT C P.gl (.var i) d ρ S1).bind fun ρ1 S2 => .ok (.nx ρ1) S2)) := by
  obtain ⟨hi, hs⟩ := src_ok h (ih _ c X h) e1
  have hN : X.N.Nodup := by rw [h.hN]; exact h.nd
  have ok := own_blk h b
  have hk := ok.kind
  have q : evE C P.gl (.comp m (own.map (·.2)) (f (inner c scope) elt) t s (esOf (ifs.map (f (inner c scope))))) = fun ρ S => (evSrc C P.gl s ρ S).bind fun p S1 => (compGo p.2 (turnC (asgT C P.gl t) (evCs C P.gl (esOf (ifs.map (f (inner c scope))))) (evE C P.gl (f (inner c scope) elt)) (wipeE ρ (own.map (·.2)))) p.1 S1).noX.bind (mkL m) := by
    funext ρ S; simp only [evE]; rfl
  have cv : ∀ σ H Q, RE X (evE C P.gl (.comp m (own.map (·.2)) (f (inner c scope) elt) t s (esOf (ifs.map (f (inner c scope)))))) σ H Q →
      tLc (RI X (evSrc C P.gl s)) (@RG never X t.slots (asgT C P.gl t)) (RgN X.K Is (evCs C P.gl (esOf (ifs.map (f (inner c scope)))))) (RgN X.K (Rep X.K) (evE C P.gl (f (inner c scope) elt))) (own.map (·.2)) σ H Q := fun σ H Q w => by
    rw [q] at w
    exact lc_go (m := m) sl (fun v σ H Q ⟨d, ρ, S, β, r, er, sr, g⟩ => ⟨d, ρ, S, β, r, er, sr, Go.toE g⟩) (h.h0 hc) w
  have hg : ∀ (s : Shared) (H : Hp) (L : Addr) (cl : List (Str × Addr)) (fp : List Addr), PG (X.blk s H scope (compEnvC scope cl L X.env) fp) tg (@RG never X t.slots (asgT C P.gl t)) := fun s H L cl fp => @tg_ok never _ _ _ _ _ (h.inner hc scope s H L cl fp hk) _ (ih never _ _ (h.inner hc scope s H L cl fp hk)) k tg t e2
  have ht : ∀ (s : Shared) (H : Hp) (L : Addr) (cl : List (Str × Addr)) (fp : List Addr), PTs (X.blk s H scope (compEnvC scope cl L X.env) fp) ifs (RgN X.K Is (evCs C P.gl (esOf (ifs.map (f (inner c scope)))))) := fun s H L cl fp => (@cs_ok never _ _ _ _ (ih never _ _ (h.inner hc scope s H L cl fp hk)) ifs l).cv fun σ H Q w => rgn never rfl w
  have he : ∀ (s : Shared) (H : Hp) (L : Addr) (cl : List (Str × Addr)) (fp : List Addr), PE (X.blk s H scope (compEnvC scope cl L X.env) fp) elt (RgN X.K (Rep X.K) (evE C P.gl (f (inner c scope) elt))) := fun s H L cl fp => (ih never _ _ (h.inner hc scope s H L cl fp hk) elt).1.cv fun σ H Q w => rgn never rfl w
  have hf : ∀ x, foldedSetIterable iter X.env x = pure x := folded_ok hs X.env
  refine ⟨fun _ => trivial, (pe_lc (h.calm hc) hN hi ok hg ht he hf).cv cv, fun {i y py spos} hy hl hsw => ?_⟩
  refine (ps_setLc (h.calm hc) hN (by rw [h.hN]; exact hy) (by rw [h.sc]; exact hl) hsw hi ok hg ht he hf).cv ?_
  refine asg_go (sl := [i]) cv fun v σ H Q ⟨d, ρ, S, β, rv, er, sr, g⟩ => ?_
  simp only [asgT] at g
  split at g
  · exact Go.same (t := σ.set i (some v)) g ⟨er.set rv i (off_of (h.h0 hc) i), fun vs h => wipe_in (h i (List.mem_singleton.mpr rfl))⟩ sr
  · exact g.elim
/-- a comprehension's parts, two clauses -/
theorem comp2_ok (h : Ctx P C n c X) (hc : c.hot = false) {f : Sc → Expr → E} (ih : ∀ (F : Fly) (c : Sc) (X : Cx), @Ctx F P C n c X → ∀ e, @Snd F P C X e (f c e)) {k : Nat} {elt tg iter tg1 iter1 : Expr} {ifs ifs1 : List Expr} {scope : Scope} {pos : Pos} {own : List (Str × Nat)} {s s1 : Src} {t t1 : Tg}
    (b : blkC c.N c.sc scope own = true) (l : ifs.length ≤ 1) (l1 : ifs1.length ≤ 1) (e1 : trSrc P c (f c) tg iter = some s) (e2 : trT (inner c scope) (f (inner c scope)) k tg = some t) (sl : ∀ i ∈ t.slots, i ∈ own.map (·.2))
    (e3 : trSrc P (inner c scope) (f (inner c scope)) tg1 iter1 = some s1) (e4 : trT (inner c scope) (f (inner c scope)) k tg1 = some t1) (sl1 : ∀ i ∈ t1.slots, i ∈ own.map (·.2)) (m : Bool) :
    PE X (.ListComp elt [⟨tg, iter, ifs, 0⟩, ⟨tg1, iter1, ifs1, 0⟩] scope pos) (RE X (evE C P.gl (.comp2 m (own.map (·.2)) (f (inner c scope) elt) t s (esOf (ifs.map (f (inner c scope)))) t1.slots t1 s1 (esOf (ifs1.map (f (inner c scope))))))) ∧
    (∀ {i : Nat} {y : Str} {py spos : Pos}, c.N[i]? = some y → c.sc.names.lookup y = some .local → swapsWith (.ListComp elt [⟨tg, iter, ifs, 0⟩, ⟨tg1, iter1, ifs1, 0⟩] scope pos) (some (.Name y py)) spos.line X.env = pure true →
      PS X (.Assign [.Name y py] (.ListComp elt [⟨tg, iter, ifs, 0⟩, ⟨tg1, iter1, ifs1, 0⟩] scope pos) spos) (RS X fun ρ S => (evE C P.gl (.comp2 m (own.map (·.2)) (f (inner c scope) elt) t s (esOf (ifs.map (f (inner c scope)))) t1.slots t1 s1 (esOf (ifs1.map (f (inner c scope))))) ρ S).bind fun d S1 => (asgT C P.gl (.var i) d ρ S1).bind fun ρ1 S2 => .ok (.nx ρ1) S2)) := by
  obtain ⟨hi, hs⟩ := src_ok h (ih _ c X h) e1
  have hN : X.N.Nodup := by rw [h.hN]; exact h.nd
  have ok := own_blk h b
  have hk := ok.kind
  have ctx := fun (s : Shared) (H : Hp) (L : Addr) (cl : List (Str × Addr)) (fp : List Addr) => h.inner hc scope s H L cl fp hk
  have q : evE C P.gl (.comp2 m (own.map (·.2)) (f (inner c scope) elt) t s (esOf (ifs.map (f (inner c scope)))) t1.slots t1 s1 (esOf (ifs1.map (f (inner c scope))))) = fun ρ S => (evSrc C P.gl s ρ S).bind fun p S1 => if p.1.length ≤ 1000 then
      (compGo p.2 (turn2 (asgT C P.gl t) (evCs C P.gl (esOf (ifs.map (f (inner c scope))))) (evSrc C P.gl s1) (fun ρ1 => turnC (asgT C P.gl t1) (evCs C P.gl (esOf (ifs1.map (f (inner c scope))))) (evE C P.gl (f (inner c scope) elt)) (wipeE ρ1 t1.slots)) (wipeE ρ (own.map (·.2)))) p.1 S1).noX.bind (mkL m) else .stuck := by
    funext ρ S; simp only [evE]; rfl
  have cv : ∀ σ H Q, RE X (evE C P.gl (.comp2 m (own.map (·.2)) (f (inner c scope) elt) t s (esOf (ifs.map (f (inner c scope)))) t1.slots t1 s1 (esOf (ifs1.map (f (inner c scope)))))) σ H Q →
      tLc2 (RI X (evSrc C P.gl s)) (@RG never X t.slots (asgT C P.gl t)) (RgN X.K Is (evCs C P.gl (esOf (ifs.map (f (inner c scope)))))) (RgN X.K (Wk X.K) (evSrc C P.gl s1)) (@RG never X t1.slots (asgT C P.gl t1)) (RgN X.K Is (evCs C P.gl (esOf (ifs1.map (f (inner c scope)))))) (RgN X.K (Rep X.K) (evE C P.gl (f (inner c scope) elt))) (own.map (·.2)) t1.slots σ H Q := fun σ H Q w => by
    rw [q] at w
    exact lc2_go (m := m) sl (fun _ h => h) (fun v σ H Q ⟨d, ρ, S, β, r, er, sr, g⟩ => ⟨d, ρ, S, β, r, er, sr, Go.toE g⟩) (fun v σ H Q ⟨d, ρ, S, β, r, er, sr, g⟩ => ⟨d, ρ, S, β, r, er, sr, Go.toE g⟩) (h.h0 hc) w
  have hg : ∀ (s : Shared) (H : Hp) (L : Addr) (cl : List (Str × Addr)) (fp : List Addr), PG (X.blk s H scope (compEnvC scope cl L X.env) fp) tg (@RG never X t.slots (asgT C P.gl t)) := fun s H L cl fp => @tg_ok never _ _ _ _ _ (ctx s H L cl fp) _ (ih never _ _ (ctx s H L cl fp)) k tg t e2
  have hg1 : ∀ (s : Shared) (H : Hp) (L : Addr) (cl : List (Str × Addr)) (fp : List Addr), PG (X.blk s H scope (compEnvC scope cl L X.env) fp) tg1 (@RG never X t1.slots (asgT C P.gl t1)) := fun s H L cl fp => @tg_ok never _ _ _ _ _ (ctx s H L cl fp) _ (ih never _ _ (ctx s H L cl fp)) k tg1 t1 e4
  have ht : ∀ (s : Shared) (H : Hp) (L : Addr) (cl : List (Str × Addr)) (fp : List Addr), PTs (X.blk s H scope (compEnvC scope cl L X.env) fp) ifs (RgN X.K Is (evCs C P.gl (esOf (ifs.map (f (inner c scope)))))) := fun s H L cl fp => (@cs_ok never _ _ _ _ (ih never _ _ (ctx s H L cl fp)) ifs l).cv fun σ H Q w => rgn never rfl w
  have ht1 : ∀ (s : Shared) (H : Hp) (L : Addr) (cl : List (Str × Addr)) (fp : List Addr), PTs (X.blk s H scope (compEnvC scope cl L X.env) fp) ifs1 (RgN X.K Is (evCs C P.gl (esOf (ifs1.map (f (inner c scope)))))) := fun s H L cl fp => (@cs_ok never _ _ _ _ (ih never _ _ (ctx s H L cl fp)) ifs1 l1).cv fun σ H Q w => rgn never rfl w
  have hi1 : ∀ (s : Shared) (H : Hp) (L : Addr) (cl : List (Str × Addr)) (fp : List Addr), PI (X.blk s H scope (compEnvC scope cl L X.env) fp) tg1 iter1 (RgN X.K (Wk X.K) (evSrc C P.gl s1)) := fun s H L cl fp => (@src_ok never _ _ _ _ _ (ctx s H L cl fp) _ (ih never _ _ (ctx s H L cl fp)) _ _ _ e3).1.cv fun σ H Q w => rgn never rfl w
  have he : ∀ (s : Shared) (H : Hp) (L : Addr) (cl : List (Str × Addr)) (fp : List Addr), PE (X.blk s H scope (compEnvC scope cl L X.env) fp) elt (RgN X.K (Rep X.K) (evE C P.gl (f (inner c scope) elt))) := fun s H L cl fp => (ih never _ _ (ctx s H L cl fp) elt).1.cv fun σ H Q w => rgn never rfl w
  have hf : ∀ x, foldedSetIterable iter X.env x = pure x := folded_ok hs X.env
  have hs1 : isSet iter1 = false := src_set e3
  have hf1 : ∀ env x, foldedSetIterable iter1 env x = pure x := fun env x => folded_ok hs1 env x
  refine ⟨(pe_lc2 (h.calm hc) hN hi ok sl1 hg ht hi1 hg1 ht1 he hf hf1).cv cv, fun {i y py spos} hy hl hsw => ?_⟩
  refine (ps_setLc2 (h.calm hc) hN (by rw [h.hN]; exact hy) (by rw [h.sc]; exact hl) hsw hi ok sl1 hg ht hi1 hg1 ht1 he hf hf1).cv ?_
  refine asg_go (sl := [i]) cv fun v σ H Q ⟨d, ρ, S, β, rv, er, sr, g⟩ => ?_
  simp only [asgT] at g
  split at g
  · exact Go.same (t := σ.set i (some v)) g ⟨er.set rv i (off_of (h.h0 hc) i), fun vs h => wipe_in (h i (List.mem_singleton.mpr rfl))⟩ sr
  · exact g.elim
end
end Pyx
end
section
namespace Pyx
open PySem L2
variable [Fly]
section
variable {P : Pr} {C : Str → List D → Store → R D} {n : Nat} {c : Sc} {X : Cx}
theorem snd_comp (h : Ctx P C n c X) {f : Sc → Expr → E} (ih : ∀ (F : Fly) (c : Sc) (X : Cx), @Ctx F P C n c X → ∀ e, @Snd F P C X e (f c e)) (k : Nat) (elt : Expr) (gens : List Comprehension) (scope : Scope) (pos : Pos) :
    Snd P C X (.ListComp elt gens scope pos) (trComp P c f k elt gens scope pos) := by
  unfold trComp
  split
  · exact snd_never
  rename_i hc
  have hc : c.hot = false := by simpa using hc
  split
  · rename_i tg iter ifs own e0
    split
    · rename_i c1
      split
      · rename_i s t e1 e2
        split
        · rename_i c2
          rw [Bool.and_eq_true] at c2
          have sl : ∀ i ∈ t.slots, i ∈ own.map (·.2) := fun i hi => by
            have := List.all_eq_true.mp c2.2 i hi
            simpa using this
          exact snd_of (comp1_ok h hc ih (elt := elt) (pos := pos) c1.1 c1.2 e1 e2 sl (P.mu pos)).2.1 (fun _ => rfl) rfl
        · exact snd_never
      · exact snd_never
    · exact snd_never
  · rename_i tg iter ifs tg1 iter1 ifs1 own e0
    split
    · rename_i c1
      split
      · rename_i s t s1 t1 e1 e2 e3 e4
        split
        · rename_i c2
          simp only [Bool.and_eq_true] at c2
          have sl : ∀ i ∈ t.slots, i ∈ own.map (·.2) := fun i hi => by
            have := List.all_eq_true.mp c2.1.2 i hi
            simpa using this
          have sl1 : ∀ i ∈ t1.slots, i ∈ own.map (·.2) := fun i hi => by
            have := List.all_eq_true.mp c2.2 i hi
            simpa using this
          exact snd_of (comp2_ok h hc ih (elt := elt) (pos := pos) c1.1 c1.2.1 c1.2.2 e1 e2 sl e3 e4 sl1 (P.mu pos)).1 (fun _ => rfl) rfl
        · exact snd_never
      · exact snd_never
    · exact snd_never
  · exact snd_never
theorem snd_ok : ∀ (k : Nat) (F : Fly) (c : Sc) (X : Cx), @Ctx F P C n c X → ∀ e, @Snd F P C X e (trE P k c e)
  | 0, _, _, _, _, _ => snd_never
  | k + 1, F, c, X, h, e => by
    have ih := snd_ok k
    have ihc := ih F c X h
    cases e with
    | Constant v i pos => exact snd_const v i pos
    | Name x pos => exact snd_name h x pos
    | BinOp a o b pos =>
      simp only [trE]
      split
      · rename_i o' e1
        rw [bop_ok e1]
        exact snd_of (g_bin (ihc a).1 (ihc b).1) (fun _ => rfl) (by funext ρ S; simp only [evE])
      · exact snd_never
    | UnaryOp o a pos =>
      cases o with
      | USub =>
        simp only [trE]
        exact snd_of (g_neg (ihc a).1) (fun _ => rfl) (by funext ρ S; simp only [evE] <;> rfl)
      | Not =>
        simp only [trE]
        exact snd_eq (g_not (ihc a).1) (t_not (ihc a).2) (by funext ρ S; simp only [evE])
      | _ => simp only [trE]; exact snd_never
    | BoolOp o es pos =>
      simp only [trE]
      cases es with
      | nil => simp only [trBool]; exact snd_never
      | cons e es =>
        obtain ⟨h1, h2⟩ := snd_bool ihc o pos (e :: es) (by simp)
        exact ⟨h1, h2.pt⟩
    | Compare a ops bs pos => simp only [trE]; exact snd_cmp h ihc a ops bs pos
    | IfExp t a b pos =>
      simp only [trE]
      exact snd_eq (g_ite (ihc t).2 (ihc a).1 (ihc b).1) (t_ite (ihc t).2 (ihc a).2 (ihc b).2) (by funext ρ S; simp only [evE])
    | Tuple es i pos =>
      simp only [trE]
      split
      · rename_i ns
        exact snd_of (g_tup (es_ok (P := P) (fun e => (ihc e).1) es ns)) (fun _ => rfl) (by funext ρ S; simp only [evE])
      · exact snd_never
    | List es pos =>
      simp only [trE]
      split
      · rename_i ns
        exact snd_of (g_lst (m := P.mu pos) (es_ok (P := P) (fun e => (ihc e).1) es ns)) (fun _ => rfl) (by funext ρ S; simp only [evE])
      · exact snd_never
    | Subscript a i pos => simp only [trE]; exact snd_sub h ihc a i pos
    | Call g as kws pos => simp only [trE]; exact snd_len h ihc g as kws pos
    | ListComp elt gens scope pos => simp only [trE]; exact snd_comp h ih k elt gens scope pos
    | Attribute a x pos => simp only [trE]; exact snd_att h ihc a x pos
    | Dict ks vs pos =>
      simp only [trE]
      split
      · exact snd_of (g_dnew (P.dk pos)) (fun _ => rfl) (by funext ρ S; simp only [evE])
      · rename_i k v
        exact snd_of (g_dlit (P.dk pos) h.u65 (ihc k).1 (ihc v).1) (fun _ => rfl) (by funext ρ S; simp only [evE])
      · exact snd_never
    | _ => simp only [trE]; exact snd_never
/-! ### statements -/
theorem swc_ok (h : Ctx P C n c X) {e t : Expr} {b : Bool} (q : swc c e t = some b) (l : Nat) : swapsWith e (some t) l X.env = pure b := by
  unfold swc at q
  split at q
  · rename_i elt gens s p
    split at q
    · rename_i x q1
      cases q
      have hb : X.env.blockKind = .function := by unfold Env.blockKind; rw [h.sc, h.kind]; rfl
      unfold swapsWith Env.kindOf
      simp only [hb, h.sc, Expr.pos]
      congr 1
    · rename_i nt
      cases q
      unfold swapsWith
      cases t <;> first | rfl | (rename_i x q1; exact absurd rfl (nt x q1))
  · cases q
  · cases q
  · rename_i h1 h2 h3
    cases q
    cases e <;> first | rfl | (rename_i a b c d; exact absurd rfl (h1 a b c d)) | (rename_i a b c d; exact absurd rfl (h2 a b c d)) | (rename_i a b c d e; exact absurd rfl (h3 a b c d e))
theorem swp_ok (h : Ctx P C n c X) {t e : Expr} {o : Option (List Str)} (q : swp c [t] e = some o) : swappedStores [t] e X.env = pure o := by
  have hb : X.env.blockKind = .function := by unfold Env.blockKind; rw [h.sc, h.kind]; rfl
  unfold swp at q
  split at q
  · rename_i ts k1 p1 vs k2 p2 hl
    cases hl
    unfold swappedStores Env.kindOf
    simp only [hb, h.sc, bne_self_eq_false, Bool.or_false]
    by_cases c1 : (!(ts.length == 2 || ts.length == 3) || vs.length != ts.length) = true
    · rw [if_pos c1] at q ⊢
      cases q; rfl
    · rw [if_neg c1] at q ⊢
      by_cases c2 : vs.any isStar = true
      · rw [if_pos c2] at q; cases q
      · rw [if_neg c2] at q
        rw [if_neg (fun w => c2 (Eq.trans (congrArg (fun g => vs.any g) (funext fun e => by cases e <;> rfl)) w))]
        dsimp only at q
        generalize hq : List.filterMap _ ts = names at q
        generalize hg : List.filterMap _ ts = names2
        have hn : names2 = names := by
          rw [← hg, ← hq]
        subst hn
        split at q
        · rename_i c3
          cases q
          rw [if_pos c3]
        · rename_i c3
          rw [if_neg c3]
          split at q
          · rename_i c4
            cases q
            rw [if_pos c4]
          · rename_i c4
            split at q
            · cases q
            · rename_i c5
              cases q
              rw [if_neg c4, if_neg c5]
  · cases q
  · rename_i x h2 hx h1
    cases hx
    cases q
    unfold swappedStores
    split
    · rename_i ts vs heq
      split at heq
      · rename_i hx; cases hx; exact (h1 _ _ _ _ _ _ rfl rfl).elim
      · rename_i hx; cases hx; exact (h2 _ _ rfl).elim
      · cases heq
    · rfl
  · cases q
/-! ### statements -/
theorem ps_of {s : Stmt} {s' : S} {W : Nat} {r : Env → Store → R Fl} (h : PS X s (RS X r)) (q : exS C P.gl W s' = r) : PS X s (RS X (exS C P.gl W s')) := by rw [q]; exact h
theorem ps_bad {s : Stmt} {W : Nat} : PS X s (RS X (exS C P.gl W .never)) := ps_of s_never (by funext ρ S; simp only [exS])
theorem tp_get {es : List E} {ρ : Env} {S : Store} {G : Str → Option D} : evE C G (.tup (esOf es)) ρ S = (evEs C G (esOf es) ρ S).bind mkT := by simp only [evE]
theorem comp_of (h : Ctx P C n c X) {W k : Nat} {t : Expr} {elt : Expr} {gens : List Comprehension} {scope : Scope} {pos spos : Pos} {t' : Tg} (e1 : trT c (trE P k c) k t = some t') (e3 : swc c (.ListComp elt gens scope pos) t = some true) :
    PS X (.Assign [t] (.ListComp elt gens scope pos) spos) (RS X (exS C P.gl W (.asg t' (trE P k c (.ListComp elt gens scope pos))))) := by
  have sw := swc_ok h e3 spos.line
  cases t with
  | Name y py =>
    cases k with
    | zero => simp [trT] at e1
    | succ k =>
      simp only [trT] at e1
      obtain ⟨i, e4, rfl⟩ := Option.map_eq_some_iff.mp e1
      have hl : c.sc.names.lookup y = some .local := by
        simp only [swc, Option.some.injEq, Bool.and_eq_true, beq_iff_eq] at e3
        exact e3.1.1
      obtain ⟨hy, _, _, _⟩ := stq_ok e4
      simp only [trE]
      unfold trComp
      have bad : PS X (.Assign [.Name y py] (.ListComp elt gens scope pos) spos) (RS X (exS C P.gl W (.asg (.var i) .never))) := ps_of s_never (by funext ρ S; simp only [exS, evE, R.bind_stuck])
      split
      · exact bad
      rename_i hc
      have hc : c.hot = false := by simpa using hc
      split
      · rename_i tg iter ifs own e0
        split
        · rename_i c1
          split
          · rename_i s t e5 e6
            split
            · rename_i c2
              rw [Bool.and_eq_true] at c2
              have sl : ∀ i ∈ t.slots, i ∈ own.map (·.2) := fun i hi => by
                have := List.all_eq_true.mp c2.2 i hi
                simpa using this
              have := (comp1_ok h hc (fun F c X h e => snd_ok k F c X h e) (elt := elt) (pos := pos) c1.1 c1.2 e5 e6 sl (P.mu pos)).2.2 (spos := spos) (py := py) hy hl sw
              exact ps_of this (by funext ρ S; simp only [exS])
            · exact bad
          · exact bad
        · exact bad
      · rename_i tg iter ifs tg1 iter1 ifs1 own e0
        split
        · rename_i c1
          split
          · rename_i s t s1 t1 e5 e6 e7 e8
            split
            · rename_i c2
              simp only [Bool.and_eq_true] at c2
              have sl : ∀ i ∈ t.slots, i ∈ own.map (·.2) := fun i hi => by
                have := List.all_eq_true.mp c2.1.2 i hi
                simpa using this
              have sl1 : ∀ i ∈ t1.slots, i ∈ own.map (·.2) := fun i hi => by
                have := List.all_eq_true.mp c2.2 i hi
                simpa using this
              have := (comp2_ok h hc (fun F c X h e => snd_ok k F c X h e) (elt := elt) (pos := pos) c1.1 c1.2.1 c1.2.2 e5 e6 sl e7 e8 sl1 (P.mu pos)).2 (spos := spos) (py := py) hy hl sw
              exact ps_of this (by funext ρ S; simp only [exS])
            · exact bad
          · exact bad
        · exact bad
      · exact bad
  | _ => simp [swc] at e3
theorem nm_local {x : Str} {p : Pos} {l : Nat} {y : Str} (h : (if (c.sc.names.lookup x == some .local && p.line == l) = true then some x else none) = some y) : y = x ∧ c.sc.names.lookup x = some .local := by
  split at h
  · rename_i q
    cases h
    rw [Bool.and_eq_true, beq_iff_eq] at q
    exact ⟨rfl, q.1⟩
  · cases h
theorem fm2 {f : Expr → Option Str} {a b : Expr} (h : ([a, b].filterMap f).length = 2) : ∃ x y, f a = some x ∧ f b = some y ∧ [a, b].filterMap f = [x, y] := by
  cases e1 : f a <;> cases e2 : f b <;> simp [e1, e2] at h ⊢
theorem fm3 {f : Expr → Option Str} {a b d : Expr} (h : ([a, b, d].filterMap f).length = 3) : ∃ x y z, f a = some x ∧ f b = some y ∧ f d = some z ∧ [a, b, d].filterMap f = [x, y, z] := by
  cases e1 : f a <;> cases e2 : f b <;> cases e3 : f d <;> simp [e1, e2, e3] at h ⊢
theorem swp2 {x y : Str} {px py pt pt2 : Pos} {kt k2 : Nat} {a b : Expr} {names : List Str} (h : swp c [.Tuple [.Name x px, .Name y py] kt pt] (.Tuple [a, b] k2 pt2) = some (some names)) :
    names = [x, y] ∧ c.sc.names.lookup x = some .local ∧ c.sc.names.lookup y = some .local := by
  simp only [swp] at h
  split at h
  · cases h
  · split at h
    · cases h
    · split at h
      · cases h
      · rename_i c3
        split at h
        · cases h
        · split at h
          · cases h
          · cases h
            rw [Bool.not_eq_true, Bool.or_eq_false_iff, bne_eq_false_iff_eq] at c3
            obtain ⟨u, w, h1, h2, h3⟩ := fm2 c3.1
            obtain ⟨rfl, l1⟩ := nm_local h1
            obtain ⟨rfl, l2⟩ := nm_local h2
            exact ⟨h3, l1, l2⟩
theorem swp3 {x y z : Str} {px py pz pt pt2 : Pos} {kt k2 : Nat} {a b d : Expr} {names : List Str} (h : swp c [.Tuple [.Name x px, .Name y py, .Name z pz] kt pt] (.Tuple [a, b, d] k2 pt2) = some (some names)) :
    names = [x, y, z] ∧ c.sc.names.lookup x = some .local ∧ c.sc.names.lookup y = some .local ∧ c.sc.names.lookup z = some .local := by
  simp only [swp] at h
  split at h
  · cases h
  · split at h
    · cases h
    · split at h
      · cases h
      · rename_i c3
        split at h
        · cases h
        · split at h
          · cases h
          · cases h
            rw [Bool.not_eq_true, Bool.or_eq_false_iff, bne_eq_false_iff_eq] at c3
            obtain ⟨u, w, q, h1, h2, h3, h4⟩ := fm3 c3.1
            obtain ⟨rfl, l1⟩ := nm_local h1
            obtain ⟨rfl, l2⟩ := nm_local h2
            obtain ⟨rfl, l3⟩ := nm_local h3
            exact ⟨h4, l1, l2, l3⟩
theorem trE_tup (k : Nat) (es : List Expr) (i : Nat) (pos : Pos) : trE P (k + 1) c (.Tuple es i pos) = if noStar es then .tup (esOf (es.map (trE P k c))) else .never := rfl
theorem ix_ne {N : List Str} {i j : Nat} {x y : Str} (hi : N[i]? = some x) (hj : N[j]? = some y) (h : x ≠ y) : i ≠ j := fun e => by
  subst e; rw [hi] at hj; cases hj; exact h rfl
theorem par2_ok (h : Ctx P C n c X) (hc : c.hot = false) {W k : Nat} {x y : Str} {px py pt pt2 pos : Pos} {kt k2 : Nat} {a b : Expr} {names : List Str} {t' : Tg} (e1 : trT c (trE P k c) k (.Tuple [.Name x px, .Name y py] kt pt) = some t')
    (e2 : swp c [.Tuple [.Name x px, .Name y py] kt pt] (.Tuple [a, b] k2 pt2) = some (some names)) (e3 : swc c (.Tuple [a, b] k2 pt2) (.Tuple [.Name x px, .Name y py] kt pt) = some false) (hxy : x ≠ y) :
    PS X (.Assign [.Tuple [.Name x px, .Name y py] kt pt] (.Tuple [a, b] k2 pt2) pos) (RS X (exS C P.gl W (.asg t' (trE P k c (.Tuple [a, b] k2 pt2))))) := by
  obtain ⟨rfl, hx, hy⟩ := swp2 e2
  have bad : PS X (.Assign [.Tuple [.Name x px, .Name y py] kt pt] (.Tuple [a, b] k2 pt2) pos) (RS X (exS C P.gl W (.asg t' .never))) := ps_of s_never (by funext ρ S; simp only [exS, evE, R.bind_stuck])
  match k, e1 with
  | k + 4, e1 =>
    simp only [trT, trTs] at e1
    rw [if_neg (by rw [hc]; exact Bool.false_ne_true)] at e1
    split at e1
    · obtain ⟨ts, e4, rfl⟩ := Option.map_eq_some_iff.mp e1
      split at e4
      · rename_i t1 tr q1 q2
        cases e4
        obtain ⟨i, hi, rfl⟩ := Option.map_eq_some_iff.mp q1
        split at q2
        · rename_i t2 tr2 q3 q4
          cases q2
          obtain ⟨j, hj, rfl⟩ := Option.map_eq_some_iff.mp q3
          cases q4
          obtain ⟨hi, _, _, oi⟩ := stq_ok hi
          obtain ⟨hj, _, _, oj⟩ := stq_ok hj
          rw [trE_tup (k + 3)]
          split
          · rename_i ns
            have pa := es_ok (P := P) (fun e => (snd_ok (k + 3) _ c X h e).1) [a, b] ns
            refine (ps_par (h.calm hc) (by rw [h.hN]; exact h.nd) (by rw [h.hN]; exact hi) (by rw [h.hN]; exact hj) (ix_ne hi hj hxy) (by rw [h.sc]; exact hx) (by rw [h.sc]; exact hy) pa (swp_ok h e2) (swc_ok h e3 pos.line)).cv fun D σ H ⟨ρ, S, β, er, sr, g⟩ => ?_
            refine ⟨ρ, S, β, er, sr, ?_⟩
            simp only [exS, evE] at g
            rw [R.bind_assoc] at g
            cases q : evEs C P.gl (esOf ([a, b].map (trE P (k + 3) c))) ρ S with
            | stuck => rw [q] at g; exact g.elim
            | exc e S1 => rw [q] at g; exact fun b c y z => g b c y z σ
            | ok ds S1 =>
              rw [q] at g
              have l := es_len P.gl _ ρ S ds S1 q
              simp only [List.length_map, List.length_cons, List.length_nil] at l
              match ds, l with
              | [d1, d2], _ =>
                intro vs β1 H1 x1 r1 s1
                obtain ⟨v, w, rfl, rv, rw'⟩ := reps2 r1
                refine ⟨v, w, rfl, ?_⟩
                have z : [d1, d2].length ≤ sizeLine := by show 2 ≤ sizeLine; decide
                rw [R.bind_ok, show mkT [d1, d2] S1 = .ok (.tup [d1, d2]) S1 from if_pos z, R.bind_ok] at g
                simp only [asgT, Tgs.len] at g
                have g : Go X.K (RpF X.K) (FlyA X.K) β H ((asgTs C P.gl (.cons (.var i) (.cons (.var j) .nil)) [d1, d2] ρ S1).bind fun ρ1 S2 => .ok (.nx ρ1) S2) (endQ D) := g
                simp only [asgTs, asgT] at g
                by_cases h1 : i < ρ.length
                · rw [if_pos h1, R.bind_ok] at g
                  by_cases h2 : j < (ρ.set i (some d1)).length
                  · rw [if_pos h2, R.bind_ok, R.bind_ok] at g
                    exact Go.same (t := FlV.nx _) (Go.ext g x1) (((er.ext x1).set rv i (h.off oi)).set rw' j (h.off oj)) s1
                  · rw [if_neg h2] at g; exact g.elim
                · rw [if_neg h1] at g; exact g.elim
          · exact bad
        · cases q2
      · cases e4
    · cases e1
  | 3, e1 => simp [trT, trTs] at e1
  | 2, e1 => simp [trT, trTs] at e1
  | 1, e1 => simp [trT, trTs] at e1
  | 0, e1 => simp [trT] at e1
theorem par3_ok (h : Ctx P C n c X) (hc : c.hot = false) {W k : Nat} {x y z : Str} {px py pz pt pt2 pos : Pos} {kt k2 : Nat} {a b d : Expr} {names : List Str} {t' : Tg} (e1 : trT c (trE P k c) k (.Tuple [.Name x px, .Name y py, .Name z pz] kt pt) = some t')
    (e2 : swp c [.Tuple [.Name x px, .Name y py, .Name z pz] kt pt] (.Tuple [a, b, d] k2 pt2) = some (some names)) (e3 : swc c (.Tuple [a, b, d] k2 pt2) (.Tuple [.Name x px, .Name y py, .Name z pz] kt pt) = some false) (hxy : x ≠ y) (hxz : x ≠ z) (hyz : y ≠ z) :
    PS X (.Assign [.Tuple [.Name x px, .Name y py, .Name z pz] kt pt] (.Tuple [a, b, d] k2 pt2) pos) (RS X (exS C P.gl W (.asg t' (trE P k c (.Tuple [a, b, d] k2 pt2))))) := by
  obtain ⟨rfl, hx, hy, hz⟩ := swp3 e2
  have bad : PS X (.Assign [.Tuple [.Name x px, .Name y py, .Name z pz] kt pt] (.Tuple [a, b, d] k2 pt2) pos) (RS X (exS C P.gl W (.asg t' .never))) := ps_of s_never (by funext ρ S; simp only [exS, evE, R.bind_stuck])
  match k, e1 with
  | k + 5, e1 =>
    simp only [trT, trTs] at e1
    rw [if_neg (by rw [hc]; exact Bool.false_ne_true)] at e1
    split at e1
    · obtain ⟨ts, e4, rfl⟩ := Option.map_eq_some_iff.mp e1
      split at e4
      · rename_i t1 tr q1 q2
        cases e4
        obtain ⟨i, hi, rfl⟩ := Option.map_eq_some_iff.mp q1
        split at q2
        · rename_i t2 tr2 q3 q4
          cases q2
          obtain ⟨j, hj, rfl⟩ := Option.map_eq_some_iff.mp q3
          split at q4
          · rename_i t3 tr3 q5 q6
            cases q4
            obtain ⟨l, hl, rfl⟩ := Option.map_eq_some_iff.mp q5
            cases q6
            obtain ⟨hi, _, _, oi⟩ := stq_ok hi
            obtain ⟨hj, _, _, oj⟩ := stq_ok hj
            obtain ⟨hl, _, _, ol⟩ := stq_ok hl
            rw [trE_tup (k + 4)]
            split
            · rename_i ns
              have pa := es_ok (P := P) (fun e => (snd_ok (k + 4) _ c X h e).1) [a, b, d] ns
              refine (ps_par3 (h.calm hc) (by rw [h.hN]; exact h.nd) (by rw [h.hN]; exact hi) (by rw [h.hN]; exact hj) (by rw [h.hN]; exact hl) (ix_ne hi hj hxy) (ix_ne hi hl hxz) (ix_ne hj hl hyz) (by rw [h.sc]; exact hx) (by rw [h.sc]; exact hy) (by rw [h.sc]; exact hz) pa (swp_ok h e2) (swc_ok h e3 pos.line)).cv fun D σ H ⟨ρ, S, β, er, sr, g⟩ => ?_
              refine ⟨ρ, S, β, er, sr, ?_⟩
              simp only [exS, evE] at g
              rw [R.bind_assoc] at g
              cases q : evEs C P.gl (esOf ([a, b, d].map (trE P (k + 4) c))) ρ S with
              | stuck => rw [q] at g; exact g.elim
              | exc e S1 => rw [q] at g; exact fun b c y z => g b c y z σ
              | ok ds S1 =>
                rw [q] at g
                have l' := es_len P.gl _ ρ S ds S1 q
                simp only [List.length_map, List.length_cons, List.length_nil] at l'
                match ds, l' with
                | [d1, d2, d3], _ =>
                  intro vs β1 H1 x1 r1 s1
                  obtain ⟨v, vr, rfl, rv, r2⟩ := r1.uncons
                  obtain ⟨w, u, rfl, rw', ru⟩ := reps2 r2
                  refine ⟨v, w, u, rfl, ?_⟩
                  have z : [d1, d2, d3].length ≤ sizeLine := by show 3 ≤ sizeLine; decide
                  rw [R.bind_ok, show mkT [d1, d2, d3] S1 = .ok (.tup [d1, d2, d3]) S1 from if_pos z, R.bind_ok] at g
                  simp only [asgT, Tgs.len] at g
                  have g : Go X.K (RpF X.K) (FlyA X.K) β H ((asgTs C P.gl (.cons (.var i) (.cons (.var j) (.cons (.var l) .nil))) [d1, d2, d3] ρ S1).bind fun ρ1 S2 => .ok (.nx ρ1) S2) (endQ D) := g
                  simp only [asgTs, asgT] at g
                  by_cases h1 : i < ρ.length
                  · rw [if_pos h1, R.bind_ok] at g
                    by_cases h2 : j < (ρ.set i (some d1)).length
                    · rw [if_pos h2, R.bind_ok] at g
                      by_cases h3 : l < ((ρ.set i (some d1)).set j (some d2)).length
                      · rw [if_pos h3, R.bind_ok, R.bind_ok] at g
                        exact Go.same (t := FlV.nx _) (Go.ext g x1) ((((er.ext x1).set rv i (h.off oi)).set rw' j (h.off oj)).set ru l (h.off ol)) s1
                      · rw [if_neg h3] at g; exact g.elim
                    · rw [if_neg h2] at g; exact g.elim
                  · rw [if_neg h1] at g; exact g.elim
            · exact bad
          · cases q4
        · cases q2
      · cases e4
    · cases e1
  | 4, e1 => simp [trT, trTs] at e1
  | 3, e1 => simp [trT, trTs] at e1
  | 2, e1 => simp [trT, trTs] at e1
  | 1, e1 => simp [trT, trTs] at e1
  | 0, e1 => simp [trT] at e1
theorem fld_ok (h : Ctx P C n c X) {W k : Nat} {o e : Expr} {x : Str} {p pos : Pos} : PS X (.Assign [.Attribute o x p] e pos) (RS X (exS C P.gl W (trF P k c o x e (.Attribute o x p)))) := by
  unfold trF
  split
  · rename_i c1
    exact ps_of (s_setf (snd_ok k _ c X h o).1 (snd_ok k _ c X h e).1 (swc_ok h c1.2 pos.line) (h.fld x)) (by funext ρ S; simp only [exS] <;> rfl)
  · exact ps_bad
theorem asg_ok (h : Ctx P C n c X) {W k : Nat} {t e : Expr} {pos : Pos} : PS X (.Assign [t] e pos) (RS X (exS C P.gl W (trA P k c t e))) := by
  unfold trA
  split
  · exact ps_bad
  rename_i hg
  split
  · rename_i t' b e1 e2 e3
    have q : exS C P.gl W (.asg t' (trE P k c e)) = fun ρ S => (evE C P.gl (trE P k c e) ρ S).bind fun d S1 => (asgT C P.gl t' d ρ S1).bind fun ρ1 S2 => .ok (.nx ρ1) S2 := by funext ρ S; simp only [exS]
    have plain : b = false → PS X (.Assign [t] e pos) (RS X (exS C P.gl W (.asg t' (trE P k c e)))) := fun hb => by
      subst hb
      refine ps_of ((ps_asg (snd_ok k _ c X h e).1 (tg_ok h (snd_ok k _ c X h) k t t' e1) (swc_ok h e3 pos.line) (swp_ok h e2) ?_).cv (asg_go (fun σ H Q w => w) fun v σ H Q w => w)) q
      cases t <;> first | rfl | (cases k <;> simp [trT] at e1)
    cases b with
    | false => exact plain rfl
    | true =>
      cases e with
      | ListComp elt gens scope p => exact comp_of h e1 e3
      | _ => simp [swc] at e3
  · rename_i t' names e1 e2 e3
    have hc : c.hot = false := by
      cases q : c.hot with
      | false => rfl
      | true => exact absurd (show (c.hot && (swp c [t] e != some none)) = true by rw [q, e2]; rfl) hg
    split
    · rename_i x px y py kt pt a b k2 pt2
      split
      · exact ps_bad
      · rename_i hxy
        exact par2_ok h hc e1 e2 e3 hxy
    · rename_i x px y py z pz kt pt a b d k2 pt2
      split
      · exact ps_bad
      · rename_i hxy
        simp only [Bool.or_eq_true, decide_eq_true_eq, not_or] at hxy
        exact par3_ok h hc e1 e2 e3 hxy.1.1 hxy.1.2 hxy.2
    · exact ps_bad
  · exact ps_bad
end
end Pyx
end
section
/-! try. -/
namespace Pyx
open PySem L2
/-- where W is what may be let out -/
abbrev FW (W : WX) : Fly := ⟨fun σ cls d H => W cls d σ H, none⟩
/-- in an except suite -/
abbrev FH (i : Nat) (a : Addr) (cls : Value) (d : Option Addr) : Fly := ⟨fun _ _ _ _ => False, some ⟨i, a, cls, d⟩⟩
theorem ERel.hand {K : PySem.W.Frag} {β : Bk} {H : Hp} {ρ : Env} {σ : St} {F : Fly} (hn : F.hand = none) (er : @ERel K F β H ρ σ) {i : Nat} {a : Addr} {cls : Value} {d : Option Addr} {x : Exc} (hi : i < ρ.length) (hx : ExcRep K β H x cls d) :
    @ERel K (FH i a cls d) β H (ρ.set i (some (codeX x))) (σ.set i (some (.ref a))) := by
  have len : ρ.length = σ.length := @ERel.len K F β H ρ σ er
  refine @ERel.mk K (FH i a cls d) β H _ _ (by simp [len]) (fun j e o q => ?_) (fun q e => ?_)
  · have ne : i ≠ j := fun z => o ⟨i, a, cls, d⟩ rfl z
    rw [List.getElem?_set_ne ne] at q ⊢
    exact @ERel.at_ K F β H ρ σ er j e (@off_of F hn j) q
  · cases e
    exact ⟨x, List.getElem?_set_self hi, List.getElem?_set_self (by rw [← len]; exact hi), hx⟩
theorem ERel.gone {K : PySem.W.Frag} {β : Bk} {H : Hp} {ρ : Env} {σ : St} {F : Fly} (hn : F.hand = none) {i : Nat} {a : Addr} {cls : Value} {d : Option Addr} (er : @ERel K (FH i a cls d) β H ρ σ) : @ERel K F β H (ρ.set i none) (σ.set i none) := by
  have len : ρ.length = σ.length := @ERel.len K (FH i a cls d) β H ρ σ er
  refine @ERel.mk K F β H _ _ (by simp [len]) (fun j e o q => ?_) (fun q e => by rw [hn] at e; cases e)
  by_cases h : i = j
  · subst h
    by_cases l : i < ρ.length
    · rw [List.getElem?_set_self l] at q; cases q
    · rw [List.getElem?_eq_none (by simp; omega)] at q; cases q
  · rw [List.getElem?_set_ne h] at q ⊢
    exact @ERel.at_ K (FH i a cls d) β H ρ σ er j e (fun z ez => by cases ez; exact h) q
/-- what becomes of the answer of a try's body -/
def tkQ (k : Tk) (D : Ends) (σ : St) (v : V) (H : Hp) : Prop :=
  match k with
  | .asg j => D.nx (σ.set j (some v)) H
  | .drop => D.nx σ H
  | .ret => D.rt v H
abbrev RK (K : PySem.W.Frag) (W : WX) (k : Tk) (re : Env → Store → R D) : TS := fun D σ H => @Rg (FW W) Pyx.D V K (Rep K) re σ H (tkQ k D σ)
def tryR (k : Tk) (ms : List (Str × Bool)) (sl : Nat) (re : Env → Store → R D) (rh : Env → Store → R Fl) : Env → Store → R Fl := fun ρ S => match re ρ S with
    | .ok d S1 => tkEnd k d ρ S1
    | .exc x S1 => (match ms.lookup x.cls with
      | some true => if sl < ρ.length then (rh (ρ.set sl (some (codeX x))) S1).noX.bind fun fl S2 => .ok (goneF sl fl) S2 else .stuck
      | some false => .exc x S1
      | none => .stuck)
    | .stuck => .stuck
theorem try_go {F : Fly} {K : PySem.W.Frag} (hn : F.hand = none) {ms : List (Str × Bool)} {cv : Value} {i : Nat} {k : Tk} {re : Env → Store → R D} {rh : Env → Store → R Fl} (hm : ∀ p ∈ ms, ∃ C, ClsAt K p.1 C ∧ PySem.W.exmOne K (.ref C) cv = some p.2) {D : Ends} {σ : St} {H : Hp}
    (h : @RF F K (tryR k ms i re rh) D σ H) : RK K (wAs K cv i (fun a cls d => @RF (FH i a cls d) K rh) (fun cls d σ H => F.f σ cls d H) D) k re D σ H := by
  obtain ⟨ρ, S, β, er, sr, g⟩ := h
  refine ⟨ρ, S, β, er.to hn rfl, sr, ?_⟩
  unfold tryR at g
  cases q : re ρ S with
  | stuck => rw [q] at g; exact g.elim
  | ok d S1 =>
    rw [q] at g
    intro v β1 H1 x1 r1 s1
    have g : Go K (RpF K) (FlyA K) β H (tkEnd k d ρ S1) (endQ D) := g
    cases k with
    | asg j =>
      simp only [tkEnd] at g
      split at g
      · exact g (.nx (σ.set j (some v))) β1 H1 x1 ((er.ext x1).set r1 j (off_of hn j)) s1
      · exact g.elim
    | drop => exact g (.nx σ) β1 H1 x1 (er.ext x1) s1
    | ret => exact g (.rt v) β1 H1 x1 r1 s1
  | exc x S1 =>
    rw [q] at g
    intro β1 H1 x1 s1 cls d hx
    have g : Go K (RpF K) (FlyA K) β H (match ms.lookup x.cls with
      | some true => if i < ρ.length then (rh (ρ.set i (some (codeX x))) S1).noX.bind fun fl S2 => .ok (goneF i fl) S2 else .stuck
      | some false => .exc x S1
      | none => .stuck) (endQ D) := g
    cases lk : ms.lookup x.cls with
    | none => rw [lk] at g; exact g.elim
    | some b =>
      rw [lk] at g
      obtain ⟨C', kc', hk⟩ := hm _ (mem_look lk)
      obtain ⟨C, ec, kc, hy⟩ := id hx
      cases kc'.inj kc
      refine ⟨b, by rw [ec]; exact hk, fun eb a ha => ?_, fun eb => ?_⟩
      · subst eb
        have g : Go K (RpF K) (FlyA K) β H (if i < ρ.length then (rh (ρ.set i (some (codeX x))) S1).noX.bind fun fl S2 => .ok (goneF i fl) S2 else .stuck) (endQ D) := g
        split at g
        case isFalse => exact g.elim
        rename_i hi
        refine ⟨ρ.set i (some (codeX x)), S1, β1, ERel.hand hn (er.ext x1) hi hx, s1, ?_⟩
        cases qh : rh (ρ.set i (some (codeX x))) S1 with
        | stuck => rw [qh] at g; exact g.elim
        | exc y S2 => rw [qh] at g; exact g.elim
        | ok fl S2 =>
          rw [qh] at g
          have g : Go K (RpF K) (FlyA K) β H (.ok (goneF i fl) S2) (endQ D) := g
          intro t β2 H2 x2 r2 s2
          have x3 := x1.trans x2
          cases fl with
          | nx ρ2 => cases t with
            | nx σ2 => exact g (.nx (σ2.set i none)) β2 H2 x3 (ERel.gone hn r2) s2
            | _ => exact False.elim r2
          | bk ρ2 => cases t with
            | bk σ2 => exact g (.bk (σ2.set i none)) β2 H2 x3 (ERel.gone hn r2) s2
            | _ => exact False.elim r2
          | ct ρ2 => cases t with
            | ct σ2 => exact g (.ct (σ2.set i none)) β2 H2 x3 (ERel.gone hn r2) s2
            | _ => exact False.elim r2
          | rt d2 => cases t with
            | rt v2 => exact g (.rt v2) β2 H2 x3 r2 s2
            | _ => exact False.elim r2
      · subst eb
        exact g β1 H1 x1 s1 σ cls d hx
theorem s_try {F : Fly} {X : Cx} {x y : Str} {i : Nat} {ms : List (Str × Bool)} {s b₀ : Stmt} {suite : List Stmt} {np pos pos' : Pos} {k : Tk} {re : Env → Store → R D} {rh : Env → Store → R Fl} (hn : F.hand = none) (hs : X.stack = X.env :: X.outer) (hf : X.env.frame = some X.env.locals)
    (hN : X.N.Nodup) (hi : X.N[i]? = some y) (hln : X.env.kindOf y = some .local) (hm : XmOk X.K X.mg x ms) (hg : Gl X x) (hdb : (x == ("__debug__" : Str)) = false) (tk : L2N.Takes X fun cls d σ H => F.f σ cls d H)
    (hb : ∀ (W : WX) (pn : List (Addr × Obj)) (xe : Value → Shared → Prop), L2N.Takes (X.tr pn xe) W → PassesOwn (model X.prog X.w) X.A X.env xe → PS (X.tr pn xe) s (RK X.K W k re))
    (hsu : ∀ (a : Addr) (oe : Obj) (cls : Value) (d : Option Addr) (pn : List (Addr × Obj)), L2N.Zn cls d oe → (∃ vs, oe.data = .fields vs) → PSs (X.suite a ((a, oe) :: pn)) (b₀ :: suite) (@RF (FH i a cls d) X.K rh)) :
    PS X (.Try [s] [.ExceptHandler (some (.Name x np)) (some y) (b₀ :: suite) pos'] [] [] pos) (@RS F X (tryR k ms i re rh)) := by
  obtain ⟨cv, hcv, hm⟩ := hm
  refine (L2N.ps_try_as (ts := fun a cls d => @RF (FH i a cls d) X.K rh) (tb := fun W => RK X.K W k re) hs hf hN hi hln (c := cv) ⟨hg, hdb, .inl hcv⟩ tk (fun W pn xe t p => ?_) hsu).cv fun D σ H h => try_go hn hm h
  exact (pss_cons (hb W pn xe t p) pss_nil).cv fun D σ H h => h
end Pyx
end
section
/-! Statements by induction; defs; the program. -/
namespace Pyx
open PySem L2
variable [Fly]
section
variable {P : Pr} {C : Str → List D → Store → R D} {n : Nat} {c : Sc} {X : Cx} {W : Nat}
theorem block_ok {f : Stmt → S} (ih : ∀ s, PS X s (RS X (exS C P.gl W (f s)))) : ∀ ss : List Stmt, PSs X ss (RS X (exSs C P.gl W (ssOf (ss.map f))))
  | [] => by
    have q : exSs C P.gl W (ssOf ([].map f)) = fun ρ S => .ok (.nx ρ) S := by funext ρ S; simp only [List.map_nil, ssOf, exSs]
    rw [q]; exact ss_nil
  | s :: ss => by
    have q : exSs C P.gl W (ssOf ((s :: ss).map f)) = seqR (exS C P.gl W (f s)) (exSs C P.gl W (ssOf (ss.map f))) := by funext ρ S; simp only [List.map_cons, ssOf, exSs]; rfl
    rw [q]; exact ss_cons (ih s) (block_ok ih ss)
theorem raise_ok (h : Ctx P C n c X) {k : Nat} {o o2 : Option Expr} {pos : Pos} : PS X (.Raise o o2 pos) (RS X (exS C P.gl W (trRs P k c o o2))) := by
  unfold trRs
  split
  · exact ps_bad
  rename_i hc
  have hc : c.hot = false := by simpa using hc
  split
  · rename_i x xp e cp
    split
    · rename_i f ef
      split
      · rename_i c1
        simp only [Bool.and_eq_true, Bool.not_eq_true'] at c1
        refine ps_of (s_raise (h.exs x f ef) (h.room hc) (h.calm hc) h.tk (h.gl' c1.1.1) (es_ok (P := P) (f := trE P k c) (fun e => (snd_ok k _ c X h e).1) [e] (by simp [noStar, c1.2])) c1.2 (okN_ok c1.1.2).1) ?_
        funext ρ S
        simp only [exS, List.map_cons, List.map_nil]
        congr 1
        funext ds S1
        rcases ds with _ | ⟨a, _ | ⟨b, r⟩⟩ <;> rfl
      · exact ps_bad
    · exact ps_bad
  · exact ps_bad
theorem tk_ok (h : Ctx P C n c X) {k : Nat} {s : Stmt} {t : Tk} {e : E} (e2 : trTk P k c s = some (t, e)) : PS X s (fun D σ H => RE X (evE C P.gl e) σ H (tkQ t D σ)) := by
  have ie := snd_ok k _ c X h
  unfold trTk at e2
  split at e2
  · rename_i z zp e' zpos
    split at e2
    · rename_i j hj hjl hsw hsc
      cases e2
      obtain ⟨k1, k2, k3, k4⟩ := stq_ok hj
      exact (ps_asg (ie e').1 (pg_name (by rw [h.hN]; exact h.nd) (by rw [h.hN]; exact k1) (by rw [h.sc]; exact k2) (by rw [h.fn, h.sc]; exact k3)) (swc_ok h hsc zpos.line) (swp_ok h hsw) rfl).cv fun D σ H w => w
    · cases e2
  · rename_i e' zpos
    split at e2
    · cases e2
    · rename_i nc
      cases e2
      exact (ps_expr (ie e').1 (swap_no (by simpa using nc) _ _ _)).cv fun D σ H w => w
  · rename_i e' zpos
    cases e2
    exact (ps_ret (ie e').1).cv fun D σ H w => w
  · cases e2
omit [Fly] in
theorem try_ok {F : Fly} (h : Ctx P C n c X) (hst : X.stack = X.env :: X.outer ∧ X.env.frame = some X.env.locals) {k : Nat} {s b₀ : Stmt} {suite : List Stmt} {x y : Str} {np pos pos' : Pos}
    (ih : ∀ (F : Fly) (c : Sc) (X : Cx), @Ctx F P C n c X → (X.stack = X.env :: X.outer ∧ X.env.frame = some X.env.locals) → ∀ s, PS X s (@RS F X (exS C P.gl W (trS P k c s)))) :
    PS X (.Try [s] [.ExceptHandler (some (.Name x np)) (some y) (b₀ :: suite) pos'] [] [] pos) (RS X (exS C P.gl W (if c.hot then .never else (match exh P c x y with
      | some (ms, sl) => (match trTk P k c s with
        | some (t, e) => .tryx t e ms sl (ssOf ((b₀ :: suite).map (trS P k { c with hot := true, xs := some sl })))
        | none => .never)
      | none => .never)))) := by
  split
  · exact ps_bad
  rename_i hc
  have hc : c.hot = false := by simpa using hc
  split
  · rename_i ms sl e1
    split
    · rename_i t e e2
      unfold exh at e1
      split at e1
      · rename_i ms' i em hi hl
        split at e1
        · rename_i c1
          cases e1
          rw [Bool.and_eq_true] at c1
          have hcx : c.xs = none := by rw [← h.slot, h.h0 hc]; rfl
          have q : exS C P.gl W (.tryx t e ms sl (ssOf ((b₀ :: suite).map (trS P k { c with hot := true, xs := some sl })))) = tryR t ms sl (evE C P.gl e) (exSs C P.gl W (ssOf ((b₀ :: suite).map (trS P k { c with hot := true, xs := some sl })))) := by
            funext ρ S
            simp only [exS, tryR]
            all_goals cases evE C P.gl e ρ S with
            | ok d S1 => rfl
            | stuck => rfl
            | exc x S1 =>
              dsimp only
              cases List.lookup x.cls ms with
              | none => rfl
              | some b => cases b <;> rfl
          refine ps_of (s_try (h.h0 hc) hst.1 hst.2 (by rw [h.hN]; exact h.nd) (by rw [h.hN]; exact find_ok hi) (by unfold Env.kindOf; rw [h.sc]; exact hl) (h.xm x ms em) (h.gl' c1.1) (okN_ok c1.2).1 h.tk (fun Wx pn xe tk ps => ?_) (fun a oe cls d pn hz hf => ?_)) q
          · have ctx : @Ctx (FW Wx) P C n c (X.tr pn xe) :=
              @Ctx.mk (FW Wx) P C n c (X.tr pn xe) h.hN h.nd h.sc h.kind h.fn (fun _ => ⟨h.calm hc, h.room hc, rfl⟩) h.rmH hcx.symm (fun q e => by cases e) (fun e => by rw [hc] at e; cases e) ps tk h.bl h.gl h.fns h.hfn h.fld h.mth h.mks h.exs h.xf h.xi h.xm
            exact @tk_ok (FW Wx) P C n c (X.tr pn xe) ctx k s t e e2
          · have ctx : @Ctx (FH sl a cls d) P C n { c with hot := true, xs := some sl } (X.suite a ((a, oe) :: pn)) :=
              @Ctx.mk (FH sl a cls d) P C n { c with hot := true, xs := some sl } (X.suite a ((a, oe) :: pn)) h.hN h.nd h.sc h.kind h.fn (fun e => by cases e) ⟨h.rmH.dp, h.rmH.un⟩ rfl
                (fun q e => by cases e; exact ⟨X, oe, pn, rfl, ⟨hz.1, hz.2.1⟩, hf⟩) (fun _ => by obtain ⟨vs, hd⟩ := hf; exact ⟨(a, oe), ⟨rfl, vs, hd, hz.2.2 vs hd⟩, List.mem_cons_self⟩) PassesOwn.never
                (fun _ _ z => by
                  obtain ⟨_, _, _, _, _, _, _, _, _, _, _, _, _, _, _, _, z⟩ := z
                  exact (show False from z).elim) h.bl h.gl h.fns h.hfn h.fld h.mth h.mks h.exs h.xf h.xi h.xm
            exact @block_ok (FH sl a cls d) P C (X.suite a ((a, oe) :: pn)) W (trS P k { c with hot := true, xs := some sl }) (ih (FH sl a cls d) _ _ ctx hst) (b₀ :: suite)
        · cases e1
      · cases e1
    · exact ps_bad
  · exact ps_bad
omit [Fly] in
theorem stm_ok : ∀ (k : Nat) (F : Fly) (c : Sc) (X : Cx), @Ctx F P C n c X → (X.stack = X.env :: X.outer ∧ X.env.frame = some X.env.locals) → ∀ s, PS X s (@RS F X (exS C P.gl W (trS P k c s)))
  | 0, F, _, _, _, _, _ => @ps_bad F _ _ _ _ _
  | k + 1, F, c, X, h, hst, s => by
    have ihk := stm_ok k
    have ih := ihk F c X h hst
    have ie := snd_ok k _ c X h
    cases s with
    | Assign ts e pos =>
      match ts with
      | [] => exact ps_bad
      | [t] => cases t with
        | Attribute o x p => exact fld_ok h
        | _ => exact asg_ok h
      | t :: _ :: _ => cases t <;> exact ps_bad
    | Expr e pos =>
      simp only [trS]
      split
      · exact ps_bad
      · rename_i nc
        exact ps_of (s_expr (ie e).1 (swap_no (by simpa using nc) _ _ _)) (by funext ρ S; simp only [exS])
    | Return o pos =>
      cases o with
      | none => exact ps_of s_retN (by funext ρ S; simp only [trS, exS])
      | some e => exact ps_of (s_ret (ie e).1) (by funext ρ S; rfl)
    | If t a b pos =>
      simp only [trS]
      exact ps_of (s_ite (ie t).2 (block_ok ih a) (block_ok ih b)) (by funext ρ S; simp only [exS])
    | For tg it b els pos =>
      cases els with
      | nil =>
        simp only [trS]
        split
        · exact ps_bad
        rename_i hc
        have hc : c.hot = false := by simpa using hc
        split
        · rename_i s' t' e1 e2
          obtain ⟨hi, hs⟩ := src_ok h ie e1
          exact ps_of (s_for h.pass (h.calm hc) hi (tg_ok h ie k tg t' e2) (block_ok ih b) (folded_ok hs X.env)) (by funext ρ S; simp only [exS])
        · exact ps_bad
      | cons _ _ => exact ps_bad
    | While t b els pos =>
      cases els with
      | nil =>
        simp only [trS]
        exact ps_of (s_while h.pass (ie t).2 (block_ok ih b)) (by funext ρ S; simp only [exS]; rfl)
      | cons _ _ => exact ps_bad
    | Raise o o2 pos => exact raise_ok h
    | Pass pos => exact ps_of s_pass (by funext ρ S; simp only [trS, exS])
    | Break pos => exact ps_of s_brk (by funext ρ S; simp only [trS, exS])
    | Continue pos => exact ps_of s_cont (by funext ρ S; simp only [trS, exS])
    | Try body hs els fin pos =>
      unfold trS
      split <;> first | (rename_i q; cases q; done) | (rename_i q; cases q; exact try_ok h hst ihk) | exact ps_bad
    | _ => exact ps_bad
end
/-! ### defs -/
/-- the body of a def, of a method -/
structure Body (P : Pr) (K : PySem.W.Frag) (T : Str → Option Df) (hot : Bool) (key nm qual : Str) (ps : List Str) (f : Addr) (fd : FuncData) (st : Stmt) (N : List Str) : Prop where
  fn : Fun K nm qual st f fd
  bnd : ∀ us : List Value, us.length = ps.length → bindArgs fd ⟨us, []⟩ = pure (ps.zip us)
  scope : FnScope N ps (defScope st)
  tab : ∃ k fz, T key = some ⟨ps.length, N.length, ssOf ((defBody st).map (trS P k ⟨N, defScope st, fun _ => true, hot, none⟩)), fz⟩
/-- what the top has left of a def -/
structure DefAt (P : Pr) (K : PySem.W.Frag) (mg : Str → Option Value) (T : Str → Option Df) (x : Str) (ps : List Str) (f : Addr) (fd : FuncData) (st : Stmt) (N : List Str) : Prop extends Body P K T false x x x ps f fd st N where
  glob : mg x = some (.ref f)
  kwb : ∀ n ks pl, P.kw x n ks = true → kwPlan ps n ks = some pl → KB fd ps n ks pl
/-- of a method -/
structure MthAt (P : Pr) (K : PySem.W.Frag) (T : Str → Option Df) (c m : Str) (np : Nat) (Ca f : Addr) : Prop where
  cls : ClsAt K c Ca
  body : ∃ fd ps st N nm qual, ps.length = np ∧ Body P K T false (mkey c m) nm qual ps f fd st N
/-- an error class of the top -/
def ErrAt (K : PySem.W.Frag) (mg : Str → Option Value) (c f : Str) : Prop := ∃ (C fI : Addr) (sf nm qual : Str) (st : Stmt) (fd : FuncData) (p0 p1 p2 pos : Pos), ClsAt K c C ∧ OexC K C ∧ mg c = some (.ref C) ∧ PySem.W.findIn K (.ref C) "__init__" = some (some (.ref fI)) ∧
  PySem.W.typeIn K (.ref fI) = some (.type "function") ∧ PySem.W.findIn K (.ref C) f = some none ∧ Fun K nm qual st fI fd ∧ (∀ us : List Value, us.length = 2 → bindArgs fd ⟨us, []⟩ = pure ([sf, f].zip us)) ∧ FnScope [sf, f] [sf, f] (defScope st) ∧
  defBody st = [.Assign [.Attribute (.Name sf p0) f p1] (.Name f p2) pos] ∧ okN sf = true ∧ okN f = true
/-- the whole table -/
structure Prog (P : Pr) (K : PySem.W.Frag) (mg : Str → Option Value) (T : Str → Option Df) : Prop where
  bl : ∀ x, P.bl x = true → mg x = none
  gl : ∀ x d, P.gl x = some d → ∃ u v, mg x = some u ∧ RelV v u ∧ ∀ β H, Rep K β H d v
  fns : ∀ x ps, P.ps x = some ps → ∃ f fd st N, DefAt P K mg T x ps f fd st N
  fld : ∀ x, ∀ c ∈ P.fl x, FldOk K c x
  mth : ∀ c m np, P.ms c m = some np → ∃ Ca f, MthAt P K T c m np Ca f ∧ Cls K Ca ∧ Meth K Ca m f
  mks : ∀ c np, P.ci c = some np → ∃ Ca f, MthAt P K T c "__init__" np Ca f ∧ mg c = some (.ref Ca) ∧ Mk K Ca f
  exs : ∀ c f, P.ex c = some f → ErrAt K mg c f
  hfn : ∀ x ps, P.hp x = some ps → ∃ f fd st N, Body P K T true (hkey x) x x ps f fd st N ∧ mg x = some (.ref f)
  xf : ∀ f, ∀ c ∈ P.ef f, XfOk K c f
  xi : ∀ x ms, P.xi x = some ms → XiOk K mg x ms
  xm : ∀ x ms, P.xm x = some ms → XmOk K mg x ms
section
variable {K : PySem.W.Frag}
mutual
theorem rep_bnd {β : Bk} {H : Hp} : ∀ {d : D} {v : V}, Rep K β H d v → d.bnd β.b.length = true
  | .non, _, _ => by simp only [D.bnd]
  | .bl _, _, _ => by simp only [D.bnd]
  | .int _, _, _ => by simp only [D.bnd]
  | .str _, _, _ => by simp only [D.bnd]
  | .tup ds, _, h => by
    simp only [Rep] at h
    obtain ⟨_, _, _, _, _, r⟩ := h
    simp only [D.bnd]; exact reps_bnd r
  | .lst ds, _, h => by
    simp only [Rep] at h
    obtain ⟨_, _, _, _, _, r⟩ := h
    simp only [D.bnd]; exact reps_bnd r
  | .fz ds, _, h => by
    simp only [Rep] at h
    obtain ⟨_, _, _, _, _, r⟩ := h
    simp only [D.bnd]; exact reps_bnd r
  | .ref l, _, h => by
    simp only [Rep] at h
    obtain ⟨a, g, _⟩ := h
    simp only [D.bnd, decide_eq_true_eq]
    exact (List.getElem?_eq_some_iff.mp g).1
theorem reps_bnd {β : Bk} {H : Hp} : ∀ {ds : List D} {vs : List V}, Reps K β H ds vs → D.bnds β.b.length ds = true
  | [], _, _ => by simp only [D.bnds]
  | d :: ds, _, h => by
    obtain ⟨v, vr, _, r, t⟩ := h.uncons
    simp only [D.bnds, Bool.and_eq_true]
    exact ⟨rep_bnd r, reps_bnd t⟩
end
mutual
/-- seen from the places of an earlier store -/
theorem Rep.cut {b n z z' : List Addr} {H : Hp} (kz : ∀ a ∈ z', a ∈ z) : ∀ {d : D} {v : V}, Rep K ⟨b ++ n, z⟩ H d v → d.bnd b.length = true → Rep K ⟨b, z'⟩ H d v
  | .non, _, r, _ => by simpa [Rep] using r
  | .bl _, _, r, _ => by simpa [Rep] using r
  | .int _, _, r, _ => by simpa [Rep] using r
  | .str _, _, r, _ => by simpa [Rep] using r
  | .tup ds, _, r, p => by
    simp only [Rep] at r ⊢
    obtain ⟨a, vs, e, t, q, r⟩ := r
    exact ⟨a, vs, e, ⟨fun m => t.1 (List.mem_append_left _ m), t.2⟩, q, Reps.cut kz r (by simpa [D.bnd] using p)⟩
  | .lst ds, _, r, p => by
    simp only [Rep] at r ⊢
    obtain ⟨a, vs, e, ⟨h1, h2, h3⟩, q, r⟩ := r
    exact ⟨a, vs, e, ⟨fun m => h1 (List.mem_append_left _ m), fun m => h2 (kz a m), h3⟩, q, Reps.cut kz r (by simpa [D.bnd] using p)⟩
  | .fz ds, _, r, p => by
    simp only [Rep] at r ⊢
    obtain ⟨a, vs, e, t, q, r⟩ := r
    exact ⟨a, vs, e, t.imp_left fun ⟨h1, h2⟩ => ⟨fun m => h1 (List.mem_append_left _ m), h2⟩, q, Reps.cut kz r (by simpa [D.bnd] using p)⟩
  | .ref l, _, r, p => by
    simp only [Rep] at r ⊢
    obtain ⟨a, g, e⟩ := r
    simp only [D.bnd, decide_eq_true_eq] at p
    exact ⟨a, by rw [List.getElem?_append_left p] at g; exact g, e⟩
theorem Reps.cut {b n z z' : List Addr} {H : Hp} (kz : ∀ a ∈ z', a ∈ z) : ∀ {ds : List D} {vs : List V}, Reps K ⟨b ++ n, z⟩ H ds vs → D.bnds b.length ds = true → Reps K ⟨b, z'⟩ H ds vs
  | [], _, r, _ => by simpa [Reps] using r
  | d :: ds, _, r, p => by
    simp only [D.bnds, Bool.and_eq_true] at p
    simp only [Reps] at r ⊢
    obtain ⟨v, vr, e, r, t⟩ := r
    exact ⟨v, vr, e, Rep.cut kz r p.1, Reps.cut kz t p.2⟩
end
theorem repKV_bnd {κ : Type} {β : Bk} {H : Hp} : ∀ {fs : List (κ × D)} {ws : List (κ × V)}, RepKV K β H fs ws → (fs.all fun p => p.2.bnd β.b.length) = true
  | [], _, _ => rfl
  | (k, d) :: r, _, ⟨v, wr, e, h, t⟩ => by
    simp only [List.all_cons, Bool.and_eq_true]
    exact ⟨rep_bnd h, repKV_bnd t⟩
theorem crep_bnd {β : Bk} {H : Hp} {c : Cell} {a : Addr} (h : CRep K β H c a) : c.bnd β.b.length = true := by
  obtain ⟨o, _, h⟩ := h
  cases c with
  | lst ds => obtain ⟨_, _, _, r⟩ := h; exact reps_bnd r
  | ins _ _ => obtain ⟨_, _, _, _, _, _, r⟩ := h; exact repKV_bnd r
  | dk _ => obtain ⟨_, _, _, r⟩ := h; exact repKV_bnd r
  | dt _ => obtain ⟨_, _, _, r⟩ := h; exact repKV_bnd r
theorem RepKV.cut {κ : Type} {b n z z' : List Addr} {H : Hp} (kz : ∀ a ∈ z', a ∈ z) : ∀ {fs : List (κ × D)} {ws : List (κ × V)}, RepKV K ⟨b ++ n, z⟩ H fs ws → (fs.all fun p => p.2.bnd b.length) = true → RepKV K ⟨b, z'⟩ H fs ws
  | [], _, h, _ => h
  | (k, d) :: r, _, ⟨v, wr, e, h, t⟩, a => by
    simp only [List.all_cons, Bool.and_eq_true] at a
    exact ⟨v, wr, e, Rep.cut kz h a.1, RepKV.cut kz t a.2⟩
theorem CellO.cut {b n z z' : List Addr} {H : Hp} {c : Cell} {o : HO} (kz : ∀ a ∈ z', a ∈ z) (h : CellO K ⟨b ++ n, z⟩ H c o) (a : c.bnd b.length = true) : CellO K ⟨b, z'⟩ H c o := by
  cases c with
  | lst ds => obtain ⟨vs, e, q, r⟩ := h; exact ⟨vs, e, q, Reps.cut kz r a⟩
  | ins c fs => obtain ⟨C, dx, ws, e, k, q, r⟩ := h; exact ⟨C, dx, ws, e, k, q, RepKV.cut kz r a⟩
  | dk fs => obtain ⟨ws, e, q, r⟩ := h; exact ⟨ws, e, q, RepKV.cut kz r a⟩
  | dt fs => obtain ⟨ws, e, q, r⟩ := h; exact ⟨ws, e, q, RepKV.cut kz r a⟩
/-- the store as it was seen before -/
theorem SRel.cut {β : Bk} {H H' : Hp} {b' z' : List Addr} {nw : List Addr} {S S1 : Store} {d : D} (s : SRel K β H S) (s1 : SRel K ⟨β.b ++ nw, z'⟩ H' S1) (kz : ∀ a ∈ β.z, a ∈ z') (c : closed S d S1) : SRel K β H' (S1.take S.length) := by
  obtain ⟨c1, c2, c3⟩ := c
  have hl : β.b.length = S.length := s.len
  refine ⟨by rw [List.length_take, ← hl, Nat.min_eq_left (by rw [hl]; exact c2)], s.nd, fun l c el => ?_, fun a m => ?_⟩
  · have hlt : l < S.length := by
      have := (List.getElem?_eq_some_iff.mp el).1
      rw [List.length_take] at this; omega
    rw [List.getElem?_take_of_lt hlt] at el
    obtain ⟨a, ga, q⟩ := s1.cell l c el
    have ga : (β.b ++ nw)[l]? = some a := ga
    rw [List.getElem?_append_left (by rw [hl]; exact hlt)] at ga
    have hb : c.bnd β.b.length = true := by
      rcases c3 l c hlt el with h | h
      · obtain ⟨_, _, q⟩ := s.cell l c h
        exact crep_bnd q
      · rw [hl]; exact h
    obtain ⟨o, q1, q2⟩ := q
    exact ⟨a, ga, o, q1, q2.cut kz hb⟩
  · obtain ⟨h1, u, h2⟩ := s1.out a (kz a m)
    exact ⟨(s.out a m).1, u, h2⟩
/-- what was made in a call goes -/
theorem gc_go {β : Bk} {H : Hp} {S S1 : Store} {d : D} {Q : V → Hp → Prop} (s : SRel K β H S) {E : XW} (g : Go K (Rep K) E β H (gc S d S1) Q) : Go K (Rep K) E β H (.ok d S1) Q := by
  unfold gc at g
  split at g
  · rename_i c
    intro v β' H' x r s1
    obtain ⟨nw, e⟩ := x.pre
    obtain ⟨b', z'⟩ := β'
    have e : b' = β.b ++ nw := e
    subst e
    have kz : ∀ a ∈ β.z, a ∈ z' := x.hid
    have hl : β.b.length = S.length := s.len
    exact g v β H' ⟨⟨[], by simp⟩, fun _ h => h, fun _ h n _ => absurd h n, x.stay, fun _ m n => absurd m n⟩ (Rep.cut kz r (by rw [hl]; exact c.1)) (SRel.cut (b' := β.b) s s1 kz c)
  · exact g
theorem gcF_go {β : Bk} {H : Hp} {S S1 : Store} {fz : Bool} {d : D} {Q : V → Hp → Prop} (s : SRel K β H S) {E : XW} (g : Go K (Rep K) E β H (gcF fz S d S1) Q) : Go K (Rep K) E β H (.ok d S1) Q := by
  unfold gcF at g
  split at g
  · rename_i l
    split at g
    · rename_i ds q
      split at g
      · rename_i c
        obtain ⟨c0, c⟩ := c
        intro v β' H' x r s1
        obtain ⟨nw, e⟩ := x.pre
        obtain ⟨b', z'⟩ := β'
        have e : b' = β.b ++ nw := e
        subst e
        have kz : ∀ a ∈ β.z, a ∈ z' := x.hid
        have hl : β.b.length = S.length := s.len
        obtain ⟨a, ga, qc⟩ := s1.cell l _ q
        obtain ⟨vs, h1, z, rs⟩ := qc.lst
        simp only [Rep] at r
        obtain ⟨a', ga', rfl⟩ := r
        rw [ga] at ga'; cases ga'
        have ga : (β.b ++ nw)[l]? = some a := ga
        have nb : a ∉ β.b := fun m => by
          obtain ⟨i, hi⟩ := List.mem_iff_getElem?.mp m
          have hlt := (List.getElem?_eq_some_iff.mp hi).1
          have h2 : (β.b ++ nw)[i]? = some a := by rw [List.getElem?_append_left hlt]; exact hi
          have := (List.getElem?_inj (List.getElem?_eq_some_iff.mp h2).1 s1.nd).mp (h2.trans ga.symm)
          omega
        have nz : a ∉ β.z := fun m => (s1.out a (kz a m)).1 (List.mem_of_getElem? ga)
        refine g (.ref a) β H' ⟨⟨[], by simp⟩, fun _ h => h, fun _ h n _ => absurd h n, x.stay, fun _ m n => absurd m n⟩ ?_ (SRel.cut (b' := β.b) s s1 kz c)
        simp only [Rep]
        exact ⟨a, vs, rfl, ⟨nb, nz, h1⟩, z, Reps.cut kz rs (by rw [hl]; simpa [D.bnd] using c.1)⟩
      · exact gc_go s g
    · exact gc_go s g
  · exact gc_go s g
theorem start_rel {F : Fly} (hn : F.hand = none) {β : Bk} {H : Hp} {ds : List D} {vs : List V} {N : List Str} (r : Reps K β H ds vs) : @ERel K F β H (ds.map some ++ List.replicate (N.length - ds.length) none) (L2.start N vs) := by
  refine @ERel.mk K F β H _ _ (by simp [L2.start, r.length]) (fun i d _ e => ?_) (fun q e => by rw [hn] at e; cases e)
  by_cases hi : i < ds.length
  · rw [List.getElem?_append_left (by simpa using hi), List.getElem?_map] at e
    obtain ⟨d', e1, e2⟩ := Option.map_eq_some_iff.mp e
    cases e2
    obtain ⟨v, hv, rv⟩ := r.get e1
    refine ⟨v, ?_, rv⟩
    unfold L2.start
    rw [List.getElem?_append_left (by rw [List.length_map, ← r.length]; exact hi), List.getElem?_map, hv]
    rfl
  · rw [List.getElem?_append_right (by simpa using hi), List.getElem?_replicate] at e
    split at e <;> cases e
theorem err_ok {X : Cx} {c f : Str} {k : Nat} (h : ErrAt X.K X.mg c f) : ExOk X (k + 1) c f := by
  obtain ⟨C, fI, sf, nm, qual, st, fd, p0, p1, p2, pos, k1, T, hm, iC, tI, hno, hf, hb, S, eb, o1, o2⟩ := h
  obtain ⟨oc, od, kV, doc, pm, an, cdv, ct, osl, rfl, lk, hcd⟩ := hf.ex
  rw [eb] at lk
  rw [eb] at hb
  obtain ⟨a1, a2, _⟩ := okN_ok o1
  obtain ⟨b1, b2, _⟩ := okN_ok o2
  exact ⟨C, fI, _, [sf, f], k1, T, hm, iC, tI, Binds.all hb, initE_ok lk hcd S a1 a2 b1 b2 T hno⟩
omit [Fly] in
theorem body_go {P : Pr} {T : Str → Option Df} {W n : Nat} {key : Str} {ps N : List Str} {ss : Ss} {fz : Bool} {β : Bk} {H : Hp} {S : Store} {ds : List D} {Q : V → Hp → Prop} {F : Fly} {E : XK} (hE : F.f = fun _ => E) (hT : T key = some ⟨ps.length, N.length, ss, fz⟩) (sr : SRel K β H S) (l : ds.length = ps.length)
    (g : Go K (Rep K) (fun x β H => ∀ cls d, ExcRep K β H x cls d → E cls d H) β H (callF T P.gl W (n + 1) key ds S) Q) :
    Go K (@RpF F K) (@FlyA F K) β H (exSs (callF T P.gl W n) P.gl W ss (ds.map some ++ List.replicate (N.length - ps.length) none) S) (endQ { nx := fun _ H' => Q .non H', rt := Q }) := by
  have ef : (fun x β H => ∀ cls d, ExcRep K β H x cls d → E cls d H) = fun x β H => @FlyE F K default x β H := by
    funext x β H
    unfold FlyE
    rw [hE]
  simp only [callF, hT] at g
  rw [if_pos l] at g
  have g := (Go.bindB (Rp := @RpF F K) Ext.refl g).mono (Q' := endQ { nx := fun _ H' => Q .non H', rt := Q }) fun t H1 ⟨β1, S1, fl, x1, r1, s1, g1⟩ => by
    cases fl with
    | nx ρ1 => cases t with
      | nx σ1 => exact gc_go sr g1 .non β1 H1 x1 non_rep s1
      | _ => exact False.elim r1
    | rt d => cases t with
      | rt v => exact gcF_go sr g1 v β1 H1 x1 r1 s1
      | _ => exact False.elim r1
    | bk ρ1 => exact g1.elim
    | ct ρ1 => exact g1.elim
  generalize hr : exSs (callF T P.gl W n) P.gl W ss (ds.map some ++ List.replicate (N.length - ps.length) none) S = r at g ⊢
  cases r with
  | ok a S' => exact g
  | stuck => exact g
  | exc x S' =>
    intro β' H' xx ss' σ cls d hx
    rw [hE]
    exact g β' H' xx ss' cls d hx
omit [Fly] in
theorem prog_both {P : Pr} {Pg : Program} {w : World} {mg : Str → Option Value} {base : Heap} {T : Str → Option Df} {W : Nat} (G : Prog P K mg T) : ∀ (n : Nat),
    (∀ (x nm qual : Str) (ps : List Str) (f : Addr) (fd : FuncData) (st : Stmt) (N : List Str), Body P K T false x nm qual ps f fd st N → FnOk Pg w K mg base (L2N.CX Pg w) (2 * n + 1) f fd ps (spF K (callF T P.gl W n) x ps.length)) ∧
    (∀ (x nm qual : Str) (ps : List Str) (f : Addr) (fd : FuncData) (st : Stmt) (N : List Str), Body P K T true x nm qual ps f fd st N → L2H.FnH Pg w K mg base (L2N.CX Pg w) (2 * n + 1) f fd ps (spF K (callF T P.gl W n) x ps.length))
  | 0 => by
    refine ⟨fun x nm qual ps f fd st N h => ?_, fun x nm qual ps f fd st N h => ?_⟩
    · refine ⟨fun vs H Q E ⟨ds, S, β, r, s, l, g⟩ => by rw [← r.length, l], fun A outer s H args us vs Q E hr he hb hv hs => ?_⟩
      obtain ⟨ds, S, β, r, s, l, g⟩ := hs
      exact g.elim
    · refine ⟨fun vs H Q E ⟨ds, S, β, r, s, l, g⟩ => by rw [← r.length, l], fun A outer s H args us vs Q E p hr hh hp he hb hv hs => ?_⟩
      obtain ⟨ds, S, β, r, s, l, g⟩ := hs
      exact g.elim
  | n + 1 => by
    obtain ⟨ih1, ih2⟩ := prog_both (Pg := Pg) (w := w) (base := base) (W := W) G n
    refine ⟨fun x nm qual ps f fd st N h => ?_, fun x nm qual ps f fd st N h => ?_⟩
    · obtain ⟨oc, od, kV, doc, pm, an, cdv, ct, osl, rfl, lk, hcd⟩ := h.fn.ex
      refine fn_of (k := 2 * n + 1 + 1) lk hcd h.scope (fun vs H Q E ⟨ds, S, β, r, s, l, g⟩ => by rw [← r.length, l]) fun A outer s H vs Q E hr hsp => ?_
      obtain ⟨ds, S, β, r, sr, l, g⟩ := hsp
      obtain ⟨k, fz, hT⟩ := h.tab
      letI fly : Fly := ⟨fun _ => E, none⟩
      let X : Cx := cxOf (L2N.CX Pg w) Pg w K mg base N qual (defScope st) f cdv A outer s H E
      have tk : L2N.Takes X (fun cls d _ H => E cls d H) := L2N.takes_of rfl rfl rfl rfl
      have ctx : Ctx P (callF T P.gl W n) n ⟨N, defScope st, fun _ => true, false, none⟩ X := by
        refine ⟨rfl, h.scope.nd, rfl, h.scope.kind, rfl, fun _ => ⟨rfl, hr, rfl⟩, L2H.roomH_of hr, rfl, fun q e => (by cases e), fun e => (by cases e), passes_of rfl, tk, G.bl, G.gl, fun y qs hy => ?_, fun y qs hy => ?_, G.fld, fun c m np hc => ?_, fun c np hc => ?_, fun c f' hc => err_ok (G.exs c f' hc), G.xf, G.xi, G.xm⟩
        · obtain ⟨f', fd', st', N', h'⟩ := G.fns y qs hy
          exact ⟨f', fd', h'.glob, h'.fn.kp, Binds.all h'.bnd, h'.kwb, ih1 y y y qs f' fd' st' N' h'.toBody⟩
        · obtain ⟨f', fd', st', N', h', hm⟩ := G.hfn y qs hy
          exact ⟨f', fd', hm, h'.fn.kp, Binds.all h'.bnd, ih2 _ _ _ qs f' fd' st' N' h'⟩
        · obtain ⟨Ca, f', ⟨hcl, fd', ps', st', N', nm', q', hl, hb⟩, c1, c2⟩ := G.mth c m np hc
          exact ⟨Ca, f', fd', ps', hcl, c1, c2, Binds.all hb.bnd, hl, ih1 _ nm' q' ps' f' fd' st' N' hb⟩
        · obtain ⟨Ca, f', ⟨hcl, fd', ps', st', N', nm', q', hl, hb⟩, c1, c2⟩ := G.mks c np hc
          exact ⟨Ca, f', fd', ps', hcl, c1, c2, Binds.all hb.bnd, hl, ih1 _ nm' q' ps' f' fd' st' N' hb⟩
      refine ⟨_, block_ok (W := W) (stm_ok k _ _ X ctx ⟨rfl, rfl⟩) (defBody st), ds.map some ++ List.replicate (N.length - ps.length) none, S, β, ?_, sr, ?_⟩
      · rw [← l]; exact start_rel rfl r
      · exact body_go (F := fly) rfl hT sr l g
    · obtain ⟨oc, od, kV, doc, pm, an, cdv, ct, osl, rfl, lk, hcd⟩ := h.fn.ex
      refine L2H.fn_ofH (k := 2 * n + 1 + 1) lk hcd h.scope (fun vs H Q E ⟨ds, S, β, r, s, l, g⟩ => by rw [← r.length, l]) fun A outer s H vs Q E p hot hr hsp => ?_
      obtain ⟨ds, S, β, r, sr, l, g⟩ := hsp
      obtain ⟨k, fz, hT⟩ := h.tab
      letI fly : Fly := ⟨fun _ => E, none⟩
      let X : Cx := L2H.cxH (L2N.CX Pg w) Pg w K mg base N qual (defScope st) f cdv A outer s H E p
      have tk : L2N.Takes X (fun cls d _ H => E cls d H) := L2N.takes_of rfl rfl rfl rfl
      have ctx : Ctx P (callF T P.gl W n) n ⟨N, defScope st, fun _ => true, true, none⟩ X := by
        refine ⟨rfl, h.scope.nd, rfl, h.scope.kind, rfl, fun e => (by cases e), hr, rfl, fun q e => (by cases e), fun _ => ⟨p, hot, List.mem_singleton.mpr rfl⟩, passes_of rfl, tk, G.bl, G.gl, fun y qs hy => ?_, fun y qs hy => ?_, G.fld, fun c m np hc => ?_, fun c np hc => ?_, fun c f' hc => err_ok (G.exs c f' hc), G.xf, G.xi, G.xm⟩
        · obtain ⟨f', fd', st', N', h'⟩ := G.fns y qs hy
          exact ⟨f', fd', h'.glob, h'.fn.kp, Binds.all h'.bnd, h'.kwb, ih1 y y y qs f' fd' st' N' h'.toBody⟩
        · obtain ⟨f', fd', st', N', h', hm⟩ := G.hfn y qs hy
          exact ⟨f', fd', hm, h'.fn.kp, Binds.all h'.bnd, ih2 _ _ _ qs f' fd' st' N' h'⟩
        · obtain ⟨Ca, f', ⟨hcl, fd', ps', st', N', nm', q', hl, hb⟩, c1, c2⟩ := G.mth c m np hc
          exact ⟨Ca, f', fd', ps', hcl, c1, c2, Binds.all hb.bnd, hl, ih1 _ nm' q' ps' f' fd' st' N' hb⟩
        · obtain ⟨Ca, f', ⟨hcl, fd', ps', st', N', nm', q', hl, hb⟩, c1, c2⟩ := G.mks c np hc
          exact ⟨Ca, f', fd', ps', hcl, c1, c2, Binds.all hb.bnd, hl, ih1 _ nm' q' ps' f' fd' st' N' hb⟩
      refine ⟨_, block_ok (W := W) (stm_ok k _ _ X ctx ⟨rfl, rfl⟩) (defBody st), ds.map some ++ List.replicate (N.length - ps.length) none, S, β, ?_, sr, ?_⟩
      · rw [← l]; exact start_rel rfl r
      · exact body_go (F := fly) rfl hT sr l g
omit [Fly] in
theorem prog_ok {P : Pr} {Pg : Program} {w : World} {mg : Str → Option Value} {base : Heap} {T : Str → Option Df} {W : Nat} (G : Prog P K mg T) (n : Nat) (x nm qual : Str) (ps : List Str) (f : Addr) (fd : FuncData) (st : Stmt) (N : List Str) (h : Body P K T false x nm qual ps f fd st N) :
    FnOk Pg w K mg base (L2N.CX Pg w) (2 * n + 1) f fd ps (spF K (callF T P.gl W n) x ps.length) := (prog_both G n).1 x nm qual ps f fd st N h
end
end Pyx
end
section
/-! From a table of defs to a law. -/
namespace Pyx
open PySem L2
/-! ### equality of the small syntax, looked at -/
mutual
def eqbD : D → D → Bool
  | .non, .non => true
  | .bl a, .bl b => a == b
  | .int a, .int b => a == b
  | .str a, .str b => a == b
  | .tup a, .tup b => eqbDs a b
  | .lst a, .lst b => eqbDs a b
  | .fz a, .fz b => eqbDs a b
  | .ref a, .ref b => a == b
  | _, _ => false
def eqbDs : List D → List D → Bool
  | [], [] => true
  | a :: as, b :: bs => eqbD a b && eqbDs as bs
  | _, _ => false
end
mutual
theorem eqbD_ok : ∀ (a b : D), eqbD a b = true → a = b
  | .non, b, h => by cases b <;> first | rfl | (simp [eqbD] at h)
  | .bl a, b, h => by cases b <;> simp_all [eqbD]
  | .int a, b, h => by cases b <;> simp_all [eqbD]
  | .str a, b, h => by cases b <;> simp_all [eqbD]
  | .tup a, b, h => by
    cases b with
    | tup b => simp only [eqbD] at h; rw [eqbDs_ok a b h]
    | _ => simp [eqbD] at h
  | .lst a, b, h => by
    cases b with
    | lst b => simp only [eqbD] at h; rw [eqbDs_ok a b h]
    | _ => simp [eqbD] at h
  | .fz a, b, h => by
    cases b with
    | fz b => simp only [eqbD] at h; rw [eqbDs_ok a b h]
    | _ => simp [eqbD] at h
  | .ref a, b, h => by cases b <;> simp_all [eqbD]
theorem eqbDs_ok : ∀ (a b : List D), eqbDs a b = true → a = b
  | [], b, h => by cases b <;> simp_all [eqbDs]
  | a :: as, b, h => by
    cases b with
    | nil => simp [eqbDs] at h
    | cons b bs => simp only [eqbDs, Bool.and_eq_true] at h; rw [eqbD_ok a b h.1, eqbDs_ok as bs h.2]
end
mutual
def eqbE : E → E → Bool
  | .never, .never => true
  | .var i, .var j => i == j
  | .con d, .con e => eqbD d e
  | .glob x, .glob y => x == y
  | .tup a, .tup b => eqbEs a b
  | .lst m a, .lst n b => m == n && eqbEs a b
  | .bin o a b, .bin p c d => decide (o = p) && eqbE a c && eqbE b d
  | .neg a, .neg b => eqbE a b
  | .not a, .not b => eqbE a b
  | .and a b, .and c d => eqbE a c && eqbE b d
  | .or a b, .or c d => eqbE a c && eqbE b d
  | .cmp o a b, .cmp p c d => decide (o = p) && eqbE a c && eqbE b d
  | .cmp2 o o2 a b e, .cmp2 p p2 c d f => decide (o = p) && decide (o2 = p2) && eqbE a c && eqbE b d && eqbE e f
  | .ite a b e, .ite c d f => eqbE a c && eqbE b d && eqbE e f
  | .ix a b, .ix c d => eqbE a c && eqbE b d
  | .sl m a b e, .sl n c d f => m == n && eqbE a c && eqbO b d && eqbO e f
  | .rev a, .rev b => eqbE a b
  | .call x a, .call y b => x == y && eqbEs a b
  | .callk x a k ka, .callk y b l kb => x == y && eqbEs a b && k == l && eqbEs ka kb
  | .bi x m a, .bi y n b => decide (x = y) && m == n && eqbEs a b
  | .isin a t, .isin b u => eqbE a b && decide (t = u)
  | .mt x m a c, .mt y n b d => decide (x = y) && m == n && eqbE a b && eqbEs c d
  | .comp m o e t s c, .comp n p f u r d => m == n && o == p && eqbE e f && eqbT t u && eqbR s r && eqbEs c d
  | .comp2 m o e t s c o1 t1 s1 c1, .comp2 n p f u r d p1 u1 r1 d1 => m == n && o == p && eqbE e f && eqbT t u && eqbR s r && eqbEs c d && o1 == p1 && eqbT t1 u1 && eqbR s1 r1 && eqbEs c1 d1
  | .fld a x c, .fld b y d => eqbE a b && x == y && c == d
  | .mk x a, .mk y b => x == y && eqbEs a b
  | .mth a x c e, .mth b y d f => eqbE a b && x == y && c == d && eqbEs e f
  | .lset a, .lset b => eqbE a b
  | .dnew a, .dnew b => a == b
  | .dlit a c e, .dlit b d f => a == b && eqbE c d && eqbE e f
  | .dgt a c, .dgt b d => eqbE a b && eqbE c d
  | .dgt2 a c e, .dgt2 b d f => eqbE a b && eqbE c d && eqbE e f
  | .xf a f c, .xf b g d => a == b && f == g && c == d
  | .xis a m, .xis b n => a == b && m == n
  | _, _ => false
def eqbEs : Es → Es → Bool
  | .nil, .nil => true
  | .cons a b, .cons c d => eqbE a c && eqbEs b d
  | _, _ => false
def eqbO : Ob → Ob → Bool
  | .none, .none => true
  | .some a, .some b => eqbE a b
  | _, _ => false
def eqbT : Tg → Tg → Bool
  | .var i, .var j => i == j
  | .sub a b, .sub c d => eqbE a c && eqbE b d
  | .tup a, .tup b => eqbTs a b
  | _, _ => false
def eqbTs : Tgs → Tgs → Bool
  | .nil, .nil => true
  | .cons a b, .cons c d => eqbT a c && eqbTs b d
  | _, _ => false
def eqbR : Src → Src → Bool
  | .val a, .val b => eqbE a b
  | .rng a, .rng b => eqbEs a b
  | .enum a, .enum b => eqbE a b
  | .zip a b, .zip c d => eqbE a c && eqbE b d
  | _, _ => false
end
mutual
theorem eqbE_ok : ∀ (a b : E), eqbE a b = true → a = b
  | .never, b, h => by cases b <;> first | rfl | (simp [eqbE] at h)
  | .var a, b, h => by cases b <;> simp_all [eqbE]
  | .con a, b, h => by
    cases b with
    | con b => simp only [eqbE] at h; rw [eqbD_ok a b h]
    | _ => simp [eqbE] at h
  | .glob a, b, h => by cases b <;> simp_all [eqbE]
  | .tup a, b, h => by
    cases b with
    | tup b => simp only [eqbE] at h; rw [eqbEs_ok a b h]
    | _ => simp [eqbE] at h
  | .lst m a, b, h => by
    cases b with
    | lst n b => simp only [eqbE, Bool.and_eq_true, beq_iff_eq] at h; rw [h.1, eqbEs_ok a b h.2]
    | _ => simp [eqbE] at h
  | .bin o a c, b, h => by
    cases b with
    | bin p b d => simp only [eqbE, Bool.and_eq_true, decide_eq_true_eq] at h; rw [h.1.1, eqbE_ok a b h.1.2, eqbE_ok c d h.2]
    | _ => simp [eqbE] at h
  | .neg a, b, h => by
    cases b with
    | neg b => simp only [eqbE] at h; rw [eqbE_ok a b h]
    | _ => simp [eqbE] at h
  | .not a, b, h => by
    cases b with
    | not b => simp only [eqbE] at h; rw [eqbE_ok a b h]
    | _ => simp [eqbE] at h
  | .and a c, b, h => by
    cases b with
    | and b d => simp only [eqbE, Bool.and_eq_true] at h; rw [eqbE_ok a b h.1, eqbE_ok c d h.2]
    | _ => simp [eqbE] at h
  | .or a c, b, h => by
    cases b with
    | or b d => simp only [eqbE, Bool.and_eq_true] at h; rw [eqbE_ok a b h.1, eqbE_ok c d h.2]
    | _ => simp [eqbE] at h
  | .cmp o a c, b, h => by
    cases b with
    | cmp p b d => simp only [eqbE, Bool.and_eq_true, decide_eq_true_eq] at h; rw [h.1.1, eqbE_ok a b h.1.2, eqbE_ok c d h.2]
    | _ => simp [eqbE] at h
  | .cmp2 o o2 a c e, b, h => by
    cases b with
    | cmp2 p p2 b d f => simp only [eqbE, Bool.and_eq_true, decide_eq_true_eq] at h; rw [h.1.1.1.1, h.1.1.1.2, eqbE_ok a b h.1.1.2, eqbE_ok c d h.1.2, eqbE_ok e f h.2]
    | _ => simp [eqbE] at h
  | .ite a c e, b, h => by
    cases b with
    | ite b d f => simp only [eqbE, Bool.and_eq_true] at h; rw [eqbE_ok a b h.1.1, eqbE_ok c d h.1.2, eqbE_ok e f h.2]
    | _ => simp [eqbE] at h
  | .ix a c, b, h => by
    cases b with
    | ix b d => simp only [eqbE, Bool.and_eq_true] at h; rw [eqbE_ok a b h.1, eqbE_ok c d h.2]
    | _ => simp [eqbE] at h
  | .sl m a c e, b, h => by
    cases b with
    | sl n b d f => simp only [eqbE, Bool.and_eq_true, beq_iff_eq] at h; rw [h.1.1.1, eqbE_ok a b h.1.1.2, eqbO_ok c d h.1.2, eqbO_ok e f h.2]
    | _ => simp [eqbE] at h
  | .rev a, b, h => by
    cases b with
    | rev b => simp only [eqbE] at h; rw [eqbE_ok a b h]
    | _ => simp [eqbE] at h
  | .call x a, b, h => by
    cases b with
    | call y b => simp only [eqbE, Bool.and_eq_true, beq_iff_eq] at h; rw [h.1, eqbEs_ok a b h.2]
    | _ => simp [eqbE] at h
  | .callk x a k c, b, h => by
    cases b with
    | callk y b l d => simp only [eqbE, Bool.and_eq_true, beq_iff_eq] at h; rw [h.1.1.1, eqbEs_ok a b h.1.1.2, h.1.2, eqbEs_ok c d h.2]
    | _ => simp [eqbE] at h
  | .bi x m a, b, h => by
    cases b with
    | bi y n b => simp only [eqbE, Bool.and_eq_true, beq_iff_eq, decide_eq_true_eq] at h; rw [h.1.1, h.1.2, eqbEs_ok a b h.2]
    | _ => simp [eqbE] at h
  | .isin a t, b, h => by
    cases b with
    | isin b u => simp only [eqbE, Bool.and_eq_true, decide_eq_true_eq] at h; rw [eqbE_ok a b h.1, h.2]
    | _ => simp [eqbE] at h
  | .mt x m a c, b, h => by
    cases b with
    | mt y n b d => simp only [eqbE, Bool.and_eq_true, beq_iff_eq, decide_eq_true_eq] at h; rw [h.1.1.1, h.1.1.2, eqbE_ok a b h.1.2, eqbEs_ok c d h.2]
    | _ => simp [eqbE] at h
  | .comp m o e t s c, b, h => by
    cases b with
    | comp n p f u r d => simp only [eqbE, Bool.and_eq_true, beq_iff_eq] at h; rw [h.1.1.1.1.1, h.1.1.1.1.2, eqbE_ok e f h.1.1.1.2, eqbT_ok t u h.1.1.2, eqbR_ok s r h.1.2, eqbEs_ok c d h.2]
    | _ => simp [eqbE] at h
  | .comp2 m o e t s c o1 t1 s1 c1, b, h => by
    cases b with
    | comp2 n p f u r d p1 u1 r1 d1 =>
      simp only [eqbE, Bool.and_eq_true, beq_iff_eq] at h
      obtain ⟨⟨⟨⟨⟨⟨⟨⟨⟨h1, h2⟩, h3⟩, h4⟩, h5⟩, h6⟩, h7⟩, h8⟩, h9⟩, h10⟩ := h
      rw [h1, h2, eqbE_ok e f h3, eqbT_ok t u h4, eqbR_ok s r h5, eqbEs_ok c d h6, h7, eqbT_ok t1 u1 h8, eqbR_ok s1 r1 h9, eqbEs_ok c1 d1 h10]
    | _ => simp [eqbE] at h
  | .fld a x c, b, h => by
    cases b with
    | fld b y d => simp only [eqbE, Bool.and_eq_true, beq_iff_eq] at h; rw [eqbE_ok a b h.1.1, h.1.2, h.2]
    | _ => simp [eqbE] at h
  | .mk x a, b, h => by
    cases b with
    | mk y b => simp only [eqbE, Bool.and_eq_true, beq_iff_eq] at h; rw [h.1, eqbEs_ok a b h.2]
    | _ => simp [eqbE] at h
  | .mth a x c e, b, h => by
    cases b with
    | mth b y d f => simp only [eqbE, Bool.and_eq_true, beq_iff_eq] at h; rw [eqbE_ok a b h.1.1.1, h.1.1.2, h.1.2, eqbEs_ok e f h.2]
    | _ => simp [eqbE] at h
  | .lset a, b, h => by
    cases b with
    | lset b => simp only [eqbE] at h; rw [eqbE_ok a b h]
    | _ => simp [eqbE] at h
  | .dnew a, b, h => by cases b <;> simp_all [eqbE]
  | .dlit a c e, b, h => by
    cases b with
    | dlit b d f => simp only [eqbE, Bool.and_eq_true, beq_iff_eq] at h; rw [h.1.1, eqbE_ok c d h.1.2, eqbE_ok e f h.2]
    | _ => simp [eqbE] at h
  | .dgt a c, b, h => by
    cases b with
    | dgt b d => simp only [eqbE, Bool.and_eq_true] at h; rw [eqbE_ok a b h.1, eqbE_ok c d h.2]
    | _ => simp [eqbE] at h
  | .dgt2 a c e, b, h => by
    cases b with
    | dgt2 b d f => simp only [eqbE, Bool.and_eq_true] at h; rw [eqbE_ok a b h.1.1, eqbE_ok c d h.1.2, eqbE_ok e f h.2]
    | _ => simp [eqbE] at h
  | .xf a f c, b, h => by
    cases b with
    | xf b g d => simp only [eqbE, Bool.and_eq_true, beq_iff_eq] at h; rw [h.1.1, h.1.2, h.2]
    | _ => simp [eqbE] at h
  | .xis a m, b, h => by
    cases b with
    | xis b n => simp only [eqbE, Bool.and_eq_true, beq_iff_eq] at h; rw [h.1, h.2]
    | _ => simp [eqbE] at h
theorem eqbEs_ok : ∀ (a b : Es), eqbEs a b = true → a = b
  | .nil, b, h => by cases b <;> first | rfl | (simp [eqbEs] at h)
  | .cons a c, b, h => by
    cases b with
    | cons b d => simp only [eqbEs, Bool.and_eq_true] at h; rw [eqbE_ok a b h.1, eqbEs_ok c d h.2]
    | _ => simp [eqbEs] at h
theorem eqbO_ok : ∀ (a b : Ob), eqbO a b = true → a = b
  | .none, b, h => by cases b <;> first | rfl | (simp [eqbO] at h)
  | .some a, b, h => by
    cases b with
    | some b => simp only [eqbO] at h; rw [eqbE_ok a b h]
    | _ => simp [eqbO] at h
theorem eqbT_ok : ∀ (a b : Tg), eqbT a b = true → a = b
  | .var a, b, h => by cases b <;> simp_all [eqbT]
  | .sub a c, b, h => by
    cases b with
    | sub b d => simp only [eqbT, Bool.and_eq_true] at h; rw [eqbE_ok a b h.1, eqbE_ok c d h.2]
    | _ => simp [eqbT] at h
  | .tup a, b, h => by
    cases b with
    | tup b => simp only [eqbT] at h; rw [eqbTs_ok a b h]
    | _ => simp [eqbT] at h
theorem eqbTs_ok : ∀ (a b : Tgs), eqbTs a b = true → a = b
  | .nil, b, h => by cases b <;> first | rfl | (simp [eqbTs] at h)
  | .cons a c, b, h => by
    cases b with
    | cons b d => simp only [eqbTs, Bool.and_eq_true] at h; rw [eqbT_ok a b h.1, eqbTs_ok c d h.2]
    | _ => simp [eqbTs] at h
theorem eqbR_ok : ∀ (a b : Src), eqbR a b = true → a = b
  | .val a, b, h => by
    cases b with
    | val b => simp only [eqbR] at h; rw [eqbE_ok a b h]
    | _ => simp [eqbR] at h
  | .rng a, b, h => by
    cases b with
    | rng b => simp only [eqbR] at h; rw [eqbEs_ok a b h]
    | _ => simp [eqbR] at h
  | .enum a, b, h => by
    cases b with
    | enum b => simp only [eqbR] at h; rw [eqbE_ok a b h]
    | _ => simp [eqbR] at h
  | .zip a c, b, h => by
    cases b with
    | zip b d => simp only [eqbR, Bool.and_eq_true] at h; rw [eqbE_ok a b h.1, eqbE_ok c d h.2]
    | _ => simp [eqbR] at h
end
mutual
def eqbS : S → S → Bool
  | .never, .never => true
  | .asg t e, .asg u f => eqbT t u && eqbE e f
  | .setf a x c e, .setf b y d f => eqbE a b && x == y && c == d && eqbE e f
  | .expr e, .expr f => eqbE e f
  | .ret e, .ret f => eqbE e f
  | .retN, .retN => true
  | .ite c a b, .ite d e f => eqbE c d && eqbSs a e && eqbSs b f
  | .for t s b, .for u r c => eqbT t u && eqbR s r && eqbSs b c
  | .while c b, .while d e => eqbE c d && eqbSs b e
  | .raise c f es, .raise d g fs => c == d && f == g && eqbEs es fs
  | .tryx k e m s h, .tryx k2 e2 m2 s2 h2 => decide (k = k2) && eqbE e e2 && m == m2 && s == s2 && eqbSs h h2
  | .pass, .pass => true
  | .brk, .brk => true
  | .cont, .cont => true
  | _, _ => false
def eqbSs : Ss → Ss → Bool
  | .nil, .nil => true
  | .cons a b, .cons c d => eqbS a c && eqbSs b d
  | _, _ => false
end
mutual
theorem eqbS_ok : ∀ (a b : S), eqbS a b = true → a = b
  | .never, b, h => by cases b <;> first | rfl | (simp [eqbS] at h)
  | .retN, b, h => by cases b <;> first | rfl | (simp [eqbS] at h)
  | .pass, b, h => by cases b <;> first | rfl | (simp [eqbS] at h)
  | .brk, b, h => by cases b <;> first | rfl | (simp [eqbS] at h)
  | .cont, b, h => by cases b <;> first | rfl | (simp [eqbS] at h)
  | .asg a c, b, h => by
    cases b with
    | asg b d => simp only [eqbS, Bool.and_eq_true] at h; rw [eqbT_ok a b h.1, eqbE_ok c d h.2]
    | _ => simp [eqbS] at h
  | .setf a x c e, b, h => by
    cases b with
    | setf b y d f => simp only [eqbS, Bool.and_eq_true, beq_iff_eq] at h; rw [eqbE_ok a b h.1.1.1, h.1.1.2, h.1.2, eqbE_ok e f h.2]
    | _ => simp [eqbS] at h
  | .tryx k e m s a, b, h => by
    cases b with
    | tryx k2 e2 m2 s2 a2 => simp only [eqbS, Bool.and_eq_true, beq_iff_eq, decide_eq_true_eq] at h; rw [h.1.1.1.1, eqbE_ok e e2 h.1.1.1.2, h.1.1.2, h.1.2, eqbSs_ok a a2 h.2]
    | _ => simp [eqbS] at h
  | .raise c f es, b, h => by
    cases b with
    | raise d g fs => simp only [eqbS, Bool.and_eq_true, beq_iff_eq] at h; rw [h.1.1, h.1.2, eqbEs_ok es fs h.2]
    | _ => simp [eqbS] at h
  | .expr a, b, h => by
    cases b with
    | expr b => simp only [eqbS] at h; rw [eqbE_ok a b h]
    | _ => simp [eqbS] at h
  | .ret a, b, h => by
    cases b with
    | ret b => simp only [eqbS] at h; rw [eqbE_ok a b h]
    | _ => simp [eqbS] at h
  | .ite a c e, b, h => by
    cases b with
    | ite b d f => simp only [eqbS, Bool.and_eq_true] at h; rw [eqbE_ok a b h.1.1, eqbSs_ok c d h.1.2, eqbSs_ok e f h.2]
    | _ => simp [eqbS] at h
  | .for a c e, b, h => by
    cases b with
    | «for» b d f => simp only [eqbS, Bool.and_eq_true] at h; rw [eqbT_ok a b h.1.1, eqbR_ok c d h.1.2, eqbSs_ok e f h.2]
    | _ => simp [eqbS] at h
  | .while a c, b, h => by
    cases b with
    | «while» b d => simp only [eqbS, Bool.and_eq_true] at h; rw [eqbE_ok a b h.1, eqbSs_ok c d h.2]
    | _ => simp [eqbS] at h
theorem eqbSs_ok : ∀ (a b : Ss), eqbSs a b = true → a = b
  | .nil, b, h => by cases b <;> first | rfl | (simp [eqbSs] at h)
  | .cons a c, b, h => by
    cases b with
    | cons b d => simp only [eqbSs, Bool.and_eq_true] at h; rw [eqbS_ok a b h.1, eqbSs_ok c d h.2]
    | _ => simp [eqbSs] at h
end
end Pyx
end
section
namespace Pyx
open PySem L2
/-- what is told of a def -/
structure Row where
  x : Str
  nm : Str
  q : Str
  st : Stmt
  ps : List Str
  N : List Str
  kws : List (Nat × List Str)
  body : Ss
  fz : Bool
  hot : Bool
def Row.df (r : Row) : Df := ⟨r.ps.length, r.N.length, r.body, r.fz⟩
/-- what is told of a class: its fields, its methods with the number of their parameters, that of __init__ -/
structure CRow where
  c : Str
  fl : List Str
  ms : List (Str × Nat)
  ini : Nat
def mkPr (hd : List (Str × List Str × List (Nat × List Str))) (gl : List (Str × D)) (bl : List Str) (mu : List (Nat × Nat)) (cs : List CRow) (dk : List (Nat × Nat)) (es : List (Str × Str)) (xi xm : List (Str × List (Str × Bool))) (hh : List (Str × List Str)) : Pr where
  fl x := (cs.filter fun c => c.fl.contains x).map (·.c)
  mc m := (cs.filter fun c => (c.ms.lookup m).isSome).map (·.c)
  ms c m := (cs.find? fun r => r.c == c).bind fun r => r.ms.lookup m
  ci c := (cs.find? fun r => r.c == c).map (·.ini)
  dk p := dk.contains (p.line, p.col)
  ex c := es.lookup c
  ef f := (es.filter fun e => e.2 == f).map (·.1)
  xi x := xi.lookup x
  xm x := xm.lookup x
  hp x := hh.lookup x
  ps x := (hd.lookup x).map (·.1)
  gl x := gl.lookup x
  bl x := bl.contains x
  mu p := mu.contains (p.line, p.col)
  kw x n ks := match hd.lookup x with
    | some q => q.2.contains (n, ks)
    | none => false
def nodupB : List Str → Bool
  | [] => true
  | x :: xs => !xs.contains x && nodupB xs
theorem nodupB_ok : ∀ {l : List Str}, nodupB l = true → l.Nodup
  | [], _ => .nil
  | x :: xs, h => by
    simp only [nodupB, Bool.and_eq_true, Bool.not_eq_true'] at h
    refine List.nodup_cons.mpr ⟨fun m => ?_, nodupB_ok h.2⟩
    rw [List.contains_iff_mem.mpr m] at h
    exact absurd h.1 (by decide)
/-- the scope suits -/
def Row.scopeOk (r : Row) : Bool :=
  (match (defScope r.st).kind with | .function => true | _ => false) && !(defScope r.st).isCoroutine && !(defScope r.st).isGenerator && nodupB r.N && r.N.take r.ps.length == r.ps &&
  r.ps.all (fun x => match (defScope r.st).names.lookup x with | some .local => true | some .cell => true | _ => false) && (defScope r.st).names.all fun y => match y.2 with | .free => false | _ => true
theorem Row.scope {r : Row} (h : r.scopeOk = true) : FnScope r.N r.ps (defScope r.st) := by
  simp only [Row.scopeOk, Bool.and_eq_true, Bool.not_eq_true', beq_iff_eq] at h
  obtain ⟨⟨⟨⟨⟨⟨h1, h2⟩, h3⟩, h4⟩, h5⟩, h6⟩, h7⟩ := h
  refine ⟨?_, h2, h3, nodupB_ok h4, h5, fun x m => ?_, fun y m q => ?_⟩
  · split at h1
    · assumption
    · cases h1
  · have := List.all_eq_true.mp h6 x m
    split at this
    · rename_i e; exact .inl e
    · rename_i e; exact .inr e
    · cases this
  · have := List.all_eq_true.mp h7 y m
    rw [q] at this
    cases this
def Row.bodyOk (P : Pr) (k : Nat) (r : Row) : Bool := eqbSs r.body (ssOf ((defBody r.st).map (trS P k ⟨r.N, defScope r.st, fun _ => true, r.hot, none⟩)))
/-- what the head shows of a def -/
structure Shown (K : PySem.W.Frag) (mg : Str → Option Value) (r : Row) : Prop where
  ex : ∃ f fd, Fun K r.nm r.q r.st f fd ∧ mg r.x = some (.ref f) ∧ (r.nm = r.x ∧ r.q = r.x) ∧ (∀ us : List Value, us.length = r.ps.length → bindArgs fd ⟨us, []⟩ = pure (r.ps.zip us)) ∧ ∀ p ∈ r.kws, ∀ pl, kwPlan r.ps p.1 p.2 = some pl → KB fd r.ps p.1 p.2 pl
theorem Shown.mk' {K : PySem.W.Frag} {h : Heap} {mg : Str → Option Value} {r : Row} {f : Addr} {oc : Value} {od an : Option Addr} {osl : Array (Option Value)} {kV doc pm cdv ct : Value} (X : K.In h) (G : h.Ns mainGlobals mg) (e : r.nm = r.x ∧ r.q = r.x)
    (b : ∀ (kV doc pm : Value) (an : Option Addr) (cdv ct : Value) (us : List Value), us.length = r.ps.length → bindArgs (PySem.W.fnOf r.nm r.q (defArgs r.st) (defBody r.st) (defScope r.st) .none kV doc pm an cdv ct) ⟨us, []⟩ = pure (r.ps.zip us))
    (kb : ∀ (kV doc pm : Value) (an : Option Addr) (cdv ct : Value), ∀ p ∈ r.kws, ∀ pl, kwPlan r.ps p.1 p.2 = some pl → KB (PySem.W.fnOf r.nm r.q (defArgs r.st) (defBody r.st) (defScope r.st) .none kV doc pm an cdv ct) r.ps p.1 p.2 pl)
    (a : PySem.W.nsIn K mainGlobals r.x = some (some (.ref f))) (l : K.lookup f = some ⟨oc, od, .func (PySem.W.fnOf r.nm r.q (defArgs r.st) (defBody r.st) (defScope r.st) .none kV doc pm an cdv ct), osl⟩)
    (c : PySem.W.codeIn K cdv r.q = true) (k : PySem.W.keepIn K (.ref f) = true) : Shown K mg r :=
  ⟨f, _, fun_mk l c k, PySem.W.mg_of X G a, e, b _ _ _ _ _ _, kb _ _ _ _ _ _⟩
/-- of a method's def -/
def ShownM (K : PySem.W.Frag) (r : Row) (f : Addr) : Prop := ∃ fd, Fun K r.nm r.q r.st f fd ∧ ∀ us : List Value, us.length = r.ps.length → bindArgs fd ⟨us, []⟩ = pure (r.ps.zip us)
theorem ShownM.mk' {K : PySem.W.Frag} {r : Row} {f : Addr} {oc : Value} {od an : Option Addr} {osl : Array (Option Value)} {kV doc pm cdv ct : Value}
    (b : ∀ (kV doc pm : Value) (an : Option Addr) (cdv ct : Value) (us : List Value), us.length = r.ps.length → bindArgs (PySem.W.fnOf r.nm r.q (defArgs r.st) (defBody r.st) (defScope r.st) .none kV doc pm an cdv ct) ⟨us, []⟩ = pure (r.ps.zip us))
    (l : K.lookup f = some ⟨oc, od, .func (PySem.W.fnOf r.nm r.q (defArgs r.st) (defBody r.st) (defScope r.st) .none kV doc pm an cdv ct), osl⟩)
    (c : PySem.W.codeIn K cdv r.q = true) (k : PySem.W.keepIn K (.ref f) = true) : ShownM K r f :=
  ⟨_, fun_mk l c k, b _ _ _ _ _ _⟩
/-- of a class -/
structure ShownC (K : PySem.W.Frag) (mgl : Str → Option Value) (mr : List Row) (c : CRow) (Ca : Addr) : Prop where
  at_ : ClsAt K c.c Ca
  mg : mgl c.c = some (.ref Ca)
  cls : Cls K Ca
  fl : ∀ x ∈ c.fl, NoAttr K Ca x
  ms : ∀ p ∈ c.ms, ∃ f, ∃ r ∈ mr, r.hot = false ∧ r.x = mkey c.c p.1 ∧ r.ps.length = p.2 ∧ ShownM K r f ∧ Meth K Ca p.1 f
  ini : ∃ f, ∃ r ∈ mr, r.hot = false ∧ r.x = mkey c.c "__init__" ∧ r.ps.length = c.ini ∧ ShownM K r f ∧ Mk K Ca f
def tabOf (rows : List Row) : Str → Option Df := fun x => (rows.map fun r => (r.x, r.df)).lookup x
def hdOf (rows : List Row) : List (Str × List Str × List (Nat × List Str)) := rows.map fun r => (r.x, r.ps, r.kws)
theorem look_row {β : Type} {x : Str} {b : β} (g : Row → β) : ∀ {rows : List Row}, (rows.map fun r => (r.x, g r)).lookup x = some b → ∃ r ∈ rows, r.x = x ∧ g r = b
  | [], h => by cases h
  | r :: rows, h => by
    rw [List.map_cons, List.lookup_cons] at h
    split at h
    · rename_i e
      cases h
      exact ⟨r, List.mem_cons_self, (beq_iff_eq.mp e).symm, rfl⟩
    · obtain ⟨r', m, e1, e2⟩ := look_row g h
      exact ⟨r', List.mem_cons_of_mem _ m, e1, e2⟩
/-- no key stands twice -/
def keysOk (rows : List Row) : Bool := nodupB (rows.map (·.x))
theorem tab_row : ∀ {rows : List Row} {r : Row}, (rows.map (·.x)).Nodup → r ∈ rows → tabOf rows r.x = some r.df
  | s :: rows, r, n, m => by
    have n := List.nodup_cons.mp n
    unfold tabOf
    rw [List.map_cons, List.lookup_cons]
    rcases List.mem_cons.mp m with rfl | m
    · rw [beq_self_eq_true]
    · have ne : (r.x == s.x) = false := beq_eq_false_iff_ne.mpr fun e => n.1 (List.mem_map.mpr ⟨r, m, e⟩)
      rw [ne]
      exact tab_row n.2 m
theorem con_rep {d : D} {v : V} {K : PySem.W.Frag} (h : ∀ β H, Rep K β H d v) : ∀ β H, Rep K β H d v := h
theorem Prog.of {K : PySem.W.Frag} {h : Heap} {mg : Str → Option Value} {rows ms : List Row} {gl : List (Str × D)} {bl : List Str} {mu dk : List (Nat × Nat)} {cs : List CRow} {k : Nat} {es : List (Str × Str)} {xi xm : List (Str × List (Str × Bool))} {hh : List (Str × List Str)}
    (X : K.In h) (G : h.Ns mainGlobals mg) (P : Pr) (hP : P = mkPr (hdOf rows) gl bl mu cs dk es xi xm hh) (ko : keysOk (rows ++ ms) = true)
    (sc : (rows ++ ms).all Row.scopeOk = true) (bo : (rows ++ ms).all (Row.bodyOk P k) = true) (sh : ∀ r ∈ rows, r.hot = false ∧ Shown K mg r) (hc : ∀ c ∈ cs, ∃ Ca, ShownC K mg ms c Ca)
    (hb : ∀ x ∈ bl, PySem.W.nsIn K mainGlobals x = some none) (hg : ∀ p ∈ gl, ∃ u v, PySem.W.nsIn K mainGlobals p.1 = some (some u) ∧ RelV v u ∧ ∀ β H, Rep K β H p.2 v) 
    (he : ∀ p ∈ es, ErrAt K mg p.1 p.2 ∧ XfOk K p.1 p.2) (hxi : ∀ p ∈ xi, XiOk K mg p.1 p.2) (hxm : ∀ p ∈ xm, XmOk K mg p.1 p.2)
    (hhh : ∀ p ∈ hh, ∃ f, ∃ r ∈ ms, r.hot = true ∧ r.x = hkey p.1 ∧ r.nm = p.1 ∧ r.q = p.1 ∧ r.ps = p.2 ∧ ShownM K r f ∧ mg p.1 = some (.ref f)) : Prog P K mg (tabOf (rows ++ ms)) := by
  have nd := nodupB_ok ko
  have body : ∀ (r : Row) (f : Addr) (fd : FuncData), r ∈ rows ++ ms → Fun K r.nm r.q r.st f fd → (∀ us : List Value, us.length = r.ps.length → bindArgs fd ⟨us, []⟩ = pure (r.ps.zip us)) → Body P K (tabOf (rows ++ ms)) r.hot r.x r.nm r.q r.ps f fd r.st r.N := fun r f fd m F b => by
    have bk : r.bodyOk P k = true := List.all_eq_true.mp bo r m
    exact ⟨F, b, Row.scope (List.all_eq_true.mp sc r m), k, r.fz, by rw [tab_row nd m, Row.df, eqbSs_ok _ _ bk]⟩
  have mth : ∀ {c : Str} {m : Str} {np : Nat} {Ca f : Addr} {r : Row}, ClsAt K c Ca → r ∈ ms → r.hot = false → r.x = mkey c m → r.ps.length = np → ShownM K r f → MthAt P K (tabOf (rows ++ ms)) c m np Ca f := fun {c m np Ca f r} h0 h1 hh h2 h3 h4 => by
    obtain ⟨fd, F, b⟩ := h4
    exact ⟨h0, fd, r.ps, r.st, r.N, r.nm, r.q, h3, by rw [← h2, ← hh]; exact body r f fd (List.mem_append_right _ h1) F b⟩
  refine ⟨fun x e => ?_, fun x d e => ?_, fun x ps e => ?_, fun x c m => ?_, fun c m np e => ?_, fun c np e => ?_, fun c f e => ?_, fun x ps e => ?_, fun f c m => ?_, fun x l e => ?_, fun x l e => ?_⟩
  · rw [hP] at e
    exact PySem.W.mg_none_of X G (hb x (List.contains_iff_mem.mp e))
  · rw [hP] at e
    obtain ⟨u, v, a, b, c⟩ := hg (x, d) (mem_of_lookup e)
    exact ⟨u, v, PySem.W.mg_of X G a, b, c⟩
  · rw [hP] at e
    have e : ((hdOf rows).lookup x).map (·.1) = some ps := e
    obtain ⟨q, e1, e2⟩ := Option.map_eq_some_iff.mp e
    obtain ⟨r, m, rfl, rfl⟩ := look_row (fun r => (r.ps, r.kws)) e1
    cases e2
    obtain ⟨hh0, sh⟩ := sh r m
    obtain ⟨f, fd, F, hm, ⟨n1, n2⟩, b, kb⟩ := sh.ex
    have B := body r f fd (List.mem_append_left _ m) F b
    rw [n1, n2, hh0] at B
    refine ⟨f, fd, r.st, r.N, B, hm, fun n ks pl e4 e5 => ?_⟩
    rw [hP] at e4
    have e4 : (match (hdOf rows).lookup r.x with
      | some q => q.2.contains (n, ks)
      | none => false) = true := e4
    rw [e1] at e4
    exact kb (n, ks) (List.contains_iff_mem.mp e4) pl e5
  · rw [hP] at m
    obtain ⟨cr, hcr, rfl⟩ := List.mem_map.mp m
    obtain ⟨hcr, hx⟩ := List.mem_filter.mp hcr
    obtain ⟨Ca, S⟩ := hc cr hcr
    exact ⟨Ca, S.at_, S.cls, S.fl x (List.contains_iff_mem.mp hx)⟩
  · rw [hP] at e
    obtain ⟨cr, e1, e2⟩ := Option.bind_eq_some_iff.mp e
    have hcr := List.mem_of_find?_eq_some e1
    have hn : cr.c = c := by
      have := List.find?_some e1
      exact beq_iff_eq.mp this
    subst hn
    obtain ⟨Ca, S⟩ := hc cr hcr
    obtain ⟨f, r, hr, k0, k1, k2, k3, k4⟩ := S.ms (m, np) (mem_of_lookup e2)
    exact ⟨Ca, f, mth S.at_ hr k0 k1 k2 k3, S.cls, k4⟩
  · rw [hP] at e
    obtain ⟨cr, e1, rfl⟩ := Option.map_eq_some_iff.mp e
    have hcr := List.mem_of_find?_eq_some e1
    have hn : cr.c = c := by
      have := List.find?_some e1
      exact beq_iff_eq.mp this
    subst hn
    obtain ⟨Ca, S⟩ := hc cr hcr
    obtain ⟨f, r, hr, k0, k1, k2, k3, k4⟩ := S.ini
    exact ⟨Ca, f, mth S.at_ hr k0 k1 k2 k3, S.mg, k4⟩
  · rw [hP] at e
    exact (he (c, f) (mem_of_lookup e)).1
  · rw [hP] at e
    obtain ⟨f, r, hr, k0, k1, k2, k3, k4, k5, k6⟩ := hhh (x, ps) (mem_of_lookup e)
    obtain ⟨fd, F, b⟩ := k5
    have B := body r f fd (List.mem_append_right _ hr) F b
    rw [k0, k1, k2, k3, k4] at B
    exact ⟨f, fd, r.st, r.N, B, k6⟩
  · rw [hP] at m
    obtain ⟨p, hp, rfl⟩ := List.mem_map.mp m
    obtain ⟨hp, hx⟩ := List.mem_filter.mp hp
    have hx := beq_iff_eq.mp hx
    rw [← hx]
    exact (he p hp).2
  · rw [hP] at e
    exact hxi (x, l) (mem_of_lookup e)
  · rw [hP] at e
    exact hxm (x, l) (mem_of_lookup e)
theorem ShownC.mk' {K : PySem.W.Frag} {h : Heap} {mg : Str → Option Value} {ms : List Row} {c : CRow} {Ca : Addr} (X : K.In h) (G : h.Ns mainGlobals mg) (a : PySem.W.nsIn K mainGlobals c.c = some (some (.ref Ca)))
    (c1 : PySem.W.plainGet K Ca Str.empty = true) (c2 : PySem.W.hasDictIn K Ca = true) (c3 : PySem.W.plainOver K Ca = true) (c4 : PySem.W.findIn K (.ref Ca) "__setattr__" = some (some (.builtin "object.__setattr__")))
    (fl : ∀ x ∈ c.fl, NoAttr K Ca x) (me : ∀ p ∈ c.ms, ∃ f, ∃ r ∈ ms, r.hot = false ∧ r.x = mkey c.c p.1 ∧ r.ps.length = p.2 ∧ ShownM K r f ∧ Meth K Ca p.1 f)
    (ini : ∃ f, ∃ r ∈ ms, r.hot = false ∧ r.x = mkey c.c "__init__" ∧ r.ps.length = c.ini ∧ ShownM K r f ∧ Mk K Ca f) : ShownC K mg ms c Ca := ⟨a, PySem.W.mg_of X G a, ⟨c1, c2, c3, c4⟩, fl, me, ini⟩
theorem meth_of {K : PySem.W.Frag} {ms : List Row} {c m : Str} {np : Nat} {Ca f : Addr} (r : Row) (h1 : r ∈ ms) (h0 : r.hot = false) (h2 : r.x = mkey c m) (h3 : r.ps.length = np) (a : PySem.W.findIn K (.ref Ca) m = some (some (.ref f))) (fn : PySem.W.isFn K (.ref f) = true) (kp : PySem.W.keepIn K (.ref f) = true) (s : ShownM K r f) :
    ∃ f, ∃ r ∈ ms, r.hot = false ∧ r.x = mkey c m ∧ r.ps.length = np ∧ ShownM K r f ∧ Meth K Ca m f := ⟨f, r, h1, h0, h2, h3, s, a, fn, kp⟩
theorem init_of {K : PySem.W.Frag} {ms : List Row} {c : Str} {np : Nat} {Ca f : Addr} (r : Row) (h1 : r ∈ ms) (h0 : r.hot = false) (h2 : r.x = mkey c "__init__") (h3 : r.ps.length = np) (mk : PySem.W.makesIn K Ca = true) (a : PySem.W.findIn K (.ref Ca) "__init__" = some (some (.ref f))) (fn : PySem.W.isFn K (.ref f) = true)
    (kp : PySem.W.keepIn K (.ref Ca) = true) (s : ShownM K r f) : ∃ f, ∃ r ∈ ms, r.hot = false ∧ r.x = mkey c "__init__" ∧ r.ps.length = np ∧ ShownM K r f ∧ Mk K Ca f := ⟨f, r, h1, h0, h2, h3, s, mk, a, fn, kp⟩
/-- a statement of a class's body -/
def inC (s : Stmt) (j : Nat) : Stmt := match s with
  | .ClassDef _ _ _ body _ _ _ _ _ _ _ => body.getD j (.Pass ⟨0, 0, 0, 0⟩)
  | s => s
abbrev hdr (x : Str) (ps : List Str) (k : List (Nat × List Str)) : Str × List Str × List (Nat × List Str) := (x, ps, k)
abbrev glv (x : Str) (d : D) : Str × D := (x, d)
/-- which rows do not suit -/
def badRows (P : Pr) (k : Nat) (rows : List Row) : List Str := (rows.filter fun r => !(r.bodyOk P k)).map (·.x)
theorem con_int {K : PySem.W.Frag} {x : Str} {i : Int} {t : Tok} (h : PySem.W.nsIn K mainGlobals x = some (some (.int i t))) : ∃ u v, PySem.W.nsIn K mainGlobals x = some (some u) ∧ RelV v u ∧ ∀ β H, Rep K β H (.int i) v := ⟨_, .int i, h, ⟨_, rfl⟩, fun _ _ => int_rep i⟩
theorem con_str {K : PySem.W.Frag} {x s : Str} {t : Tok} (h : PySem.W.nsIn K mainGlobals x = some (some (.str s t))) (z : s.length ≤ sizeLine) : ∃ u v, PySem.W.nsIn K mainGlobals x = some (some u) ∧ RelV v u ∧ ∀ β H, Rep K β H (.str s) v := ⟨_, .str s, h, ⟨_, rfl⟩, fun _ _ => str_rep z⟩
theorem ints_reps {K : PySem.W.Frag} {β : Bk} {H : Hp} : ∀ ns : List Int, Reps K β H (ns.map D.int) (ns.map V.int)
  | [] => Reps.nil
  | i :: ns => Reps.cons (int_rep i) (ints_reps ns)
theorem walk {l : PySem.W.OpenLaw} {q : Program} {loose : List Str} {XP : (Str → Option Value) → Heap → Prop} {YP : World → Heap → Prop} {d : DefRec} {K : Params → PySem.W.Frag} {P : Pr} {T : Str → Option Df} {W m : Nat} {f : Str} {x : Str}
    (hn : l.most = some 63) (hdf : d.params.defaults = []) (hr : Room (2 * m + 1) callerA)
    (hY : ∀ (w : World) (h : Heap), YP w h → (K w.params).In h) (hps : P.ps f = some [x]) (hf : d.name = f)
    (F : ∀ (w : World) (mg : Str → Option Value) (h : Heap), (K w.params).In h → h.Ns mainGlobals mg → Prog P (K w.params) mg T)
    (L : ∀ ns : List Int, ns.length ≤ 63 → ∃ S, callF T P.gl W m f [.fz (ns.map .int)] [] = .ok (.bl true) S) :
    PySem.W.WalkO q loose XP YP l.row.toRowW d [] (fun f vs => PySem.call f vs) := by
  refine L2.walk_of (n := 63) (k := 2 * m + 1) (x := x) (CX := fun w => L2N.CX l.prog w) (sp := fun w => spF (K w.params) (callF T P.gl W m) f 1) hn (by decide) hdf hr hY (fun w mg fa h X G hm => ?_) (fun w H a ns hl ho hs => ?_) fun _ _ _ _ _ z => by
    obtain ⟨_, _, _, _, _, _, _, _, _, _, _, _, z⟩ := z
    exact z.elim
  · have G1 := F w mg h X G
    obtain ⟨f1, fd, st, N, D1⟩ := G1.fns f [x] hps
    rw [hf] at hm
    have e := hm.symm.trans D1.glob
    cases e
    exact ⟨fd, fun s u => .of_eq (D1.bnd [u] rfl), fun base Xb Gb => prog_ok G1 m f f f [x] fa fd st N D1.toBody⟩
  · obtain ⟨S, e⟩ := L ns hl
    refine ⟨[.fz (ns.map .int)], [], ⟨[], []⟩, ?_, ?_, rfl, ?_⟩
    · refine Reps.one ?_
      simp only [Rep]
      refine ⟨a, ns.map .int, rfl, ?_, by rw [List.length_map]; exact Nat.le_trans hl (by decide), ints_reps ns⟩
      rcases hs with hs | hs
      · rcases hs with hs | ⟨o, hs⟩
        · rcases ho a with h0 | ⟨o, xs, h0⟩ <;> rw [hs] at h0 <;> cases h0
        · exact .inl ⟨by simp, o, hs⟩
      · exact .inr hs
    · exact ⟨rfl, .nil, fun l c e => by simp at e, fun a m => by simp at m⟩
    · rw [e]
      intro v β' H' x r s
      cases v <;> simp_all [Rep]
end Pyx
end
section
/-! Error classes of a table, by facts of the head. -/
namespace Pyx
open PySem PySem.W L2
/-- the body of an error's __init__ -/
def isInit (sf f : Str) : List Stmt → Bool
  | [.Assign [.Attribute (.Name x _) g _] (.Name y _) _] => x == sf && g == f && y == f
  | _ => false
theorem isInit_ok {sf f : Str} {b : List Stmt} (h : isInit sf f b = true) : ∃ p0 p1 p2 pos, b = [.Assign [.Attribute (.Name sf p0) f p1] (.Name f p2) pos] := by
  unfold isInit at h
  split at h
  · rename_i x p0 g p1 y p2 pos
    simp only [Bool.and_eq_true, beq_iff_eq] at h
    obtain ⟨⟨rfl, rfl⟩, h3⟩ := h
    rw [h3]
    exact ⟨p0, p1, p2, pos, rfl⟩
  · cases h
theorem err_of {K : Frag} {h : Heap} {mg : Str → Option Value} {c f sf : Str} {C fI : Addr} {r : Row} {nm q : Str} {N bs : _} {bm : List Value} {sn sub ab col dd k0 k1 k2 k3 k5 : _} (X : K.In h) (G : h.Ns mainGlobals mg) (a : nsIn K mainGlobals c = some (some (.ref C)))
    (lk : K.lookup C = some (excClassObj nm q C N bs bm true sn sub ab col dd k0 k1 k2 k3 k5 "ValueError.__new__")) (rv : PySem.HandSPX.refsVE bm = true) (sa : findIn K (.ref C) "__setattr__" = some (some (.builtin "object.__setattr__")))
    (ex : subIn K (.ref C) (.type "BaseException") = some true) (ty : typeIn K (.ref C) = some (.type "type")) (kp : keepIn K (.ref C) = true) (ini : findIn K (.ref C) "__init__" = some (some (.ref fI))) (tI : typeIn K (.ref fI) = some (.type "function"))
    (hno : findIn K (.ref C) f = some none) (ga : findIn K (.ref C) "__getattribute__" = some (some (.builtin "BaseException.__getattribute__"))) (gg : findIn K (.ref C) "__getattr__" = some none) (hd : hasDictIn K C = true)
    (sh : ShownM K r fI) (ps : r.ps = [sf, f]) (hN : r.N = [sf, f]) (sc : r.scopeOk = true) (bd : isInit sf f (defBody r.st) = true) (o1 : okN sf = true) (o2 : okN f = true) : ErrAt K mg c f ∧ XfOk K c f := by
  obtain ⟨fd, F, b⟩ := sh
  obtain ⟨p0, p1, p2, pos, eb⟩ := isInit_ok bd
  have S := Row.scope sc
  rw [hN, ps] at S
  rw [ps] at b
  exact ⟨⟨C, fI, sf, _, _, r.st, fd, p0, p1, p2, pos, a, ⟨⟨nm, q, N, bs, bm, sn, sub, ab, col, dd, k0, k1, k2, k3, k5, lk, rv⟩, sa, ex, ty, kp⟩, mg_of X G a, ini, tI, hno, F, b, S, eb, o1, o2⟩, ⟨C, a, ⟨ga, gg, ex, hd⟩, hno⟩⟩
theorem exc_of {K : Frag} {D : Addr} (ga : findIn K (.ref D) "__getattribute__" = some (some (.builtin "BaseException.__getattribute__"))) (gg : findIn K (.ref D) "__getattr__" = some none) (ex : subIn K (.ref D) (.type "BaseException") = some true) (hd : hasDictIn K D = true)
    (ha : findIn K (.ref D) "__class__" = some (some (.builtin "object.__class__"))) (hn : specialIn K (.builtin "object.__class__") "__get__" = some (some (.builtin "getset_descriptor.__get__"))) (ht : takesIn K (.builtin "object.__class__") = some true) (hm : mroIn K D (.type "object") = some true) : ExcC K D := ⟨ga, gg, ex, hd, ha, hn, ht, hm⟩
/-- one line of isinstance's table -/
def XiAt (K : Frag) (cv : Value) (p : Str × Bool) : Prop := ∃ C, ClsAt K p.1 C ∧ ExcC K C ∧ kitOne K (.ref C) cv = some p.2
def XmAt (K : Frag) (cv : Value) (p : Str × Bool) : Prop := ∃ C, ClsAt K p.1 C ∧ exmOne K (.ref C) cv = some p.2
theorem xi_own {K : Frag} {h : Heap} {mg : Str → Option Value} {x : Str} {ms : List (Str × Bool)} {C : Addr} (X : K.In h) (G : h.Ns mainGlobals mg) (a : nsIn K mainGlobals x = some (some (.ref C))) (l : ∀ p ∈ ms, XiAt K (.ref C) p) : XiOk K mg x ms :=
  ⟨.ref C, .ref C, fun u r => r, .inl ⟨mg_of X G a, rfl⟩, l⟩
theorem xi_bt {K : Frag} {h : Heap} {mg : Str → Option Value} {x : Str} {T : String} {ms : List (Str × Bool)} (X : K.In h) (G : h.Ns mainGlobals mg) (a : nsIn K mainGlobals x = some none) (b : bootBuiltins x = some (.type T)) (l : ∀ p ∈ ms, XiAt K (.type T) p) : XiOk K mg x ms :=
  ⟨.ty T, .type T, fun u r => r, .inr ⟨mg_none_of X G a, b, rfl⟩, l⟩
theorem xm_own {K : Frag} {h : Heap} {mg : Str → Option Value} {x : Str} {ms : List (Str × Bool)} {C : Addr} (X : K.In h) (G : h.Ns mainGlobals mg) (a : nsIn K mainGlobals x = some (some (.ref C))) (l : ∀ p ∈ ms, XmAt K (.ref C) p) : XmOk K mg x ms :=
  ⟨.ref C, mg_of X G a, l⟩
theorem xm_at {K : Frag} {c : Str} {b : Bool} {C D : Addr} (a : nsIn K mainGlobals c = some (some (.ref D))) (h1 : subIn K (.ref C) (.type "BaseException") = some true) (hd : hasDictIn K C = true) (ht : typeIn K (.ref C) = some (.type "type")) (h4 : subIn K (.ref D) (.ref C) = some b) : XmAt K (.ref C) (c, b) :=
  ⟨D, a, exm_ref h1 hd ht h4⟩
theorem xi_at {K : Frag} {c : Str} {b : Bool} {C D : Addr} (a : nsIn K mainGlobals c = some (some (.ref D))) (E : ExcC K D) (hd : hasDictIn K C = true) (ht : typeIn K (.ref C) = some (.type "type")) (h4 : subIn K (.ref D) (.ref C) = some b) (ne : D = C → b = true) : XiAt K (.ref C) (c, b) := by
  refine ⟨D, a, E, ?_⟩
  unfold kitOne
  split
  · rename_i e
    have e2 : D = C := Value.ref.inj (beq_iff_eq.mp e)
    show some true = some b
    rw [ne e2]
  · obtain ⟨cd, hc, _⟩ := any_some hd
    have e2 : ((clsIn K C).isSome && typeIn K (.ref C) == some (.type "type")) = true := by rw [hc, ht] <;> rfl
    show (if ((clsIn K C).isSome && typeIn K (.ref C) == some (.type "type")) = true then subIn K (.ref D) (.ref C) else none) = some b
    rw [if_pos e2, h4]
theorem xi_bat {K : Frag} {c : Str} {b : Bool} {T : String} {D : Addr} (a : nsIn K mainGlobals c = some (some (.ref D))) (E : ExcC K D) (hk : kitMeta T = true) (h4 : subIn K (.ref D) (.type T) = some b) : XiAt K (.type T) (c, b) := by
  refine ⟨D, a, E, ?_⟩
  show (if kitMeta T = true then subIn K (.ref D) (.type T) else none) = some b
  rw [if_pos hk, h4]
theorem hot_of {K : Frag} {h : Heap} {mg : Str → Option Value} {ms : List Row} {x : Str} {ps : List Str} {f : Addr} (X : K.In h) (G : h.Ns mainGlobals mg) (r : Row) (h1 : r ∈ ms) (h0 : r.hot = true) (h2 : r.x = hkey x) (h3 : r.nm = x) (h4 : r.q = x) (h5 : r.ps = ps) (s : ShownM K r f) (a : nsIn K mainGlobals x = some (some (.ref f))) :
    ∃ f, ∃ r ∈ ms, r.hot = true ∧ r.x = hkey x ∧ r.nm = x ∧ r.q = x ∧ r.ps = ps ∧ ShownM K r f ∧ mg x = some (.ref f) := ⟨f, r, h1, h0, h2, h3, h4, h5, s, mg_of X G a⟩
end Pyx
end
section
/-! Reasoning about the reckoning: what comes out of it. -/
namespace Pyx
open PySem (Str sizeLine)
/-- it ends well, with Q -/
def Ok {α : Type} (r : R α) (Q : α → Store → Prop) : Prop := match r with
  | .ok a S => Q a S
  | _ => False
section
variable {α β : Type} {Q : α → Store → Prop} {S : Store}
@[simp] theorem Ok_ok (a : α) : Ok (.ok a S) Q ↔ Q a S := Iff.rfl
@[simp] theorem Ok_stuck : Ok (.stuck : R α) Q ↔ False := Iff.rfl
@[simp] theorem Ok_bind (r : R β) (f : β → Store → R α) : Ok (r.bind f) Q ↔ Ok r fun a S1 => Ok (f a S1) Q := by
  cases r <;> rfl
@[simp] theorem Ok_noX (r : R α) : Ok r.noX Q ↔ Ok r Q := by cases r <;> rfl
theorem Ok.mono {r : R α} {P : α → Store → Prop} (h : Ok r P) (k : ∀ a S1, P a S1 → Q a S1) : Ok r Q := by
  cases r with
  | ok a S1 => exact k a S1 h
  | _ => exact h
theorem Ok.get {r : R α} (h : Ok r Q) : ∃ a S1, r = .ok a S1 ∧ Q a S1 := by
  cases r with
  | ok a S1 => exact ⟨a, S1, rfl, h⟩
  | _ => exact h.elim
theorem Ok_eq {r : R α} {a : α} {S1 : Store} (h : r = .ok a S1) : Ok r Q ↔ Q a S1 := by rw [h]; rfl
@[simp] theorem Ok_give (o : Option α) : Ok (give S o) Q ↔ ∃ a, o = some a ∧ Q a S := by
  cases o <;> simp [give]
@[simp] theorem Ok_ite (c : Prop) [Decidable c] (a b : R α) : Ok (if c then a else b) Q ↔ if c then Ok a Q else Ok b Q := by
  split <;> rfl
end
section
variable {Q : D → Store → Prop} {S : Store}
@[simp] theorem Ok_mkL (m : Bool) (ds : List D) : Ok (mkL m ds S) Q ↔ ds.length ≤ sizeLine ∧ if m then Q (.ref S.length) (S ++ [.lst ds]) else Q (.lst ds) S := by
  unfold mkL
  split
  · rename_i h; simp only [h, true_and]; split <;> rfl
  · rename_i h; simp [h]
@[simp] theorem Ok_mkT (ds : List D) : Ok (mkT ds S) Q ↔ ds.length ≤ sizeLine ∧ Q (.tup ds) S := by
  unfold mkT
  split
  · rename_i h; simp [h]
  · rename_i h; simp [h]
@[simp] theorem Ok_mkS (s : Str) : Ok (mkS s S) Q ↔ s.length ≤ sizeLine ∧ Q (.str s) S := by
  unfold mkS
  split
  · rename_i h; simp [h]
  · rename_i h; simp [h]
@[simp] theorem Ok_condS {Q : Bool → Store → Prop} (d : D) : Ok (condS S d) Q ↔ ∃ b, truth S d = some b ∧ Q b S := by simp [condS]
@[simp] theorem Ok_blR (o : Option Bool) : Ok (blR S o) Q ↔ ∃ b, o = some b ∧ Q (.bl b) S := by cases o <;> simp [blR]
@[simp] theorem Ok_intR (o : Option Int) : Ok (intR S o) Q ↔ ∃ b, o = some b ∧ Q (.int b) S := by cases o <;> simp [intR]
end
section
variable {C : Str → List D → Store → R D} {G : Str → Option D} {ρ : Env} {S : Store}
section
variable {Q : D → Store → Prop}
@[simp] theorem Ok_var (i : Nat) : Ok (evE C G (.var i) ρ S) Q ↔ ∃ d, ρ[i]?.join = some d ∧ Q d S := by simp [evE]
@[simp] theorem Ok_con (d : D) : Ok (evE C G (.con d) ρ S) Q ↔ Q d S := by simp [evE]
@[simp] theorem Ok_glob (x : Str) : Ok (evE C G (.glob x) ρ S) Q ↔ ∃ d, G x = some d ∧ Q d S := by simp [evE]
@[simp] theorem Ok_tup (es : Es) : Ok (evE C G (.tup es) ρ S) Q ↔ Ok (evEs C G es ρ S) fun ds S1 => Ok (mkT ds S1) Q := by simp only [evE, Ok_bind]
@[simp] theorem Ok_lst (m : Bool) (es : Es) : Ok (evE C G (.lst m es) ρ S) Q ↔ Ok (evEs C G es ρ S) fun ds S1 => Ok (mkL m ds S1) Q := by simp only [evE, Ok_bind]
@[simp] theorem Ok_bin (o : BOp) (a b : E) : Ok (evE C G (.bin o a b) ρ S) Q ↔ Ok (evE C G a ρ S) fun x S1 => Ok (evE C G b ρ S1) fun y S2 => Ok (binD o x y S2) Q := by simp only [evE, Ok_bind]
@[simp] theorem Ok_neg (a : E) : Ok (evE C G (.neg a) ρ S) Q ↔ Ok (evE C G a ρ S) fun x S1 => ∃ i, x = .int i ∧ Q (.int (-i)) S1 := by
  simp only [evE, Ok_bind]
  constructor <;> intro h <;> refine h.mono fun x S1 k => ?_
  · cases x <;> simp_all
  · obtain ⟨i, rfl, k⟩ := k; exact k
@[simp] theorem Ok_not (a : E) : Ok (evE C G (.not a) ρ S) Q ↔ Ok (evE C G a ρ S) fun x S1 => ∃ b, truth S1 x = some b ∧ Q (.bl (!b)) S1 := by simp only [evE, Ok_bind, Ok_condS, Ok_ok]
@[simp] theorem Ok_and (a b : E) : Ok (evE C G (.and a b) ρ S) Q ↔ Ok (evE C G a ρ S) fun x S1 => ∃ c, truth S1 x = some c ∧ if c then Ok (evE C G b ρ S1) Q else Q x S1 := by simp only [evE, Ok_bind, Ok_condS, Ok_ite, Ok_ok]
@[simp] theorem Ok_or (a b : E) : Ok (evE C G (.or a b) ρ S) Q ↔ Ok (evE C G a ρ S) fun x S1 => ∃ c, truth S1 x = some c ∧ if c then Q x S1 else Ok (evE C G b ρ S1) Q := by simp only [evE, Ok_bind, Ok_condS, Ok_ite, Ok_ok]
@[simp] theorem Ok_cmp (o : COp) (a b : E) : Ok (evE C G (.cmp o a b) ρ S) Q ↔ Ok (evE C G a ρ S) fun x S1 => Ok (evE C G b ρ S1) fun y S2 => ∃ r, cmpB o x y S2 = some r ∧ Q (.bl r) S2 := by simp only [evE, Ok_bind, cmpD, Ok_blR]
@[simp] theorem Ok_cmp2 (o p : COp) (a b c : E) : Ok (evE C G (.cmp2 o p a b c) ρ S) Q ↔ Ok (evE C G a ρ S) fun x S1 => Ok (evE C G b ρ S1) fun y S2 => ∃ r, cmpB o x y S2 = some r ∧ if r then Ok (evE C G c ρ S2) fun z S4 => ∃ r, cmpB p y z S4 = some r ∧ Q (.bl r) S4 else Q (.bl false) S2 := by
  simp only [evE, Ok_bind, Ok_give, Ok_ite, cmpD, Ok_blR, Ok_ok]
@[simp] theorem Ok_eite (c a b : E) : Ok (evE C G (.ite c a b) ρ S) Q ↔ Ok (evE C G c ρ S) fun x S1 => ∃ k, truth S1 x = some k ∧ if k then Ok (evE C G a ρ S1) Q else Ok (evE C G b ρ S1) Q := by simp only [evE, Ok_bind, Ok_condS, Ok_ite]
@[simp] theorem Ok_ix (a i : E) : Ok (evE C G (.ix a i) ρ S) Q ↔ Ok (evE C G a ρ S) fun x S1 => Ok (evE C G i ρ S1) fun y S2 => Ok (ixD x y S2) Q := by simp only [evE, Ok_bind]
@[simp] theorem Ok_sl (m : Bool) (a : E) (lo hi : Ob) : Ok (evE C G (.sl m a lo hi) ρ S) Q ↔ Ok (evE C G a ρ S) fun x S1 => Ok (evO C G lo ρ S1) fun l S2 => Ok (evO C G hi ρ S2) fun h S3 => Ok (slD m x l h S3) Q := by simp only [evE, Ok_bind]
@[simp] theorem Ok_rev (a : E) : Ok (evE C G (.rev a) ρ S) Q ↔ Ok (evE C G a ρ S) fun x S1 => ∃ ds, x = .tup ds ∧ Ok (mkT ds.reverse S1) Q := by
  simp only [evE, Ok_bind]
  constructor <;> intro h <;> refine h.mono fun x S1 k => ?_
  · cases x <;> simp_all
  · obtain ⟨i, rfl, k⟩ := k; exact k
@[simp] theorem Ok_call (f : Str) (es : Es) : Ok (evE C G (.call f es) ρ S) Q ↔ Ok (evEs C G es ρ S) fun ds S1 => Ok (C f ds S1) Q := by simp only [evE, Ok_bind]
@[simp] theorem Ok_callk (f : Str) (es : Es) (ks : List Nat) (kes : Es) : Ok (evE C G (.callk f es ks kes) ρ S) Q ↔ Ok (evEs C G es ρ S) fun ds S1 => Ok (evEs C G kes ρ S1) fun ws S2 => ∃ us, ks.mapM (fun i => (ds ++ ws)[i]?) = some us ∧ Ok (C f us S2) Q := by simp only [evE, Ok_bind, Ok_give]
@[simp] theorem Ok_bi (b : Bi) (m : Bool) (es : Es) : Ok (evE C G (.bi b m es) ρ S) Q ↔ Ok (evEs C G es ρ S) fun ds S1 => Ok (biD b m ds S1) Q := by simp only [evE, Ok_bind]
@[simp] theorem Ok_isin (a : E) (ts : List Ty) : Ok (evE C G (.isin a ts) ρ S) Q ↔ Ok (evE C G a ρ S) fun x S1 => ∃ b, isTys x S1 ts = some b ∧ Q (.bl b) S1 := by simp only [evE, Ok_bind, Ok_give, Ok_ok]
@[simp] theorem Ok_mt (t : Mt) (m : Bool) (a : E) (es : Es) : Ok (evE C G (.mt t m a es) ρ S) Q ↔ Ok (evE C G a ρ S) fun x S1 => if mtTy t x S1 then Ok (evEs C G es ρ S1) fun ds S2 => Ok (mtD t m x ds S2) Q else False := by simp only [evE, Ok_bind, Ok_ite, Ok_stuck]
theorem Ok_comp (m : Bool) (own : List Nat) (e : E) (t : Tg) (s : Src) (cs : Es) : Ok (evE C G (.comp m own e t s cs) ρ S) Q ↔ Ok (evSrc C G s ρ S) fun p S1 =>
      Ok (compGo p.2 (fun x S2 => (asgT C G t x (wipeE ρ own) S2).bind fun ρ1 S3 => (evCs C G cs ρ1 S3).bind fun b S4 =>
        if b then (evE C G e ρ1 S4).bind fun y S5 => .ok [y] S5 else .ok [] S4) p.1 S1) fun ds S2 => Ok (mkL m ds S2) Q := by simp only [evE, Ok_bind, Ok_noX]
end
section
variable {Q : List D → Store → Prop}
@[simp] theorem Ok_enil : Ok (evEs C G .nil ρ S) Q ↔ Q [] S := by simp only [evEs, Ok_ok]
@[simp] theorem Ok_econs (e : E) (es : Es) : Ok (evEs C G (.cons e es) ρ S) Q ↔ Ok (evE C G e ρ S) fun d S1 => Ok (evEs C G es ρ S1) fun ds S2 => Q (d :: ds) S2 := by simp only [evEs, Ok_bind, Ok_ok]
end
@[simp] theorem Ok_onone {Q : Option Int → Store → Prop} : Ok (evO C G .none ρ S) Q ↔ Q none S := by simp only [evO, Ok_ok]
@[simp] theorem Ok_osome {Q : Option Int → Store → Prop} (e : E) : Ok (evO C G (.some e) ρ S) Q ↔ Ok (evE C G e ρ S) fun d S1 => ∃ i, asI d = some i ∧ Q (some i) S1 := by simp only [evO, Ok_bind, Ok_give, Ok_ok]
@[simp] theorem Ok_cnil {Q : Bool → Store → Prop} : Ok (evCs C G .nil ρ S) Q ↔ Q true S := by simp only [evCs, Ok_ok]
@[simp] theorem Ok_ccons {Q : Bool → Store → Prop} (e : E) (es : Es) : Ok (evCs C G (.cons e es) ρ S) Q ↔ Ok (evE C G e ρ S) fun d S1 => ∃ b, truth S1 d = some b ∧ if b then Ok (evCs C G es ρ S1) Q else Q false S1 := by simp only [evCs, Ok_bind, Ok_condS, Ok_ite, Ok_ok]
def exO {α : Type} (o : Option α) (P : α → Prop) : Prop := match o with
  | some a => P a
  | none => False
@[simp] theorem exO_some {α : Type} (a : α) (P : α → Prop) : exO (some a) P = P a := rfl
@[simp] theorem exO_none {α : Type} (P : α → Prop) : exO none P = False := rfl
section
variable {Q : List D × Guard → Store → Prop}
@[simp] theorem Ok_sval (e : E) : Ok (evSrc C G (.val e) ρ S) Q ↔ Ok (evE C G e ρ S) fun d S1 => exO (srcVal S1 d) fun p => Q p S1 := by
  simp only [evSrc, Ok_bind]
  constructor <;> intro h <;> refine h.mono fun x S1 k => ?_
  · cases e : srcVal S1 x <;> rw [e] at k <;> exact k
  · cases e : srcVal S1 x <;> rw [e] at k <;> exact k
@[simp] theorem Ok_srng (es : Es) : Ok (evSrc C G (.rng es) ρ S) Q ↔ Ok (evEs C G es ρ S) fun ds S1 => exO (srcRng ds) fun is => Q (is, none) S1 := by
  simp only [evSrc, Ok_bind]
  constructor <;> intro h <;> refine h.mono fun x S1 k => ?_
  · cases e : srcRng x <;> rw [e] at k <;> exact k
  · cases e : srcRng x <;> rw [e] at k <;> exact k
@[simp] theorem Ok_senum (e : E) : Ok (evSrc C G (.enum e) ρ S) Q ↔ Ok (evE C G e ρ S) fun d S1 => exO (srcEnum S1 d) fun p => Q p S1 := by
  simp only [evSrc, Ok_bind]
  constructor <;> intro h <;> refine h.mono fun x S1 k => ?_
  · cases e : srcEnum S1 x <;> rw [e] at k <;> exact k
  · cases e : srcEnum S1 x <;> rw [e] at k <;> exact k
end
section
variable {Q : Env → Store → Prop}
@[simp] theorem Ok_tvar (i : Nat) (d : D) : Ok (asgT C G (.var i) d ρ S) Q ↔ i < ρ.length ∧ Q (ρ.set i (some d)) S := by
  simp only [asgT, Ok_ite, Ok_ok, Ok_stuck]
  by_cases h : i < ρ.length
  · simp only [h, if_true, true_and]
  · simp only [h, if_false, false_and]
@[simp] theorem Ok_tsub (o i : E) (d : D) : Ok (asgT C G (.sub o i) d ρ S) Q ↔ Ok (evE C G o ρ S) fun x S1 => Ok (evE C G i ρ S1) fun y S2 => ∃ S3, stoD S2 x y d = some S3 ∧ Q ρ S3 := by
  simp only [asgT, Ok_bind]
  constructor <;> intro h <;> refine h.mono fun x S1 h => h.mono fun y S2 h => ?_
  · cases e : stoD S2 x y d with
    | none => rw [e] at h; exact h.elim
    | some S3 => rw [e] at h; exact ⟨S3, rfl, h⟩
  · obtain ⟨S3, e, q⟩ := h
    rw [e]; exact q
theorem stoD_lst {S : Store} {l : Nat} {ds : List D} {k : Int} {d : D} (h : S[l]? = some (.lst ds)) : stoD S (.ref l) (.int k) d = (L2.ixN ds.length k).map fun j => S.set l (.lst (ds.set j d)) := by
  simp only [stoD, h]
@[simp] theorem Ok_ttup (ts : Tgs) (d : D) : Ok (asgT C G (.tup ts) d ρ S) Q ↔ ∃ ds, d = .tup ds ∧ ds.length = ts.len ∧ Ok (asgTs C G ts ds ρ S) Q := by
  simp only [asgT]
  constructor
  · intro h
    split at h
    · split at h
      · rename_i e; exact ⟨_, rfl, e, h⟩
      · exact h.elim
    · exact h.elim
  · rintro ⟨ds, rfl, e, h⟩
    simp only [e, if_true, h]
@[simp] theorem Ok_tnil : Ok (asgTs C G .nil [] ρ S) Q ↔ Q ρ S := by simp only [asgTs, Ok_ok]
@[simp] theorem Ok_tcons (t : Tg) (ts : Tgs) (d : D) (ds : List D) : Ok (asgTs C G (.cons t ts) (d :: ds) ρ S) Q ↔ Ok (asgT C G t d ρ S) fun ρ1 S1 => Ok (asgTs C G ts ds ρ1 S1) Q := by simp only [asgTs, Ok_bind]
end
section
variable {Q : Fl → Store → Prop} {W : Nat}
@[simp] theorem Ok_asg (t : Tg) (e : E) : Ok (exS C G W (.asg t e) ρ S) Q ↔ Ok (evE C G e ρ S) fun d S1 => Ok (asgT C G t d ρ S1) fun ρ1 S2 => Q (.nx ρ1) S2 := by simp only [exS, Ok_bind, Ok_ok]
@[simp] theorem Ok_expr (e : E) : Ok (exS C G W (.expr e) ρ S) Q ↔ Ok (evE C G e ρ S) fun _ S1 => Q (.nx ρ) S1 := by simp only [exS, Ok_bind, Ok_ok]
@[simp] theorem Ok_ret (e : E) : Ok (exS C G W (.ret e) ρ S) Q ↔ Ok (evE C G e ρ S) fun d S1 => Q (.rt d) S1 := by simp only [exS, Ok_bind, Ok_ok]
@[simp] theorem Ok_retN : Ok (exS C G W .retN ρ S) Q ↔ Q (.rt .non) S := by simp only [exS, Ok_ok]
@[simp] theorem Ok_site (c : E) (a b : Ss) : Ok (exS C G W (.ite c a b) ρ S) Q ↔ Ok (evE C G c ρ S) fun x S1 => ∃ k, truth S1 x = some k ∧ if k then Ok (exSs C G W a ρ S1) Q else Ok (exSs C G W b ρ S1) Q := by simp only [exS, Ok_bind, Ok_condS, Ok_ite]
theorem Ok_for (t : Tg) (s : Src) (b : Ss) : Ok (exS C G W (.for t s b) ρ S) Q ↔ Ok (evSrc C G s ρ S) fun p S1 => Ok (forGo p.2 (fun x ρ1 S2 => (asgT C G t x ρ1 S2).bind fun ρ2 S3 => exSs C G W b ρ2 S3) p.1 ρ S1) Q := by simp only [exS, Ok_bind]
@[simp] theorem Ok_pass : Ok (exS C G W .pass ρ S) Q ↔ Q (.nx ρ) S := by simp only [exS, Ok_ok]
@[simp] theorem Ok_snil : Ok (exSs C G W .nil ρ S) Q ↔ Q (.nx ρ) S := by simp only [exSs, Ok_ok]
/-- what stands behind a statement -/
def after (Q : Fl → Store → Prop) (k : Env → Store → Prop) (fl : Fl) (S : Store) : Prop := match fl with
  | .nx ρ => k ρ S
  | fl => Q fl S
@[simp] theorem after_nx (k : Env → Store → Prop) : after Q k (.nx ρ) S = k ρ S := rfl
@[simp] theorem after_rt (k : Env → Store → Prop) (d : D) : after Q k (.rt d) S = Q (.rt d) S := rfl
@[simp] theorem after_bk (k : Env → Store → Prop) : after Q k (.bk ρ) S = Q (.bk ρ) S := rfl
@[simp] theorem after_ct (k : Env → Store → Prop) : after Q k (.ct ρ) S = Q (.ct ρ) S := rfl
@[simp] theorem Ok_scons (s : Pyx.S) (ss : Ss) : Ok (exSs C G W (.cons s ss) ρ S) Q ↔ Ok (exS C G W s ρ S) (after Q fun ρ1 S1 => Ok (exSs C G W ss ρ1 S1) Q) := by
  simp only [exSs, Ok_bind]
  constructor <;> intro h <;> refine h.mono fun fl S1 k => ?_ <;> cases fl <;> exact k
end
end
section
variable {S : Store}
@[simp] theorem truth_bl (b : Bool) : truth S (.bl b) = some b := rfl
@[simp] theorem truth_int (i : Int) : truth S (.int i) = some (i != 0) := rfl
@[simp] theorem truth_non : truth S .non = some false := rfl
@[simp] theorem truth_str (s : Str) : truth S (.str s) = some ((s.length : Int) != 0) := rfl
@[simp] theorem truth_tup (ds : List D) : truth S (.tup ds) = some (!ds.isEmpty) := rfl
@[simp] theorem truth_lst (ds : List D) : truth S (.lst ds) = some (!ds.isEmpty) := rfl
@[simp] theorem isTys_nil (d : D) : isTys d S [] = some false := rfl
@[simp] theorem isTy_non (t : Ty) : isTy .non S t = some false := rfl
@[simp] theorem isTy_bl (b : Bool) (t : Ty) : isTy (.bl b) S t = some (decide (t = .int) || decide (t = .bool)) := rfl
@[simp] theorem isTy_int (i : Int) (t : Ty) : isTy (.int i) S t = some (decide (t = .int)) := rfl
@[simp] theorem isTy_str (s : Str) (t : Ty) : isTy (.str s) S t = some (decide (t = .str)) := rfl
@[simp] theorem isTy_tup (ds : List D) (t : Ty) : isTy (.tup ds) S t = some (decide (t = .tuple)) := rfl
@[simp] theorem isTy_lst (ds : List D) (t : Ty) : isTy (.lst ds) S t = some (decide (t = .list)) := rfl
@[simp] theorem isTy_fz (ds : List D) (t : Ty) : isTy (.fz ds) S t = some (decide (t = .list)) := rfl
@[simp] theorem isTys_cons {d : D} {t : Ty} {ts : List Ty} : isTys d S (t :: ts) = (isTy d S t).bind fun a => (isTys d S ts).map fun b => a || b := rfl
@[simp] theorem cmpB_eq (d e : D) : cmpB .eq d e S = eqD S d e := rfl
@[simp] theorem cmpB_ne (d e : D) : cmpB .ne d e S = (eqD S d e).map (!·) := rfl
@[simp] theorem cmpB_lt (i j : Int) : cmpB .lt (.int i) (.int j) S = some (decide (i < j)) := rfl
@[simp] theorem cmpB_le (i j : Int) : cmpB .le (.int i) (.int j) S = some (decide (i ≤ j)) := rfl
@[simp] theorem cmpB_gt (i j : Int) : cmpB .gt (.int i) (.int j) S = some (decide (j < i)) := rfl
@[simp] theorem cmpB_ge (i j : Int) : cmpB .ge (.int i) (.int j) S = some (decide (j ≤ i)) := rfl
@[simp] theorem cmpB_is (d e : D) : cmpB .is d e S = isD d e := rfl
@[simp] theorem cmpB_isnot (d e : D) : cmpB .isnot d e S = (isD d e).map (!·) := rfl
@[simp] theorem cmpB_isin (d e : D) : cmpB .isin d e S = inD S d e := rfl
@[simp] theorem cmpB_notin (d e : D) : cmpB .notin d e S = (inD S d e).map (!·) := rfl
@[simp] theorem eqD_int (i j : Int) : eqD S (.int i) (.int j) = some (i == j) := by
  simp [eqD, flatL, D.pure, D.depth, D.sok, D.eq]
@[simp] theorem eqD_str (s t : Str) : eqD S (.str s) (.str t) = some (s == t) := rfl
@[simp] theorem eqD_bl (s t : Bool) : eqD S (.bl s) (.bl t) = some (s == t) := by
  simp [eqD, flatL, D.pure, D.depth, D.sok, D.eq]
@[simp] theorem binD_add (i j : Int) : binD .add (.int i) (.int j) S = .ok (.int (i + j)) S := rfl
@[simp] theorem binD_sub (i j : Int) : binD .sub (.int i) (.int j) S = .ok (.int (i - j)) S := rfl
@[simp] theorem Ok_mul {Q : D → Store → Prop} (i j : Int) : Ok (binD .mul (.int i) (.int j) S) Q ↔ mulOk i j = true ∧ Q (.int (i * j)) S := by
  simp only [binD, mulD, Ok_ite, Ok_ok, Ok_stuck]
  by_cases h : mulOk i j = true <;> simp [h]
@[simp] theorem Ok_adds {Q : D → Store → Prop} (s t : Str) : Ok (binD .add (.str s) (.str t) S) Q ↔ s.length + t.length ≤ sizeLine ∧ Q (.str (s ++ t)) S := by
  simp only [binD, addD, Ok_ite, Ok_ok, Ok_stuck]
  by_cases h : s.length + t.length ≤ sizeLine <;> simp [h]
@[simp] theorem Ok_addt {Q : D → Store → Prop} (s t : List D) : Ok (binD .add (.tup s) (.tup t) S) Q ↔ s.length + t.length ≤ sizeLine ∧ Q (.tup (s ++ t)) S := by
  simp only [binD, addD, Ok_ite, Ok_ok, Ok_stuck]
  by_cases h : s.length + t.length ≤ sizeLine <;> simp [h]
@[simp] theorem Ok_addl {Q : D → Store → Prop} (s t : List D) : Ok (binD .add (.lst s) (.lst t) S) Q ↔ s.length + t.length ≤ sizeLine ∧ Q (.lst (s ++ t)) S := by
  simp only [binD, addD, asL, Ok_ite, Ok_ok, Ok_stuck]
  by_cases h : s.length + t.length ≤ sizeLine <;> simp [h]
/-- a mark that is positive and not too great -/
def posOk (j : Int) : Bool := decide (0 < j ∧ j < 2 ^ 64)
theorem log_small {j : Int} (h0 : 0 < j) (h : j < 2 ^ 64) : j.natAbs.log2 < 9000 := by
  have : j.natAbs < 2 ^ 64 := by omega
  have h2 : j.natAbs.log2 < 64 := (Nat.log2_lt (by omega)).mpr this
  omega
theorem binD_fdiv {i j : Int} (h : posOk j = true) : binD .fdiv (.int i) (.int j) S = .ok (.int (i / j)) S := by
  simp only [posOk, decide_eq_true_eq] at h
  simp only [binD, fdivD]
  rw [if_pos ⟨h.1, log_small h.1 h.2⟩]
theorem binD_mod {i j : Int} (h : 0 < j) : binD .mod (.int i) (.int j) S = .ok (.int (i % j)) S := by
  simp only [binD, modD]
  rw [if_pos h]
theorem mulOk_r {i j : Int} (h : -(2 ^ 64) < j ∧ j < 2 ^ 64) : mulOk i j = true := by
  unfold mulOk
  rw [Bool.or_eq_true, Bool.or_eq_true]
  exact .inl (.inr (decide_eq_true h))
theorem mulOk_l {i j : Int} (h : -(2 ^ 64) < i ∧ i < 2 ^ 64) : mulOk i j = true := by
  unfold mulOk
  rw [Bool.or_eq_true, Bool.or_eq_true]
  exact .inl (.inl (decide_eq_true h))
end
/-! ### defs -/
/-- what a body leaves behind -/
def leave (S : Store) (Q : D → Store → Prop) (fl : Fl) (S1 : Store) : Prop := match fl with
  | .rt d => Ok (gc S d S1) Q
  | .nx _ => Ok (gc S .non S1) Q
  | _ => False
@[simp] theorem leave_rt (S : Store) (Q : D → Store → Prop) (d : D) (S1 : Store) : leave S Q (.rt d) S1 = Ok (gc S d S1) Q := rfl
@[simp] theorem leave_nx (S : Store) (Q : D → Store → Prop) (ρ : Env) (S1 : Store) : leave S Q (.nx ρ) S1 = Ok (gc S .non S1) Q := rfl
theorem Ok_callF {T : Str → Option Df} {G : Str → Option D} {W n : Nat} {f : Str} {ds : List D} {S : Store} {Q : D → Store → Prop} {np nl : Nat} {b : Ss} (h : T f = some ⟨np, nl, b, false⟩) (l : ds.length = np) :
    Ok (callF T G W (n + 1) f ds S) Q ↔ Ok (exSs (callF T G W n) G W b (ds.map some ++ List.replicate (nl - np) none) S) (leave S Q) := by
  simp only [callF, h, if_pos l, Ok_bind]
  constructor <;> intro h <;> refine h.mono fun fl S1 k => ?_ <;> cases fl <;> exact k
/-- what a body leaves behind that hands back a list for good -/
def leaveF (S : Store) (Q : D → Store → Prop) (fl : Fl) (S1 : Store) : Prop := match fl with
  | .rt d => Ok (gcF true S d S1) Q
  | .nx _ => Ok (gc S .non S1) Q
  | _ => False
@[simp] theorem leaveF_rt (S : Store) (Q : D → Store → Prop) (d : D) (S1 : Store) : leaveF S Q (.rt d) S1 = Ok (gcF true S d S1) Q := rfl
@[simp] theorem leaveF_nx (S : Store) (Q : D → Store → Prop) (ρ : Env) (S1 : Store) : leaveF S Q (.nx ρ) S1 = Ok (gc S .non S1) Q := rfl
theorem Ok_callFz {T : Str → Option Df} {G : Str → Option D} {W n : Nat} {f : Str} {ds : List D} {S : Store} {Q : D → Store → Prop} {np nl : Nat} {b : Ss} (h : T f = some ⟨np, nl, b, true⟩) (l : ds.length = np) :
    Ok (callF T G W (n + 1) f ds S) Q ↔ Ok (exSs (callF T G W n) G W b (ds.map some ++ List.replicate (nl - np) none) S) (leaveF S Q) := by
  simp only [callF, h, if_pos l, Ok_bind]
  constructor <;> intro h <;> refine h.mono fun fl S1 k => ?_ <;> cases fl <;> exact k
/-- a list of the call is handed back -/
theorem gcF_app {S X : Store} {l : Nat} {ds : List D} (h : (S ++ X)[l]? = some (.lst ds)) (hl : S.length ≤ l) (hd : D.bnds S.length ds = true) : gcF true S (.ref l) (S ++ X) = .ok (.lst ds) S := by
  simp only [gcF, h]
  rw [if_pos ⟨hl, by simpa [D.bnd] using hd, by rw [List.length_append]; exact Nat.le_add_right _ _, fun i c hi e => .inl (by rwa [List.getElem?_append_left hi] at e)⟩, List.take_left]
@[simp] theorem gc_same (S : Store) (d : D) : gc S d S = .ok d S := by
  unfold gc
  split
  · rw [List.take_length]
  · rfl
theorem gc_len {S S1 : Store} (d : D) (h : S1.length = S.length) : gc S d S1 = .ok d S1 := by
  unfold gc
  split
  · rw [← h, List.take_length]
  · rfl
@[simp] theorem gc_set (S : Store) (d : D) (l : Nat) (c : Cell) : gc S d (S.set l c) = .ok d (S.set l c) := gc_len d (List.length_set ..)
theorem gc_ext {S S0 X : Store} {d : D} (hl : S0.length = S.length) (hd : d.bnd S.length = true) (hc : ∀ (i : Nat) (c : Cell), S0[i]? = some c → S[i]? = some c ∨ c.bnd S.length = true) : gc S d (S0 ++ X) = .ok d S0 := by
  unfold gc
  rw [if_pos ⟨hd, by rw [List.length_append, hl]; exact Nat.le_add_right _ _, fun i c hi e => hc i c (by rwa [List.getElem?_append_left (by rw [hl]; exact hi)] at e)⟩, ← hl, List.take_left]
theorem gc_app {S X : Store} {d : D} (hd : d.bnd S.length = true) : gc S d (S ++ X) = .ok d S := gc_ext rfl hd fun _ _ e => .inl e
theorem gc_setapp {S X : Store} {d : D} {l : Nat} {c : Cell} (hd : d.bnd S.length = true) (hc : c.bnd S.length = true) : gc S d (S.set l c ++ X) = .ok d (S.set l c) := gc_ext (List.length_set ..) hd fun i c' e => by
  by_cases h : l = i
  · subst h
    rw [List.getElem?_set_self'] at e
    cases q : S[l]? with
    | none => rw [q] at e; cases e
    | some _ => rw [q] at e; cases e; exact .inr hc
  · rw [List.getElem?_set_ne h] at e; exact .inl e
/-! ### instances, dicts -/
section
variable {C : Str → List D → Store → R D} {G : Str → Option D} {ρ : Env} {S : Store} {Q : D → Store → Prop}
@[simp] theorem Ok_fld (a : E) (f : Str) (cs : List Str) : Ok (evE C G (.fld a f cs) ρ S) Q ↔ Ok (evE C G a ρ S) fun x S1 => ∃ d, fldD S1 x f cs = some d ∧ Q d S1 := by simp only [evE, Ok_bind, Ok_give]
@[simp] theorem Ok_mk (c : Str) (es : Es) : Ok (evE C G (.mk c es) ρ S) Q ↔ Ok (evEs C G es ρ S) fun ds S1 => Ok (C (mkey c "__init__") (.ref S1.length :: ds) (S1 ++ [.ins c []])) fun v S2 => v = .non ∧ Q (.ref S1.length) S2 := by
  simp only [evE, Ok_bind]
  constructor <;> intro h <;> refine h.mono fun ds S1 h => h.mono fun v S2 h => ?_
  · cases v <;> first | exact ⟨rfl, h⟩ | exact h.elim
  · obtain ⟨rfl, h⟩ := h; exact h
@[simp] theorem Ok_mth (a : E) (m : Str) (cs : List Str) (es : Es) : Ok (evE C G (.mth a m cs es) ρ S) Q ↔ Ok (evE C G a ρ S) fun x S1 => ∃ c, mthD S1 x m cs = some c ∧ Ok (evEs C G es ρ S1) fun ds S2 => Ok (C (mkey c m) (x :: ds) S2) Q := by
  simp only [evE, Ok_bind]
  constructor <;> intro h <;> refine h.mono fun x S1 h => ?_
  · cases e : mthD S1 x m cs with
    | none => rw [e] at h; exact h.elim
    | some c => rw [e] at h; exact ⟨c, rfl, (Ok_bind _ _).mp h⟩
  · obtain ⟨c, e, h⟩ := h
    rw [e]; exact (Ok_bind _ _).mpr h
@[simp] theorem Ok_lset (a : E) : Ok (evE C G (.lset a) ρ S) Q ↔ Ok (evE C G a ρ S) fun x S1 => ∃ d, lsetD S1 x = some d ∧ Q d S1 := by simp only [evE, Ok_bind, Ok_give]
@[simp] theorem Ok_dnew (t : Bool) : Ok (evE C G (.dnew t) ρ S) Q ↔ Q (.ref S.length) (S ++ [if t then .dt [] else .dk []]) := by simp only [evE, Ok_ok]
@[simp] theorem Ok_dlit (t : Bool) (k v : E) : Ok (evE C G (.dlit t k v) ρ S) Q ↔ Ok (evE C G k ρ (S ++ [if t then .dt [] else .dk []])) fun x S1 => Ok (evE C G v ρ S1) fun y S2 => Ok (dlitD t S.length x y S2) Q := by simp only [evE, Ok_bind]
@[simp] theorem Ok_dgt (d k : E) : Ok (evE C G (.dgt d k) ρ S) Q ↔ Ok (evE C G d ρ S) fun x S1 => isDct S1 x = true ∧ Ok (evE C G k ρ S1) fun y S2 => ∃ o, dgetD S2 x y = some o ∧ Q (o.getD .non) S2 := by
  simp only [evE, Ok_bind]
  constructor <;> intro h <;> refine h.mono fun x S1 h => ?_
  · rw [Ok_ite] at h
    split at h
    · rename_i c; simp only [Ok_bind, Ok_give, Ok_ok] at h; exact ⟨c, h⟩
    · exact h.elim
  · rw [Ok_ite, if_pos h.1]; simp only [Ok_bind, Ok_give, Ok_ok]; exact h.2
@[simp] theorem Ok_dgt2 (d k z : E) : Ok (evE C G (.dgt2 d k z) ρ S) Q ↔ Ok (evE C G d ρ S) fun x S1 => isDct S1 x = true ∧ Ok (evE C G k ρ S1) fun y S2 => Ok (evE C G z ρ S2) fun w S3 => ∃ o, dgetD S3 x y = some o ∧ Q (o.getD w) S3 := by
  simp only [evE, Ok_bind]
  constructor <;> intro h <;> refine h.mono fun x S1 h => ?_
  · rw [Ok_ite] at h
    split at h
    · rename_i c; simp only [Ok_bind, Ok_give, Ok_ok] at h; exact ⟨c, h⟩
    · exact h.elim
  · rw [Ok_ite, if_pos h.1]; simp only [Ok_bind, Ok_give, Ok_ok]; exact h.2
@[simp] theorem Ok_setf {Q : Fl → Store → Prop} {W : Nat} (o : E) (f : Str) (cs : List Str) (e : E) : Ok (exS C G W (.setf o f cs e) ρ S) Q ↔ Ok (evE C G e ρ S) fun d S1 => Ok (evE C G o ρ S1) fun x S2 => ∃ l c fs, insAt S2 x = some (l, c, fs) ∧ (cs.contains c = true ∧ fs.length < 900) ∧ Q (.nx ρ) (S2.set l (.ins c (putD f d fs))) := by
  simp only [exS, Ok_bind]
  constructor <;> intro h <;> refine h.mono fun d S1 h => h.mono fun x S2 h => ?_
  · cases e : insAt S2 x with
    | none => rw [e] at h; exact h.elim
    | some p =>
      obtain ⟨l, c, fs⟩ := p
      rw [e] at h
      dsimp only at h
      rw [Ok_ite] at h
      split at h
      · rename_i c1
        rw [Bool.and_eq_true, decide_eq_true_eq] at c1
        exact ⟨l, c, fs, rfl, c1, h⟩
      · exact h.elim
  · obtain ⟨l, c, fs, e, c1, h⟩ := h
    rw [e]
    dsimp only
    rw [Ok_ite, if_pos (by rw [Bool.and_eq_true, decide_eq_true_eq]; exact c1)]
    exact h
/-- a while loop ends well -/
theorem whileGo_more {c : Env → Store → R Bool} {f : Env → Store → R Fl} : ∀ (n : Nat) (ρ : Env) (S : Store) (Q : Fl → Store → Prop), Ok (whileGo c f n ρ S) Q → whileGo c f (n + 1) ρ S = whileGo c f n ρ S
  | 0, _, _, _, h => h.elim
  | n + 1, ρ, S, Q, h => by
    rw [whileGo, whileGo]
    rw [whileGo] at h
    cases e : c ρ S with
    | ok b S1 =>
      rw [e] at h
      simp only [R.bind_ok] at h ⊢
      cases b with
      | false => rfl
      | true =>
        simp only [if_true] at h ⊢
        cases e2 : f ρ S1 with
        | ok fl S2 =>
          rw [e2] at h
          simp only [R.bind_ok] at h ⊢
          cases fl with
          | nx ρ1 => exact whileGo_more n ρ1 S2 Q h
          | ct ρ1 => exact whileGo_more n ρ1 S2 Q h
          | _ => rfl
        | _ => rfl
    | _ => rfl
theorem whileGo_le {c : Env → Store → R Bool} {f : Env → Store → R Fl} {n : Nat} {ρ : Env} {S : Store} {Q : Fl → Store → Prop} (h : Ok (whileGo c f n ρ S) Q) : ∀ k, whileGo c f (n + k) ρ S = whileGo c f n ρ S
  | 0 => rfl
  | k + 1 => by
    have ih := whileGo_le h k
    have := whileGo_more (n + k) ρ S Q (by rw [ih]; exact h)
    rw [← ih, ← this]; rfl
theorem Ok_whileInf {c : Env → Store → R Bool} {f : Env → Store → R Fl} {W : Nat} {ρ : Env} {S : Store} {Q : Fl → Store → Prop} (h : ∃ n, Ok (whileGo c f n ρ S) Q) : Ok (whileInf W c f ρ S) Q := by
  obtain ⟨n, h⟩ := h
  have h1 : Ok (whileGo c f (n + W) ρ S) Q := by rw [whileGo_le h W]; exact h
  have hex : ∃ n, whileGo c f (n + W) ρ S ≠ .stuck := ⟨n, fun e => by rw [e] at h1; exact h1⟩
  unfold whileInf
  rw [dif_pos hex]
  have agree : whileGo c f (hex.choose + W) ρ S = whileGo c f (n + W) ρ S := by
    have k1 := whileGo_le h1 (hex.choose + W)
    rw [show n + W + (hex.choose + W) = hex.choose + W + (n + W) by omega] at k1
    cases e : whileGo c f (hex.choose + W) ρ S with
    | stuck => exact absurd e hex.choose_spec
    | ok a S1 =>
      have k2 := whileGo_le (Q := fun _ _ => True) (show Ok (whileGo c f (hex.choose + W) ρ S) _ by rw [e]; trivial) (n + W)
      rw [k1, e] at k2; exact k2.symm
    | exc x S1 =>
      have big : ∀ k m, whileGo c f m ρ S = .exc x S1 → whileGo c f (m + k) ρ S = .exc x S1 := fun k m hm => by
        have key : ∀ (m : Nat) (ρ : Env) (S : Store), whileGo c f m ρ S = .exc x S1 → whileGo c f (m + 1) ρ S = .exc x S1 := by
          intro m
          induction m with
          | zero => intro ρ S h; cases h
          | succ m ih =>
            intro ρ S h
            rw [whileGo] at h ⊢
            cases e : c ρ S with
            | ok b S1 =>
              rw [e] at h
              simp only [R.bind_ok] at h ⊢
              cases b with
              | false => exact h
              | true =>
                simp only [if_true] at h ⊢
                cases e2 : f ρ S1 with
                | ok fl S2 =>
                  rw [e2] at h
                  simp only [R.bind_ok] at h ⊢
                  cases fl with
                  | nx ρ1 => exact ih ρ1 S2 h
                  | ct ρ1 => exact ih ρ1 S2 h
                  | _ => exact h
                | _ => rw [e2] at h; exact h
            | _ => rw [e] at h; exact h
        induction k with
        | zero => exact hm
        | succ k ih => exact key _ _ _ ih
      have k2 := big (n + W) _ e
      rw [k1] at k2; exact k2.symm
  rw [agree]; exact h1
/-- by an invariant and a measure -/
theorem Ok_while_inv {c : Env → Store → R Bool} {f : Env → Store → R Fl} {W : Nat} {ρ : Env} {S : Store} {Q : Fl → Store → Prop} (I : Nat → Env → Store → Prop) (m : Nat) (h0 : I m ρ S)
    (step : ∀ m ρ S, I m ρ S → Ok (c ρ S) fun b S1 => if b then Ok (f ρ S1) fun fl S2 => match fl with
      | .nx ρ1 => ∃ m', m' < m ∧ I m' ρ1 S2
      | .ct ρ1 => ∃ m', m' < m ∧ I m' ρ1 S2
      | .bk ρ1 => Q (.nx ρ1) S2
      | .rt d => Q (.rt d) S2 else Q (.nx ρ) S1) : Ok (whileInf W c f ρ S) Q := by
  refine Ok_whileInf ?_
  have gen : ∀ (m : Nat) (ρ : Env) (S : Store), I m ρ S → ∃ n, Ok (whileGo c f n ρ S) Q := by
    intro m
    induction m using Nat.strongRecOn with
    | _ m ih =>
      intro ρ S hI
      obtain ⟨b, S1, e1, q1⟩ := (step m ρ S hI).get
      cases b with
      | false => exact ⟨1, by rw [whileGo, e1]; exact q1⟩
      | true =>
        simp only [if_true] at q1
        obtain ⟨fl, S2, e2, q2⟩ := q1.get
        cases fl with
        | nx ρ1 =>
          obtain ⟨m', l, h'⟩ := q2
          obtain ⟨n, h⟩ := ih m' l ρ1 S2 h'
          exact ⟨n + 1, by rw [whileGo, e1]; simp only [R.bind_ok, if_true]; rw [e2]; exact h⟩
        | ct ρ1 =>
          obtain ⟨m', l, h'⟩ := q2
          obtain ⟨n, h⟩ := ih m' l ρ1 S2 h'
          exact ⟨n + 1, by rw [whileGo, e1]; simp only [R.bind_ok, if_true]; rw [e2]; exact h⟩
        | bk ρ1 => exact ⟨1, by rw [whileGo, e1]; simp only [R.bind_ok, if_true]; rw [e2]; exact q2⟩
        | rt d => exact ⟨1, by rw [whileGo, e1]; simp only [R.bind_ok, if_true]; rw [e2]; exact q2⟩
  exact gen m ρ S h0
end
/-! ### loops -/
theorem Ok_for_inv {g : Guard} {f : D → Env → Store → R Fl} {xs : List D} {ρ : Env} {S : Store} {Q : Fl → Store → Prop} (I : Nat → Env → Store → Prop) (h0 : I 0 ρ S) (hg : ∀ i ρ S, i ≤ xs.length → I i ρ S → g.ok S)
    (step : ∀ i x, xs[i]? = some x → ∀ ρ S, I i ρ S → Ok (f x ρ S) fun fl S1 => match fl with
      | .nx ρ1 => I (i + 1) ρ1 S1
      | .ct ρ1 => I (i + 1) ρ1 S1
      | .bk ρ1 => Q (.nx ρ1) S1
      | .rt d => Q (.rt d) S1) (fin : ∀ ρ S, I xs.length ρ S → Q (.nx ρ) S) : Ok (forGo g f xs ρ S) Q := by
  have gen : ∀ (ys : List D) (i : Nat), xs.drop i = ys → i ≤ xs.length → ∀ ρ S, I i ρ S → Ok (forGo g f ys ρ S) Q := by
    intro ys
    induction ys with
    | nil =>
      intro i e hi ρ S hI
      have : i = xs.length := by
        have := congrArg List.length e
        rw [List.length_drop, List.length_nil] at this; omega
      subst this
      unfold forGo
      rw [if_pos (hg _ _ _ hi hI)]
      exact fin ρ S hI
    | cons y ys ih =>
      intro i e hi ρ S hI
      have hi2 : i < xs.length := by
        have := congrArg List.length e
        rw [List.length_drop, List.length_cons] at this; omega
      have hy : xs[i]? = some y := by
        rw [List.drop_eq_getElem_cons hi2] at e
        rw [List.getElem?_eq_getElem hi2, (List.cons.inj e).1]
      have e2 : xs.drop (i + 1) = ys := by
        rw [List.drop_eq_getElem_cons hi2] at e
        exact (List.cons.inj e).2
      unfold forGo
      rw [if_pos (hg _ _ _ hi hI), Ok_bind]
      refine (step i y hy ρ S hI).mono fun fl S1 k => ?_
      cases fl with
      | nx ρ1 => exact ih (i + 1) e2 hi2 ρ1 S1 k
      | ct ρ1 => exact ih (i + 1) e2 hi2 ρ1 S1 k
      | bk ρ1 => exact k
      | rt d => exact k
  exact gen xs 0 rfl (Nat.zero_le _) ρ S h0
theorem cg_nil {g : Guard} {f : D → Store → R (List D)} {S : Store} (h : g.ok S) : compGo g f [] S = .ok [] S := by
  unfold compGo
  rw [if_pos h]
theorem cg_cons {g : Guard} {f : D → Store → R (List D)} {S : Store} {x : D} {xs : List D} (h : g.ok S) : compGo g f (x :: xs) S = (f x S).bind fun ys S1 => (compGo g f xs S1).bind fun zs S2 => .ok (ys ++ zs) S2 := by
  rw [compGo.eq_def]
  exact if_pos h
/-- a comprehension that changes nothing but is made from left to right -/
theorem compGo_pure {f : D → Store → R (List D)} {S : Store} {g : Guard} (hg : g.ok S) (h : D → List D) : ∀ {xs : List D}, (∀ x ∈ xs, f x S = .ok (h x) S) → compGo g f xs S = .ok (xs.flatMap h) S
  | [], _ => by exact cg_nil hg
  | x :: xs, k => by
    rw [cg_cons hg, k x List.mem_cons_self, R.bind_ok, compGo_pure hg h fun y m => k y (List.mem_cons_of_mem _ m), R.bind_ok, List.flatMap_cons]
theorem compGo_map {f : D → Store → R (List D)} {S : Store} {g : Guard} (hg : g.ok S) (h : D → D) {xs : List D} (k : ∀ x ∈ xs, f x S = .ok [h x] S) : compGo g f xs S = .ok (xs.map h) S := by
  rw [compGo_pure hg (fun x => [h x]) k]
  congr 1
  induction xs with
  | nil => rfl
  | cons x xs ih => rw [List.flatMap_cons, List.map_cons, ih fun y m => k y (List.mem_cons_of_mem _ m)]; rfl
theorem compGo_filter {f : D → Store → R (List D)} {S : Store} {g : Guard} (hg : g.ok S) (p : D → Bool) {xs : List D} (k : ∀ x ∈ xs, f x S = .ok (if p x then [x] else []) S) : compGo g f xs S = .ok (xs.filter p) S := by
  rw [compGo_pure hg (fun x => if p x then [x] else []) k]
  congr 1
  induction xs with
  | nil => rfl
  | cons x xs ih =>
    rw [List.flatMap_cons, List.filter_cons, ih fun y m => k y (List.mem_cons_of_mem _ m)]
    split <;> rfl
/-- a comprehension that moves a state -/
theorem Ok_comp_inv {f : D → Store → R (List D)} {xs : List D} {S : Store} {Q : List D → Store → Prop} (I : List D → Store → Prop) (h0 : I [] S)
    (step : ∀ x ∈ xs, ∀ ys S, I ys S → Ok (f x S) fun zs S1 => I (ys ++ zs) S1) (fin : ∀ ys S, I ys S → Q ys S) : Ok (compGo none f xs S) Q := by
  have gen : ∀ (xs : List D), (∀ x ∈ xs, ∀ ys S, I ys S → Ok (f x S) fun zs S1 => I (ys ++ zs) S1) → ∀ ys S, I ys S → Ok (compGo none f xs S) fun zs S1 => I (ys ++ zs) S1 := by
    intro xs
    induction xs with
    | nil =>
      intro _ ys S hI
      rw [cg_nil (g := none) trivial, Ok_ok, List.append_nil]
      exact hI
    | cons x xs ih =>
      intro st ys S hI
      rw [cg_cons (g := none) trivial, Ok_bind]
      refine (st x List.mem_cons_self ys S hI).mono fun zs S1 k => ?_
      rw [Ok_bind]
      refine (ih (fun y m => st y (List.mem_cons_of_mem _ m)) (ys ++ zs) S1 k).mono fun us S2 k2 => ?_
      rw [Ok_ok, ← List.append_assoc]
      exact k2
  exact (gen xs step [] S h0).mono fun ys S1 k => fin ys S1 k
end Pyx
end
section
/-! Comprehensions, built-ins: generic lemmas. -/
namespace Pyx
open PySem (Str sizeLine)
section
variable {C : Str → List D → Store → R D} {G : Str → Option D} {ρ : Env} {S : Store} {Q : D → Store → Prop}
theorem eq_of_ok {α : Type} {r : R α} {a : α} {S1 : Store} (h : Ok r fun y S2 => y = a ∧ S2 = S1) : r = .ok a S1 := by
  cases r with
  | ok b S2 => obtain ⟨rfl, rfl⟩ := h; rfl
  | _ => exact h.elim
theorem wipe_len (ρ : Env) (own : List Nat) : (wipeE ρ own).length = ρ.length := by
  induction own with
  | nil => rfl
  | cons v vs ih => rw [wipeE, List.length_set, ih]
theorem Ok_mapG {m : Bool} {own : List Nat} {e : E} {i : Nat} {s : Src} {xs : List D} {g : Guard} (h : D → D) (hs : Ok (evSrc C G s ρ S) fun p S1 => p = (xs, g) ∧ S1 = S) (hg : g.ok S) (hi : i < ρ.length)
    (k : ∀ x ∈ xs, Ok (evE C G e ((wipeE ρ own).set i (some x)) S) fun y S1 => y = h x ∧ S1 = S) :
    Ok (evE C G (.comp m own e (.var i) s .nil) ρ S) Q ↔ xs.length ≤ sizeLine ∧ if m then Q (.ref S.length) (S ++ [.lst (xs.map h)]) else Q (.lst (xs.map h)) S := by
  rw [Ok_comp, eq_of_ok hs, Ok_ok, compGo_map hg h fun x m => eq_of_ok (by
    simp only [Ok_bind, Ok_tvar, wipe_len, hi, true_and, Ok_cnil, if_true, Ok_ok]
    exact (k x m).mono fun y S1 q => ⟨by rw [q.1], q.2⟩), Ok_ok, Ok_mkL, List.length_map]
theorem Ok_map1 {m : Bool} {own : List Nat} {e : E} {i : Nat} {s : Src} {xs : List D} (h : D → D) (hs : Ok (evSrc C G s ρ S) fun p S1 => p = (xs, none) ∧ S1 = S) (hi : i < ρ.length)
    (k : ∀ x ∈ xs, Ok (evE C G e ((wipeE ρ own).set i (some x)) S) fun y S1 => y = h x ∧ S1 = S) :
    Ok (evE C G (.comp m own e (.var i) s .nil) ρ S) Q ↔ xs.length ≤ sizeLine ∧ if m then Q (.ref S.length) (S ++ [.lst (xs.map h)]) else Q (.lst (xs.map h)) S := Ok_mapG h hs trivial hi k
theorem Ok_filterG {m : Bool} {own : List Nat} {c : E} {i : Nat} {s : Src} {xs : List D} {g : Guard} (p : D → Bool) (hs : Ok (evSrc C G s ρ S) fun p S1 => p = (xs, g) ∧ S1 = S) (hg : g.ok S) (hi : i < ρ.length)
    (k : ∀ x ∈ xs, Ok (evE C G c ((wipeE ρ own).set i (some x)) S) fun y S1 => truth S1 y = some (p x) ∧ S1 = S) :
    Ok (evE C G (.comp m own (.var i) (.var i) s (.cons c .nil)) ρ S) Q ↔ (xs.filter p).length ≤ sizeLine ∧ if m then Q (.ref S.length) (S ++ [.lst (xs.filter p)]) else Q (.lst (xs.filter p)) S := by
  rw [Ok_comp, eq_of_ok hs, Ok_ok, compGo_filter hg p fun x m => eq_of_ok (by
    simp only [Ok_bind, Ok_tvar, wipe_len, hi, true_and, Ok_ccons]
    refine (k x m).mono fun y S1 q => ?_
    obtain ⟨q1, rfl⟩ := q
    refine ⟨p x, q1, ?_⟩
    cases p x
    · simp
    · simp [hi, wipe_len]), Ok_ok, Ok_mkL]
theorem Ok_filter1 {m : Bool} {own : List Nat} {c : E} {i : Nat} {s : Src} {xs : List D} (p : D → Bool) (hs : Ok (evSrc C G s ρ S) fun p S1 => p = (xs, none) ∧ S1 = S) (hi : i < ρ.length)
    (k : ∀ x ∈ xs, Ok (evE C G c ((wipeE ρ own).set i (some x)) S) fun y S1 => truth S1 y = some (p x) ∧ S1 = S) :
    Ok (evE C G (.comp m own (.var i) (.var i) s (.cons c .nil)) ρ S) Q ↔ (xs.filter p).length ≤ sizeLine ∧ if m then Q (.ref S.length) (S ++ [.lst (xs.filter p)]) else Q (.lst (xs.filter p)) S := Ok_filterG p hs trivial hi k
theorem boolsOf_map {α : Type} (p : α → Bool) : ∀ xs : List α, boolsOf (xs.map fun x => .bl (p x)) = some (xs.map p)
  | [] => rfl
  | x :: xs => by rw [List.map_cons, boolsOf, boolsOf_map p xs]; rfl
@[simp] theorem bi_tuple (xs : List D) (m : Bool) : biD .tuple m [.lst xs] S = .ok (.tup xs) S := rfl
@[simp] theorem bi_tuple_tup (xs : List D) (m : Bool) : biD .tuple m [.tup xs] S = .ok (.tup xs) S := rfl
@[simp] theorem bi_all {α : Type} (xs : List α) (p : α → Bool) (m : Bool) : biD .all m [.lst (xs.map fun x => .bl (p x))] S = .ok (.bl (xs.all p)) S := by
  simp only [biD, boolsD, asL, Option.bind_some, boolsOf_map, Option.map_some, blR]
  congr 2
  induction xs with
  | nil => rfl
  | cons x xs ih => simp_all
@[simp] theorem bi_any {α : Type} (xs : List α) (p : α → Bool) (m : Bool) : biD .any m [.lst (xs.map fun x => .bl (p x))] S = .ok (.bl (xs.any p)) S := by
  simp only [biD, boolsD, asL, Option.bind_some, boolsOf_map, Option.map_some, blR]
  congr 2
  induction xs with
  | nil => rfl
  | cons x xs ih => simp_all
@[simp] theorem bi_len_tup (xs : List D) (m : Bool) : biD .len m [.tup xs] S = .ok (.int xs.length) S := rfl
@[simp] theorem bi_len_lst (xs : List D) (m : Bool) : biD .len m [.lst xs] S = .ok (.int xs.length) S := rfl
@[simp] theorem bi_len_fz (xs : List D) (m : Bool) : biD .len m [.fz xs] S = .ok (.int xs.length) S := rfl
@[simp] theorem srcVal_tup (xs : List D) : srcVal S (.tup xs) = some (xs, none) := rfl
@[simp] theorem srcVal_lst (xs : List D) : srcVal S (.lst xs) = some (xs, none) := rfl
@[simp] theorem srcVal_fz (xs : List D) : srcVal S (.fz xs) = some (xs, none) := rfl
@[simp] theorem Ok_ix_tup (xs : List D) (i : Int) : Ok (ixD (.tup xs) (.int i) S) Q ↔ ∃ d, L2.atI xs i = some d ∧ Q d S := by simp [ixD, ixL, dgetD, asQ]
@[simp] theorem Ok_ix_lst (xs : List D) (i : Int) : Ok (ixD (.lst xs) (.int i) S) Q ↔ ∃ d, L2.atI xs i = some d ∧ Q d S := by simp [ixD, ixL, dgetD, asQ]
@[simp] theorem Ok_ix_fz (xs : List D) (i : Int) : Ok (ixD (.fz xs) (.int i) S) Q ↔ ∃ d, L2.atI xs i = some d ∧ Q d S := by simp [ixD, ixL, dgetD, asQ]
end
theorem pures_mem : ∀ {ds : List D}, D.pures ds = true → ∀ d ∈ ds, d.pure = true
  | [], _, d, m => by cases m
  | e :: es, h, d, m => by
    simp only [D.pures, Bool.and_eq_true] at h
    rcases List.mem_cons.mp m with rfl | m
    · exact h.1
    · exact pures_mem h.2 d m

theorem sz : sizeLine = 16777216 := by decide +kernel
/-- a row -/
def pD (p : List Int) : D := .tup (p.map .int)
mutual
/-- whole numbers and tuples of such, not deep -/
def flatI : Nat → D → Bool
  | _, .int _ => true
  | 0, _ => false
  | k + 1, .tup ds => flatIs k ds
  | _, _ => false
def flatIs : Nat → List D → Bool
  | _, [] => true
  | k, d :: ds => flatI k d && flatIs k ds
end
mutual
theorem flatI_ok : ∀ (k : Nat) (d : D), flatI k d = true → d.pure = true ∧ d.depth ≤ k ∧ d.sok = true
  | _, .int _, _ => by simp [D.pure, D.depth, D.sok]
  | k + 1, .tup ds, h => by
    simp only [flatI] at h
    obtain ⟨h1, h2, h3⟩ := flatIs_ok k ds h
    simp only [D.pure, D.depth, D.sok]
    exact ⟨h1, by omega, h3⟩
  | 0, .tup ds, h => by simp [flatI] at h
  | k, .non, h => by cases k <;> simp [flatI] at h
  | k, .bl _, h => by cases k <;> simp [flatI] at h
  | k, .str _, h => by cases k <;> simp [flatI] at h
  | k, .lst _, h => by cases k <;> simp [flatI] at h
  | k, .fz _, h => by cases k <;> simp [flatI] at h
  | k, .ref _, h => by cases k <;> simp [flatI] at h
theorem flatIs_ok : ∀ (k : Nat) (ds : List D), flatIs k ds = true → D.pures ds = true ∧ D.depths ds ≤ k ∧ D.soks ds = true
  | _, [], _ => by simp [D.pures, D.depths, D.soks]
  | k, d :: ds, h => by
    simp only [flatIs, Bool.and_eq_true] at h
    obtain ⟨a1, a2, a3⟩ := flatI_ok k d h.1
    obtain ⟨b1, b2, b3⟩ := flatIs_ok k ds h.2
    simp only [D.pures, D.depths, D.soks, Bool.and_eq_true]
    exact ⟨⟨a1, b1⟩, by omega, a3, b3⟩
end
mutual
theorem pure_bnd (n : Nat) : ∀ (d : D), d.pure = true → d.bnd n = true
  | .non, _ => rfl
  | .bl _, _ => rfl
  | .int _, _ => rfl
  | .str _, _ => rfl
  | .tup ds, h => by simp only [D.pure] at h; simp only [D.bnd]; exact pures_bnds n ds h
  | .lst ds, h => by simp only [D.pure] at h; simp only [D.bnd]; exact pures_bnds n ds h
  | .fz ds, h => by simp only [D.pure] at h; simp only [D.bnd]; exact pures_bnds n ds h
  | .ref _, h => by simp [D.pure] at h
theorem pures_bnds (n : Nat) : ∀ (ds : List D), D.pures ds = true → D.bnds n ds = true
  | [], _ => rfl
  | d :: ds, h => by
    simp only [D.pures, Bool.and_eq_true] at h
    simp only [D.bnds, Bool.and_eq_true]
    exact ⟨pure_bnd n d h.1, pures_bnds n ds h.2⟩
end
theorem flat_ints (k : Nat) : ∀ p : List Int, flatIs k (p.map .int) = true
  | [] => by simp [flatIs]
  | i :: p => by simp [flatIs, flatI, flat_ints k p]
theorem flat_pD (k : Nat) (p : List Int) : flatI (k + 1) (pD p) = true := by simp [pD, flatI, flat_ints]
theorem flat_pDs (k : Nat) : ∀ ps : List (List Int), flatIs (k + 1) (ps.map pD) = true
  | [] => by simp [flatIs]
  | p :: ps => by rw [List.map_cons, flatIs, flat_pD, flat_pDs k ps]; rfl
theorem eqD_lst {S : Store} {xs ys : List D} {k : Nat} (hx : flatIs k xs = true) (hy : flatIs k ys = true) (hk : k < 64) : eqD S (.lst xs) (.lst ys) = some (D.eqs xs ys) := by
  obtain ⟨a1, a2, a3⟩ := flatIs_ok k xs hx
  obtain ⟨b1, b2, b3⟩ := flatIs_ok k ys hy
  have c1 : D.depths xs + 1 ≤ 64 := by omega
  have c2 : D.depths ys + 1 ≤ 64 := by omega
  simp [eqD, flatL, D.pure, D.depth, D.sok, D.eq, a1, a3, b1, b3, c1, c2]
theorem eqD_tup {S : Store} {xs ys : List D} {k : Nat} (hx : flatIs k xs = true) (hy : flatIs k ys = true) (hk : k < 64) : eqD S (.tup xs) (.tup ys) = some (D.eqs xs ys) := by
  obtain ⟨a1, a2, a3⟩ := flatIs_ok k xs hx
  obtain ⟨b1, b2, b3⟩ := flatIs_ok k ys hy
  have c1 : D.depths xs + 1 ≤ 64 := by omega
  have c2 : D.depths ys + 1 ≤ 64 := by omega
  simp [eqD, flatL, D.pure, D.depth, D.sok, D.eq, a1, a3, b1, b3, c1, c2]
/-- the pool's cell -/
def PL (p : Int × Int × Int) : Cell := .lst [.int p.1, .int p.2.1, .int p.2.2]
def Pool (S : Store) (l : Nat) : Prop := ∃ p, S[l]? = some (PL p)
/-- the pool alone has moved -/
def Mv (S : Store) (l : Nat) (S1 : Store) : Prop := ∃ p, S1 = S.set l (PL p)
theorem Pool.lt {S : Store} {l : Nat} (h : Pool S l) : l < S.length := by
  obtain ⟨p, h⟩ := h
  exact (List.getElem?_eq_some_iff.mp h).1
theorem Mv.len {S S1 : Store} {l : Nat} (m : Mv S l S1) : S1.length = S.length := by
  obtain ⟨p, rfl⟩ := m
  exact List.length_set ..
theorem Mv.pool {S S1 : Store} {l : Nat} (h : Pool S l) (m : Mv S l S1) : Pool S1 l := by
  have := h.lt
  obtain ⟨p, rfl⟩ := m
  exact ⟨p, by rw [List.getElem?_set_self this]⟩
theorem Mv.trans {S S1 S2 : Store} {l : Nat} (m : Mv S l S1) (k : Mv S1 l S2) : Mv S l S2 := by
  obtain ⟨p, rfl⟩ := m
  obtain ⟨q, rfl⟩ := k
  exact ⟨q, by rw [List.set_set]⟩
theorem Mv.refl {S : Store} {l : Nat} (h : Pool S l) : Mv S l S := by
  obtain ⟨p, h⟩ := h
  refine ⟨p, ?_⟩
  obtain ⟨h1, h2⟩ := List.getElem?_eq_some_iff.mp h
  rw [← h2, List.set_getElem_self]
theorem Mv.get {S S1 : Store} {l i : Nat} (m : Mv S l S1) (h : i ≠ l) : S1[i]? = S[i]? := by
  obtain ⟨p, rfl⟩ := m
  rw [List.getElem?_set_ne (fun e => h e.symm)]
theorem Mv.app {S X S1 : Store} {l : Nat} (h : Pool S l) (m : Mv (S ++ X) l S1) : ∃ S0, S1 = S0 ++ X ∧ Mv S l S0 := by
  obtain ⟨p, rfl⟩ := m
  exact ⟨S.set l (PL p), by rw [List.set_append_left _ _ h.lt], p, rfl⟩
theorem Pool.app {S X : Store} {l : Nat} (h : Pool S l) : Pool (S ++ X) l := by
  have := h.lt
  obtain ⟨p, h⟩ := h
  exact ⟨p, by rw [List.getElem?_append_left this]; exact h⟩
theorem gc_mv {S S1 : Store} {l : Nat} (m : Mv S l S1) (d : D) : gc S d S1 = .ok d S1 := gc_len d m.len
theorem gc_mvx {S S1 X : Store} {l : Nat} (m : Mv S l S1) {d : D} (hd : d.bnd S.length = true) : gc S d (S1 ++ X) = .ok d S1 := by
  obtain ⟨p, rfl⟩ := m
  exact gc_setapp hd (by simp [PL, Cell.bnd, D.bnd, D.bnds])
/-- a draw gives a number below the mark, and moves the pool alone -/
def DrawOk (T : Str → Option Df) (G : Str → Option D) (W : Nat) (f : Str) : Prop := ∀ (n : Nat) (S : Store) (l : Nat) (m : Int), Pool S l → 0 < m → m < 1073741824 →
  Ok (callF T G W (n + 1) f [.ref l, .int m] S) fun d S1 => ∃ r, d = .int r ∧ 0 ≤ r ∧ r < m ∧ Mv S l S1

section
variable {S : Store}
theorem ixN_nat {k : Nat} {i : Int} (h0 : 0 ≤ i) (h1 : i < k) : L2.ixN k i = some i.toNat := by
  unfold L2.ixN
  rw [if_pos h0, if_pos (by omega)]
theorem atI_nat {α : Type} {xs : List α} {i : Int} (h0 : 0 ≤ i) (h1 : i < xs.length) : ∃ a, L2.atI xs i = some a ∧ a ∈ xs := by
  have h2 : i.toNat < xs.length := by omega
  exact ⟨xs[i.toNat], by simp [L2.atI, ixN_nat h0 h1, List.getElem?_eq_getElem h2], List.getElem_mem _⟩
/-- what may be picked from: a list or a tuple, or a list in the store beside the pool -/
inductive Items (S : Store) (l : Nat) : D → List D → Prop where
  | lst (ds : List D) : Items S l (.lst ds) ds
  | tup (ds : List D) : Items S l (.tup ds) ds
  | ref (k : Nat) (ds : List D) (h : S[k]? = some (.lst ds)) (ne : k ≠ l) : Items S l (.ref k) ds
theorem Items.mv {S S1 : Store} {l : Nat} {d : D} {ds : List D} (m : Mv S l S1) (h : Items S l d ds) : Items S1 l d ds := by
  cases h with
  | lst => exact .lst _
  | tup => exact .tup _
  | ref k _ h ne => exact .ref k ds (by rw [m.get ne]; exact h) ne
theorem Items.ix {S : Store} {l : Nat} {d : D} {ds : List D} {Q : D → Store → Prop} (h : Items S l d ds) (i : Int) : Ok (ixD d (.int i) S) Q ↔ ∃ e, L2.atI ds i = some e ∧ Q e S := by
  cases h with
  | lst => simp
  | tup => simp
  | ref k _ h ne => simp [ixD, ixL, dgetD, asQ, h]
theorem Items.len {S : Store} {l : Nat} {d : D} {ds : List D} (m : Bool) (h : Items S l d ds) : biD .len m [d] S = .ok (.int ds.length) S := by
  cases h with
  | lst => rfl
  | tup => rfl
  | ref k _ h ne => simp [biD, lenD, asQ, h]
/-- a comprehension that moves a state, one item a time -/
theorem Ok_comp_one {f : D → Store → R (List D)} {xs : List D} {S : Store} {Q : List D → Store → Prop} (I : List D → Store → Prop) (h0 : I [] S)
    (step : ∀ x ∈ xs, ∀ ys S, I ys S → Ok (f x S) fun zs S1 => ∃ z, zs = [z] ∧ I (ys ++ [z]) S1) (fin : ∀ ys S, ys.length = xs.length → I ys S → Q ys S) : Ok (compGo none f xs S) Q := by
  have gen : ∀ (xs : List D), (∀ x ∈ xs, ∀ ys S, I ys S → Ok (f x S) fun zs S1 => ∃ z, zs = [z] ∧ I (ys ++ [z]) S1) → ∀ ys S, I ys S → Ok (compGo none f xs S) fun zs S1 => zs.length = xs.length ∧ I (ys ++ zs) S1 := by
    intro xs
    induction xs with
    | nil =>
      intro _ ys S hI
      rw [cg_nil (g := none) trivial, Ok_ok, List.append_nil]
      exact ⟨rfl, hI⟩
    | cons x xs ih =>
      intro st ys S hI
      rw [cg_cons (g := none) trivial, Ok_bind]
      refine (st x List.mem_cons_self ys S hI).mono fun zs S1 ⟨z, e, k⟩ => ?_
      subst e
      rw [Ok_bind]
      refine (ih (fun y m => st y (List.mem_cons_of_mem _ m)) (ys ++ [z]) S1 k).mono fun us S2 ⟨k1, k2⟩ => ?_
      rw [Ok_ok]
      refine ⟨by simp [k1], ?_⟩
      rw [← List.append_assoc]
      exact k2
  exact (gen xs step [] S h0).mono fun ys S1 k => fin ys S1 k.1 k.2
theorem srcRng_nat {m : Nat} (h : m ≤ 1000000) : srcRng [.int (m : Int)] = some (rangeD 0 m) := by
  have h1 : smallI (m : Int) = true := by
    unfold smallI
    rw [decide_eq_true_eq]; omega
  show (if smallI (m : Int) = true ∧ (m : Int).toNat ≤ sizeLine then some (rangeD 0 (m : Int).toNat) else none) = _
  rw [if_pos ⟨h1, by rw [sz]; omega⟩, Int.toNat_natCast]
theorem rangeD_len (m : Nat) : (rangeD 0 m).length = m := by simp [rangeD]
end
theorem eqs_pDs : ∀ (ps qs : List (List Int)), D.eqs (ps.map pD) (qs.map pD) = decide (ps = qs) := by
  have eints : ∀ (p q : List Int), D.eqs (p.map .int) (q.map .int) = decide (p = q) := by
    intro p
    induction p with
    | nil => intro q; cases q <;> simp [D.eqs]
    | cons i p ih =>
      intro q
      cases q with
      | nil => simp [D.eqs]
      | cons j q =>
        simp only [List.map_cons, D.eqs, D.eq, ih]
        rw [Bool.eq_iff_iff]; simp
  intro ps
  induction ps with
  | nil => intro q; cases q <;> simp [D.eqs]
  | cons p ps ih =>
    intro q
    cases q with
    | nil => simp [D.eqs]
    | cons q qs =>
      simp only [List.map_cons, D.eqs, ih, pD, D.eq, eints]
      rw [Bool.eq_iff_iff]; simp
theorem intsOf_map : ∀ l : List Int, intsOf (l.map .int) = some l
  | [] => rfl
  | x :: l => by rw [List.map_cons, intsOf, intsOf_map l]; rfl
theorem cut_from {α : Type} (l : List α) (k : Nat) : cut l (some (k : Int)) none = l.drop k := by
  unfold cut
  rw [HT.sIx_none, HT.sIx_nat]
  by_cases h : k ≤ l.length
  · rw [Nat.min_eq_left h, List.take_of_length_le (by rw [List.length_drop]; exact Nat.le_refl _)]
  · rw [Nat.min_eq_right (by omega), List.drop_eq_nil_of_le (by omega : l.length ≤ k), List.drop_length, List.take_nil]
theorem cut_to {α : Type} (l : List α) (k : Nat) : cut l none (some (k : Int)) = l.take k := by
  unfold cut
  rw [HT.sIx_none, HT.sIx_nat, List.drop_zero, Nat.sub_zero]
  by_cases h : k ≤ l.length
  · rw [Nat.min_eq_left h]
  · rw [Nat.min_eq_right (by omega), List.take_of_length_le (Nat.le_refl _), List.take_of_length_le (by omega)]

theorem bds (n : Nat) (p : List Int) : (pD p).bnd n = true := pure_bnd _ _ (flatI_ok 1 _ (flat_pD 0 p)).1
/-! ### more of comprehensions -/
section
variable {C : Str → List D → Store → R D} {G : Str → Option D} {ρ : Env} {S : Store} {Q : D → Store → Prop}
theorem Ok_ix_ref {l : Nat} {ds : List D} (i : Int) (h : S[l]? = some (.lst ds)) : Ok (ixD (.ref l) (.int i) S) Q ↔ ∃ d, L2.atI ds i = some d ∧ Q d S := by simp [ixD, ixL, dgetD, asQ, h]
theorem atI_0 {α : Type} (a : α) (l : List α) : L2.atI (a :: l) 0 = some a := by simp [L2.atI, L2.ixN]
theorem atI_1 {α : Type} (a b : α) (l : List α) : L2.atI (a :: b :: l) 1 = some b := by
  have : (1 : Int) < (l.length : Int) + 1 + 1 := by omega
  simp [L2.atI, L2.ixN, this]
theorem atI_2 {α : Type} (a b c : α) (l : List α) : L2.atI (a :: b :: c :: l) 2 = some c := by
  have : (2 : Int) < (l.length : Int) + 1 + 1 + 1 := by omega
  simp [L2.atI, L2.ixN, this]
theorem atI_get {α : Type} {xs : List α} {i : Nat} (h : i < xs.length) : L2.atI xs (i : Int) = some xs[i] := by
  simp [L2.atI, ixN_nat (k := xs.length) (Int.natCast_nonneg i) (by omega), List.getElem?_eq_getElem h]
/-- a comprehension that makes a thing of each item, or leaves it out -/
theorem Ok_mapF {m : Bool} {own : List Nat} {e : E} {t : Tg} {s : Src} {cs : Es} {xs : List D} {g : Guard} (h : D → List D) (hs : Ok (evSrc C G s ρ S) fun p S1 => p = (xs, g) ∧ S1 = S) (hg : g.ok S)
    (k : ∀ x ∈ xs, Ok (asgT C G t x (wipeE ρ own) S) fun ρ1 S1 => S1 = S ∧ Ok (evCs C G cs ρ1 S) fun b S2 => S2 = S ∧ if b then Ok (evE C G e ρ1 S) fun y S3 => h x = [y] ∧ S3 = S else h x = []) :
    Ok (evE C G (.comp m own e t s cs) ρ S) Q ↔ (xs.flatMap h).length ≤ sizeLine ∧ if m then Q (.ref S.length) (S ++ [.lst (xs.flatMap h)]) else Q (.lst (xs.flatMap h)) S := by
  rw [Ok_comp, eq_of_ok hs, Ok_ok, compGo_pure hg h fun x m => eq_of_ok (by
    simp only [Ok_bind]
    refine (k x m).mono fun ρ1 S1 q => ?_
    obtain ⟨rfl, q⟩ := q
    refine q.mono fun b S2 q => ?_
    obtain ⟨rfl, q⟩ := q
    cases b with
    | true =>
      simp only [if_true, Ok_bind, Ok_ok] at q ⊢
      exact q.mono fun y S3 q => ⟨q.1.symm, q.2⟩
    | false =>
      simp only [Bool.false_eq_true, if_false, Ok_ok] at q ⊢
      exact ⟨q.symm, trivial⟩), Ok_ok, Ok_mkL]
theorem flatMap_one {α β : Type} (f : α → β) (xs : List α) : xs.flatMap (fun x => [f x]) = xs.map f := by
  induction xs with
  | nil => rfl
  | cons x xs ih => rw [List.flatMap_cons, ih]; rfl
/-- a comprehension that makes a thing of each item -/
theorem Ok_mapT {m : Bool} {own : List Nat} {e : E} {t : Tg} {s : Src} {xs : List D} {g : Guard} (h : D → D) (hs : Ok (evSrc C G s ρ S) fun p S1 => p = (xs, g) ∧ S1 = S) (hg : g.ok S)
    (k : ∀ x ∈ xs, Ok (asgT C G t x (wipeE ρ own) S) fun ρ1 S1 => S1 = S ∧ Ok (evE C G e ρ1 S) fun y S3 => y = h x ∧ S3 = S) :
    Ok (evE C G (.comp m own e t s .nil) ρ S) Q ↔ xs.length ≤ sizeLine ∧ if m then Q (.ref S.length) (S ++ [.lst (xs.map h)]) else Q (.lst (xs.map h)) S := by
  rw [Ok_mapF (xs := xs) (g := g) (fun x => [h x]) hs hg fun x m => (k x m).mono fun ρ1 S1 q => ⟨q.1, by
    simp only [Ok_cnil, if_true, true_and]
    exact q.2.mono fun y S3 q => ⟨by rw [q.1], q.2⟩⟩, flatMap_one, List.length_map]
end
end Pyx
end
section
/-! Defs that the laws over texts share: their texts in the small syntax (printed by gen.py lib). -/
namespace Pyx.Ty
open PySem (Str sizeLine)
open Pyx
def b_is_whole : Ss := (ssOf [(.ret (.and (.isin (.var 0) [.int]) (.not (.isin (.var 0) [.bool]))))])
def b_is_between : Ss := (ssOf [(.ret (.and (.call "is_whole" (esOf [(.var 0)])) (.cmp2 .le .le (.var 1) (.var 0) (.var 2))))])
def b_is_tuple_of : Ss := (ssOf [(.ret (.and (.isin (.var 0) [.tuple]) (.cmp .eq (.bi .len false (esOf [(.var 0)])) (.var 1))))])
def b_are_between : Ss := (ssOf [(.ret (.and (.call "is_tuple_of" (esOf [(.var 0), (.var 1)])) (.bi .all false (esOf [(.comp false [4] (.call "is_between" (esOf [(.var 4), (.var 2), (.var 3)])) (.var 4) (.val (.var 0)) (esOf []))]))))])
def b_is_pack : Ss := (ssOf [(.ret (.call "are_between" (esOf [(.var 1), (.var 0), (.neg (.glob "MOST_IN_PACK")), (.glob "MOST_IN_PACK")])))])
def b_is_list_by : Ss := (ssOf [(.ite (.or (.not (.call "is_tuple_of" (esOf [(.var 0), (.con (.int 2))]))) (.not (.call "is_between" (esOf [(.ix (.var 0) (.glob "MANY")), (.con (.int 1)), (.glob "MOST_GOODS")])))) (ssOf [(.ret (.con (.bl false)))]) (ssOf [])), (.ite (.or (.not (.isin (.ix (.var 0) (.glob "PACKS")) [.tuple])) (.cmp .gt (.bi .len false (esOf [(.ix (.var 0) (.glob "PACKS"))])) (.glob "MOST_PACKS"))) (ssOf [(.ret (.con (.bl false)))]) (ssOf [])), (.ret (.bi .all false (esOf [(.comp false [1] (.call "is_pack" (esOf [(.ix (.var 0) (.glob "MANY")), (.var 1)])) (.var 1) (.val (.ix (.var 0) (.glob "PACKS"))) (esOf []))])))])
structure LibV (T : Str → Option Df) (G : Str → Option D) : Prop where
  t_is_whole : T "is_whole" = some ⟨1, 1, b_is_whole, false⟩
  t_is_between : T "is_between" = some ⟨3, 3, b_is_between, false⟩
  t_is_tuple_of : T "is_tuple_of" = some ⟨2, 2, b_is_tuple_of, false⟩
  t_are_between : T "are_between" = some ⟨4, 5, b_are_between, false⟩
  t_is_pack : T "is_pack" = some ⟨2, 2, b_is_pack, false⟩
  t_is_list_by : T "is_list_by" = some ⟨1, 2, b_is_list_by, false⟩
  g_MOST_IN_PACK : G "MOST_IN_PACK" = some (.int 9999)
  g_MOST_PACKS : G "MOST_PACKS" = some (.int 8)
  g_MOST_GOODS : G "MOST_GOODS" = some (.int 6)
  g_MANY : G "MANY" = some (.int 0)
  g_PACKS : G "PACKS" = some (.int 1)
def b_is_figures : Ss := (ssOf [(.ite (.or (.cmp .eq (.var 0) (.con (.str ""))) (.bi .any false (esOf [(.comp false [1] (.cmp .notin (.var 1) (.glob "FIGURES")) (.var 1) (.val (.var 0)) (esOf []))]))) (ssOf [(.ret (.con (.bl false)))]) (ssOf [])), (.ret (.or (.cmp .eq (.var 0) (.con (.str "0"))) (.cmp .ne (.ix (.var 0) (.con (.int 0))) (.con (.str "0")))))])
def b_is_number_text : Ss := (ssOf [(.ite (.mt .startswith false (.var 0) (esOf [(.glob "MINUS")])) (ssOf [(.ret (.and (.call "is_figures" (esOf [(.sl false (.var 0) (.some (.con (.int 1))) .none)])) (.cmp .ne (.var 0) (.con (.str "-0")))))]) (ssOf [])), (.ret (.call "is_figures" (esOf [(.var 0)])))])
def b_read_numbers : Ss := (ssOf [(.ite (.not (.bi .all false (esOf [(.comp false [1] (.call "is_number_text" (esOf [(.var 1)])) (.var 1) (.val (.var 0)) (esOf []))]))) (ssOf [(.ret (.lst false (esOf [])))]) (ssOf [])), (.ret (.lst false (esOf [(.bi .tuple false (esOf [(.comp false [1] (.bi .int false (esOf [(.var 1)])) (.var 1) (.val (.var 0)) (esOf []))]))])))])
def b_read_line : Ss := (ssOf [(.asg (.var 2) (.mt .split false (.var 0) (esOf [(.glob "BLANK")]))), (.ret (.ite (.cmp .eq (.ix (.var 2) (.con (.int 0))) (.var 1)) (.call "read_numbers" (esOf [(.sl false (.var 2) (.some (.con (.int 1))) .none)])) (.lst false (esOf []))))])
def b_read_lines : Ss := (ssOf [(.asg (.tup (tgsOf [(.var 1), (.var 2)])) (.tup (esOf [(.call "read_line" (esOf [(.ix (.var 0) (.con (.int 0))), (.glob "GOODS_WORD")])), (.lst true (esOf []))]))), (.ite (.or (.cmp .eq (.var 1) (.lst false (esOf []))) (.cmp .ne (.bi .len false (esOf [(.ix (.var 1) (.con (.int 0)))])) (.con (.int 1)))) (ssOf [(.ret (.lst false (esOf [])))]) (ssOf [])), (.for (.var 3) (.val (.sl false (.var 0) (.some (.con (.int 1))) .none)) (ssOf [(.asg (.var 4) (.call "read_line" (esOf [(.var 3), (.glob "PACK_WORD")]))), (.ite (.cmp .eq (.var 4) (.lst false (esOf []))) (ssOf [(.ret (.lst false (esOf [])))]) (ssOf [])), (.expr (.mt .extend false (.var 2) (esOf [(.var 4)])))])), (.ret (.lst false (esOf [(.tup (esOf [(.ix (.ix (.var 1) (.con (.int 0))) (.con (.int 0))), (.bi .tuple false (esOf [(.var 2)]))]))])))])
def b_list_with_text : Ss := (ssOf [(.ite (.not (.mt .endswith false (.var 0) (esOf [(.glob "END")]))) (ssOf [(.ret (.lst false (esOf [])))]) (ssOf [])), (.ret (.comp false [1] (.var 1) (.var 1) (.val (.call "read_lines" (esOf [(.mt .split false (.sl false (.var 0) .none (.some (.neg (.con (.int 1))))) (esOf [(.glob "END")]))]))) (esOf [(.call "is_list_by" (esOf [(.var 1)]))])))])
structure LibR (T : Str → Option Df) (G : Str → Option D) : Prop where
  t_is_figures : T "is_figures" = some ⟨1, 2, b_is_figures, false⟩
  t_is_number_text : T "is_number_text" = some ⟨1, 1, b_is_number_text, false⟩
  t_read_numbers : T "read_numbers" = some ⟨1, 2, b_read_numbers, false⟩
  t_read_line : T "read_line" = some ⟨2, 3, b_read_line, false⟩
  t_read_lines : T "read_lines" = some ⟨1, 5, b_read_lines, false⟩
  t_list_with_text : T "list_with_text" = some ⟨1, 2, b_list_with_text, false⟩
  g_FIGURES : G "FIGURES" = some (.str "0123456789")
  g_MINUS : G "MINUS" = some (.str "-")
  g_BLANK : G "BLANK" = some (.str " ")
  g_GOODS_WORD : G "GOODS_WORD" = some (.str "goods")
  g_PACK_WORD : G "PACK_WORD" = some (.str "pack")
  g_END : G "END" = some (.str "\n")
def b_l_pick : Ss := (ssOf [(.ret (.ix (.var 1) (.call "_law_draw" (esOf [(.var 0), (.bi .len false (esOf [(.var 1)]))]))))])
def b_l_same : Ss := (ssOf [(.ite (.isin (.var 0) [.tuple]) (ssOf [(.ret (.and (.isin (.var 1) [.tuple]) (.and (.cmp .eq (.bi .len false (esOf [(.var 0)])) (.bi .len false (esOf [(.var 1)]))) (.cmp .eq (.comp false [2] (.var 2) (.var 2) (.rng (esOf [(.bi .len false (esOf [(.var 0)]))])) (esOf [(.not (.call "_law_same" (esOf [(.ix (.var 0) (.var 2)), (.ix (.var 1) (.var 2))])))])) (.lst false (esOf []))))))]) (ssOf [])), (.ite (.or (.isin (.var 0) [.bool]) (.isin (.var 1) [.bool])) (ssOf [(.ret (.and (.isin (.var 0) [.bool]) (.and (.isin (.var 1) [.bool]) (.cmp .eq (.var 0) (.var 1)))))]) (ssOf [])), (.ret (.and (.cmp .eq (.isin (.var 0) [.int]) (.isin (.var 1) [.int])) (.and (.cmp .eq (.isin (.var 0) [.str]) (.isin (.var 1) [.str])) (.cmp .eq (.var 0) (.var 1)))))])
structure LibL (T : Str → Option Df) (G : Str → Option D) : Prop where
  t_l_pick : T "_law_pick" = some ⟨2, 2, b_l_pick, false⟩
  t_l_same : T "_law_same" = some ⟨2, 3, b_l_same, false⟩
def b_l_number : Ss := (ssOf [(.ite (.cmp .eq (.var 1) (.con (.int 0))) (ssOf [(.ret (.bin .sub (.call "_law_draw" (esOf [(.var 0), (.con (.int 7))])) (.con (.int 3))))]) (ssOf [])), (.ite (.cmp .eq (.var 1) (.con (.int 1))) (ssOf [(.ret (.bin .sub (.call "_law_draw" (esOf [(.var 0), (.con (.int 41))])) (.con (.int 20))))]) (ssOf [])), (.ret (.call "_law_pick" (esOf [(.var 0), (.lst false (esOf [(.bin .sub (.call "_law_draw" (esOf [(.var 0), (.con (.int 19999))])) (.con (.int 9999))), (.con (.int 9999)), (.neg (.con (.int 9999))), (.con (.int 0)), (.con (.int 1))]))])))])
def b_l_row : Ss := (ssOf [(.ret (.bi .tuple false (esOf [(.comp false [3] (.call "_law_number" (esOf [(.var 0), (.var 2)])) (.var 3) (.rng (esOf [(.var 1)])) (esOf []))])))])
structure LibN (T : Str → Option Df) (G : Str → Option D) : Prop where
  t_l_number : T "_law_number" = some ⟨2, 2, b_l_number, false⟩
  t_l_row : T "_law_row" = some ⟨3, 4, b_l_row, false⟩
def b_l_list : Ss := (ssOf [(.asg (.var 4) (.lst true (esOf []))), (.for (.var 5) (.rng (esOf [(.call "_law_draw" (esOf [(.var 0), (.bin .add (.var 2) (.con (.int 1)))]))])) (ssOf [(.asg (.var 6) (.call "_law_draw" (esOf [(.var 0), (.con (.int 6))]))), (.ite (.and (.cmp .eq (.var 6) (.con (.int 0))) (.cmp .ne (.var 4) (.lst false (esOf [])))) (ssOf [(.expr (.mt .append false (.var 4) (esOf [(.call "_law_pick" (esOf [(.var 0), (.var 4)]))])))]) (ssOf [(.ite (.cmp .eq (.var 6) (.con (.int 1))) (ssOf [(.expr (.mt .append false (.var 4) (esOf [(.bi .tuple false (esOf [(.comp false [7] (.con (.int 0)) (.var 7) (.rng (esOf [(.var 1)])) (esOf []))]))])))]) (ssOf [(.ite (.and (.cmp .eq (.var 6) (.con (.int 2))) (.cmp .gt (.bi .len false (esOf [(.var 4)])) (.con (.int 1)))) (ssOf [(.asg (.tup (tgsOf [(.var 8), (.var 9)])) (.tup (esOf [(.call "_law_pick" (esOf [(.var 0), (.var 4)])), (.call "_law_pick" (esOf [(.var 0), (.var 4)]))]))), (.asg (.var 10) (.bi .tuple false (esOf [(.comp false [11] (.bin .sub (.bin .mul (.con (.int 2)) (.ix (.var 8) (.var 11))) (.ix (.var 9) (.var 11))) (.var 11) (.rng (esOf [(.var 1)])) (esOf []))]))), (.expr (.mt .append false (.var 4) (esOf [(.ite (.cmp .lt (.bi .max false (esOf [(.comp false [12] (.bi .abs false (esOf [(.var 12)])) (.var 12) (.val (.var 10)) (esOf []))])) (.con (.int 10000))) (.var 10) (.var 8))])))]) (ssOf [(.expr (.mt .append false (.var 4) (esOf [(.call "_law_row" (esOf [(.var 0), (.var 1), (.var 3)]))])))]))]))]))])), (.ret (.tup (esOf [(.var 1), (.bi .tuple false (esOf [(.var 4)]))])))])
structure LibLs (T : Str → Option Df) (G : Str → Option D) : Prop where
  t_l_list : T "_law_list" = some ⟨4, 13, b_l_list, false⟩
def b_l_figures : Ss := (ssOf [(.asg (.var 1) (.ite (.cmp .eq (.sl false (.var 0) .none (.some (.con (.int 1)))) (.con (.str "-"))) (.sl false (.var 0) (.some (.con (.int 1))) .none) (.var 0))), (.ite (.or (.cmp .eq (.var 1) (.con (.str ""))) (.or (.cmp .ne (.comp false [2] (.var 2) (.var 2) (.val (.var 1)) (esOf [(.cmp .notin (.var 2) (.con (.str "0123456789")))])) (.lst false (esOf []))) (.or (.and (.cmp .gt (.bi .len false (esOf [(.var 1)])) (.con (.int 1))) (.cmp .eq (.ix (.var 1) (.con (.int 0))) (.con (.str "0")))) (.cmp .eq (.var 0) (.con (.str "-0")))))) (ssOf [(.ret (.con .non))]) (ssOf [])), (.ret (.ite (.cmp .eq (.ix (.var 0) (.con (.int 0))) (.con (.str "-"))) (.neg (.bi .int false (esOf [(.var 1)]))) (.bi .int false (esOf [(.var 1)]))))])
def b_l_row_text : Ss := (ssOf [(.ret (.mt .join false (.con (.str " ")) (esOf [(.comp false [1] (.bi .str false (esOf [(.var 1)])) (.var 1) (.val (.var 0)) (esOf []))])))])
def b_l_read_row : Ss := (ssOf [(.asg (.var 2) (.comp false [3] (.call "_law_figures" (esOf [(.var 3)])) (.var 3) (.val (.mt .split false (.var 0) (esOf [(.con (.str " "))]))) (esOf []))), (.ret (.ite (.and (.cmp .eq (.bi .len false (esOf [(.var 2)])) (.var 1)) (.cmp .notin (.con .non) (.var 2))) (.bi .tuple false (esOf [(.var 2)])) (.con .non)))])
structure LibF (T : Str → Option Df) (G : Str → Option D) : Prop where
  t_l_figures : T "_law_figures" = some ⟨1, 3, b_l_figures, false⟩
  t_l_row_text : T "_law_row_text" = some ⟨1, 2, b_l_row_text, false⟩
  t_l_read_row : T "_law_read_row" = some ⟨2, 4, b_l_read_row, false⟩
def b_l_list_rows : Ss := (ssOf [(.ret (.bin .add (.lst false (esOf [(.bin .add (.con (.str "goods ")) (.bi .str false (esOf [(.ix (.var 0) (.con (.int 0)))])))])) (.comp false [1] (.bin .add (.con (.str "pack ")) (.call "_law_row_text" (esOf [(.var 1)]))) (.var 1) (.val (.ix (.var 0) (.con (.int 1)))) (esOf []))))])
def b_l_read_list : Ss := (ssOf [(.asg (.var 1) (.mt .split false (.var 0) (esOf [(.con (.str "\n"))]))), (.ite (.or (.cmp .lt (.bi .len false (esOf [(.var 1)])) (.con (.int 2))) (.or (.cmp .gt (.bi .len false (esOf [(.var 1)])) (.con (.int 10))) (.or (.cmp .ne (.ix (.var 1) (.neg (.con (.int 1)))) (.con (.str ""))) (.cmp .notin (.ix (.var 1) (.con (.int 0))) (.comp false [2] (.bin .add (.con (.str "goods ")) (.bi .str false (esOf [(.var 2)]))) (.var 2) (.rng (esOf [(.con (.int 1)), (.con (.int 7))])) (esOf [])))))) (ssOf [(.ret (.con .non))]) (ssOf [])), (.asg (.tup (tgsOf [(.var 2), (.var 3)])) (.tup (esOf [(.bi .int false (esOf [(.sl false (.ix (.var 1) (.con (.int 0))) (.some (.con (.int 6))) .none)])), (.lst true (esOf []))]))), (.for (.var 4) (.val (.sl false (.var 1) (.some (.con (.int 1))) (.some (.neg (.con (.int 1)))))) (ssOf [(.asg (.var 5) (.ite (.cmp .eq (.sl false (.var 4) .none (.some (.con (.int 5)))) (.con (.str "pack "))) (.call "_law_read_row" (esOf [(.sl false (.var 4) (.some (.con (.int 5))) .none), (.var 2)])) (.con .non))), (.ite (.or (.cmp .is (.var 5) (.con .non)) (.cmp .ne (.comp false [6] (.var 6) (.var 6) (.val (.var 5)) (esOf [(.or (.cmp .gt (.var 6) (.con (.int 9999))) (.cmp .lt (.var 6) (.neg (.con (.int 9999)))))])) (.lst false (esOf [])))) (ssOf [(.ret (.con .non))]) (ssOf [])), (.expr (.mt .append false (.var 3) (esOf [(.var 5)])))])), (.ret (.tup (esOf [(.var 2), (.bi .tuple false (esOf [(.var 3)]))])))])
structure LibFl (T : Str → Option Df) (G : Str → Option D) : Prop where
  t_l_list_rows : T "_law_list_rows" = some ⟨1, 2, b_l_list_rows, false⟩
  t_l_read_list : T "_law_read_list" = some ⟨1, 7, b_l_read_list, false⟩
def b_are_wholes : Ss := (ssOf [(.ret (.and (.call "is_tuple_of" (esOf [(.var 0), (.var 1)])) (.bi .all false (esOf [(.comp false [2] (.call "is_whole" (esOf [(.var 2)])) (.var 2) (.val (.var 0)) (esOf []))]))))])
structure LibA (T : Str → Option Df) (G : Str → Option D) : Prop where
  t_are_wholes : T "are_wholes" = some ⟨2, 3, b_are_wholes, false⟩
def b_text_of_row : Ss := (ssOf [(.ret (.mt .join false (.glob "BLANK") (esOf [(.comp false [1] (.bi .str false (esOf [(.var 1)])) (.var 1) (.val (.var 0)) (esOf []))])))])
structure LibW0 (T : Str → Option Df) (G : Str → Option D) : Prop where
  t_text_of_row : T "text_of_row" = some ⟨1, 2, b_text_of_row, false⟩
  g_BLANK : G "BLANK" = some (.str " ")
def b_text_of_list : Ss := (ssOf [(.asg (.var 1) (.lst true (esOf [(.bin .add (.bin .add (.glob "GOODS_WORD") (.glob "BLANK")) (.bi .str false (esOf [(.ix (.var 0) (.glob "MANY"))])))]))), (.for (.var 2) (.val (.ix (.var 0) (.glob "PACKS"))) (ssOf [(.expr (.mt .append false (.var 1) (esOf [(.bin .add (.bin .add (.glob "PACK_WORD") (.glob "BLANK")) (.call "text_of_row" (esOf [(.var 2)])))])))])), (.ret (.mt .join false (.con (.str "")) (esOf [(.comp false [3] (.bin .add (.var 3) (.glob "END")) (.var 3) (.val (.var 1)) (esOf []))])))])
structure LibW (T : Str → Option Df) (G : Str → Option D) : Prop extends LibW0 T G where
  t_text_of_list : T "text_of_list" = some ⟨1, 4, b_text_of_list, false⟩
  g_PACKS : G "PACKS" = some (.int 1)
  g_GOODS_WORD : G "GOODS_WORD" = some (.str "goods")
  g_END : G "END" = some (.str "\n")
  g_MANY : G "MANY" = some (.int 0)
  g_PACK_WORD : G "PACK_WORD" = some (.str "pack")
def b_l_put : Ss := (ssOf [(.ret (.bin .add (.bin .add (.sl false (.var 0) .none (.some (.var 1))) (.tup (esOf [(.var 2)]))) (.sl false (.var 0) (.some (.bin .add (.var 1) (.con (.int 1)))) .none)))])
structure LibP (T : Str → Option Df) (G : Str → Option D) : Prop where
  t_l_put : T "_law_put" = some ⟨3, 3, b_l_put, false⟩

end Pyx.Ty
end
section
/-! What the shared defs give. -/
namespace Pyx
open PySem (Str sizeLine)
namespace Ty
section
variable {T : Str → Option Df} {G : Str → Option D} {W n : Nat} {S : Store} {Q : D → Store → Prop}
def isW : D → Bool
  | .int _ => true
  | _ => false
def arB (lo hi : Int) : D → Bool
  | .int i => decide (lo ≤ i) && decide (i ≤ hi)
  | _ => false
def lenIs (k : Int) : D → Bool
  | .tup ds => (ds.length : Int) == k
  | _ => false
def tupAll (p : D → Bool) (k : Int) : D → Bool
  | .tup ds => (ds.length : Int) == k && ds.all p
  | _ => false
def isPk (m : Int) (d : D) : Bool := tupAll (arB (-9999) 9999) m d
def isLs : D → Bool
  | .tup [.int m, .tup ps] => decide (1 ≤ m) && decide (m ≤ 6) && decide (ps.length ≤ 8) && ps.all (isPk m)
  | _ => false
theorem ok_is_whole (L : LibV T G) {d : D} (h : d.pure = true) : Ok (callF T G W (n + 1) "is_whole" [d] S) Q ↔ Q (.bl (isW d)) S := by
  rw [Ok_callF L.t_is_whole rfl]
  cases d with
  | ref l => cases h
  | _ => simp [b_is_whole, esOf, ssOf, isW]
theorem ok_is_between (L : LibV T G) {d : D} {lo hi : Int} (h : d.pure = true) : Ok (callF T G W (n + 2) "is_between" [d, .int lo, .int hi] S) Q ↔ Q (.bl (arB lo hi d)) S := by
  rw [Ok_callF L.t_is_between rfl]
  cases d with
  | int i =>
    simp [b_is_between, esOf, ssOf, ok_is_whole L h, isW, arB]
    by_cases c1 : lo ≤ i
    · by_cases c2 : i ≤ hi
      · simp [c1, c2, Int.not_lt.mpr c1, Int.not_lt.mpr c2]
      · simp [c1, c2, Int.not_lt.mpr c1, Int.not_le.mp c2]
    · simp [c1, Int.not_le.mp c1]
  | ref l => cases h
  | _ => simp [b_is_between, esOf, ssOf, ok_is_whole L h, isW, arB]
theorem ok_is_tuple_of (L : LibV T G) {d : D} {k : Int} (h : d.pure = true) : Ok (callF T G W (n + 1) "is_tuple_of" [d, .int k] S) Q ↔ Q (.bl (lenIs k d)) S := by
  rw [Ok_callF L.t_is_tuple_of rfl]
  cases d with
  | ref l => cases h
  | tup ds =>
    by_cases c : (ds.length : Int) = k
    · simp [b_is_tuple_of, esOf, ssOf, lenIs, c]
    · simp [b_is_tuple_of, esOf, ssOf, lenIs, c, beq_eq_false_iff_ne.mpr c]
  | _ => simp [b_is_tuple_of, esOf, ssOf, lenIs]
theorem ok_are_between (L : LibV T G) {d : D} {k lo hi : Int} (h : d.pure = true) (z : ∀ ds, d = .tup ds → ds.length ≤ sizeLine) : Ok (callF T G W (n + 3) "are_between" [d, .int k, .int lo, .int hi] S) Q ↔ Q (.bl (tupAll (arB lo hi) k d)) S := by
  rw [Ok_callF L.t_are_between rfl]
  cases d with
  | tup ds =>
    have hp : ∀ x ∈ ds, x.pure = true := pures_mem (by simpa [D.pure] using h)
    have key : ∀ {Q : D → Store → Prop}, Ok (evE (callF T G W (n + 2)) G (.comp false [4] (.call "is_between" (esOf [(.var 4), (.var 2), (.var 3)])) (.var 4) (.val (.var 0)) (esOf [])) [some (.tup ds), some (.int k), some (.int lo), some (.int hi), none] S) Q ↔ ds.length ≤ sizeLine ∧ Q (.lst (ds.map fun x => .bl (arB lo hi x))) S := fun {Q} => by
      rw [esOf, Ok_map1 (xs := ds) (fun x => .bl (arB lo hi x)) (by simp) (by simp) fun x m => by simp [esOf, wipeE, ok_is_between L (hp x m)]]
      simp
    by_cases c : (ds.length : Int) = k
    · simp [b_are_between, esOf, ssOf, ok_is_tuple_of L h, lenIs, tupAll, c]
      have := @key
      simp only [esOf] at this
      simp [this, z ds rfl]
    · simp [b_are_between, esOf, ssOf, ok_is_tuple_of L h, lenIs, tupAll, beq_eq_false_iff_ne.mpr c]
  | ref l => cases h
  | _ => simp [b_are_between, esOf, ssOf, ok_is_tuple_of L h, lenIs, tupAll]
theorem ok_is_pack (L : LibV T G) {d : D} {k : Int} (h : d.pure = true) (z : ∀ ds, d = .tup ds → ds.length ≤ sizeLine) : Ok (callF T G W (n + 4) "is_pack" [.int k, d] S) Q ↔ Q (.bl (isPk k d)) S := by
  rw [Ok_callF L.t_is_pack rfl]
  simp [b_is_pack, esOf, ssOf, L.g_MOST_IN_PACK, ok_are_between L h z, isPk]
/-- no tuple in it is too long -/
def tupOk : D → Prop
  | .tup ds => ds.length ≤ sizeLine
  | _ => True
theorem ok_is_list_by (L : LibV T G) {d : D} (h : d.pure = true) (z : ∀ a ps, d = .tup [a, .tup ps] → ∀ p ∈ ps, ∀ ds, p = .tup ds → ds.length ≤ sizeLine) : Ok (callF T G W (n + 5) "is_list_by" [d] S) Q ↔ Q (.bl (isLs d)) S := by
  rw [Ok_callF L.t_is_list_by rfl]
  cases d with
  | tup ds =>
    have hp : ∀ x ∈ ds, x.pure = true := pures_mem (by simpa [D.pure] using h)
    match ds, hp, z, h with
    | [], _, _, h => simp [b_is_list_by, esOf, ssOf, ok_is_tuple_of L h, lenIs, isLs]
    | [a], _, _, h => simp [b_is_list_by, esOf, ssOf, ok_is_tuple_of L h, lenIs, isLs]
    | a :: b :: c :: ds, _, _, h =>
      have c2 : ¬ ((ds.length : Int) + 1 + 1 + 1 = 2) := by omega
      simp [b_is_list_by, esOf, ssOf, ok_is_tuple_of L h, lenIs, isLs, c2]
    | [a, b], hp, z, h =>
      have ha := hp a (by simp)
      have hb := hp b (by simp)
      cases a with
      | int m =>
        by_cases c1 : 1 ≤ m
        · by_cases c2 : m ≤ 6
          · cases b with
            | tup ps =>
              by_cases c3 : ps.length ≤ 8
              · have c4 : ¬ ((8 : Int) < ps.length) := by omega
                have hq : ∀ x ∈ ps, x.pure = true := pures_mem (by simpa [D.pure] using hb)
                have key : ∀ {Q : D → Store → Prop}, Ok (evE (callF T G W (n + 4)) G (.comp false [1] (.call "is_pack" (.cons (.ix (.var 0) (.glob "MANY")) (.cons (.var 1) .nil))) (.var 1) (.val (.ix (.var 0) (.glob "PACKS"))) .nil) [some (.tup [.int m, .tup ps]), none] S) Q ↔ ps.length ≤ sizeLine ∧ Q (.lst (ps.map fun x => .bl (isPk m x))) S := fun {Q} => by
                  rw [Ok_map1 (xs := ps) (fun x => .bl (isPk m x)) (by simp [L.g_PACKS, atI_1]) (by simp) fun x k => by simp [esOf, wipeE, L.g_MANY, atI_0, ok_is_pack L (hq x k) (z _ ps rfl x k)]]
                  simp
                have zl : ps.length ≤ sizeLine := Nat.le_trans c3 (by decide)
                simp [b_is_list_by, esOf, ssOf, ok_is_tuple_of L h, lenIs, isLs, L.g_MANY, L.g_PACKS, L.g_MOST_GOODS, L.g_MOST_PACKS, atI_0, atI_1, ok_is_between L ha, arB, c1, c2, c3, c4, key, zl]
              · have c4 : (8 : Int) < ps.length := by omega
                simp [b_is_list_by, esOf, ssOf, ok_is_tuple_of L h, lenIs, isLs, L.g_MANY, L.g_PACKS, L.g_MOST_GOODS, L.g_MOST_PACKS, atI_0, atI_1, ok_is_between L ha, arB, c1, c2, c3, c4]
            | ref l => cases hb
            | _ => simp [b_is_list_by, esOf, ssOf, ok_is_tuple_of L h, lenIs, isLs, L.g_MANY, L.g_PACKS, L.g_MOST_GOODS, L.g_MOST_PACKS, atI_0, atI_1, ok_is_between L ha, arB, c1, c2]
          · cases b <;> simp [b_is_list_by, esOf, ssOf, ok_is_tuple_of L h, lenIs, isLs, L.g_MANY, L.g_PACKS, L.g_MOST_GOODS, L.g_MOST_PACKS, atI_0, atI_1, ok_is_between L ha, arB, c1, c2]
        · cases b <;> simp [b_is_list_by, esOf, ssOf, ok_is_tuple_of L h, lenIs, isLs, L.g_MANY, L.g_PACKS, L.g_MOST_GOODS, L.g_MOST_PACKS, atI_0, atI_1, ok_is_between L ha, arB, c1]
      | ref l => cases ha
      | _ => simp [b_is_list_by, esOf, ssOf, ok_is_tuple_of L h, lenIs, isLs, L.g_MANY, L.g_PACKS, L.g_MOST_GOODS, L.g_MOST_PACKS, atI_0, atI_1, ok_is_between L ha, arB]
  | ref l => cases h
  | _ => simp [b_is_list_by, esOf, ssOf, ok_is_tuple_of L h, lenIs, isLs]
end
end Ty
end Pyx
end
section
/-! Texts as lists of signs. -/
namespace Pyx
open PySem (Str sizeLine)
open TL
theorem str_beq (s t : Str) : (s == t) = decide (tl s = tl t) := by
  by_cases h : tl s = tl t
  · rw [ext_tl h]; simp
  · have : s ≠ t := fun e => h (by rw [e])
    simp [h, this]
theorem tl_inj {s t : Str} (h : tl s = tl t) : s = t := ext_tl h
theorem starts_pre (x y : Str) (hy : tl y ≠ []) : PySem.Txt.startswith x y = pre (tl y) (tl x) := by
  have h := at_iff (x := x) hy 0
  rw [List.drop_zero] at h
  unfold PySem.Txt.startswith
  cases e : pre (tl y) (tl x) with
  | true =>
    have := h.mpr e
    simp_all [PySem.StrLaws.At]
  | false =>
    have : ¬ _ := fun q => absurd (h.mp q) (by rw [e]; decide)
    simp_all [PySem.StrLaws.At]
theorem ends_pre (x y : Str) (hy : tl y ≠ []) : PySem.Txt.endswith x y = (decide ((tl y).length ≤ (tl x).length) && pre (tl y) ((tl x).drop ((tl x).length - (tl y).length))) := by
  have h := at_iff (x := x) hy (x.length - y.length)
  unfold PySem.Txt.endswith
  rw [← len_tl, ← len_tl]
  by_cases c : y.length ≤ x.length
  · cases e : pre (tl y) ((tl x).drop (x.length - y.length)) with
    | true =>
      have := h.mpr e
      simp_all [PySem.StrLaws.At]
    | false =>
      have : ¬ _ := fun q => absurd (h.mp q) (by rw [e]; decide)
      simp_all [PySem.StrLaws.At]
  · simp [c]
theorem tl_cutS (z : Str) (lo hi : Option Int) : tl (L2.cutS z lo hi) = cut (tl z) lo hi := by
  unfold cut L2.cutS
  rw [tl_mk, ← len_tl]
theorem cut_last {α : Type} (l : List α) : cut l none (some (-1)) = l.dropLast := by
  unfold cut
  rw [HT.sIx_none, List.drop_zero, Nat.sub_zero, List.dropLast_eq_take]
  congr 1
  show (if (-1 : Int) < 0 then ((-1 : Int) + (l.length : Int)).toNat else min (-1 : Int).toNat l.length) = _
  rw [if_pos (by decide)]
  omega
theorem cut_mid {α : Type} (l : List α) : cut l (some 1) (some (-1)) = (l.drop 1).dropLast := by
  unfold cut
  rw [List.dropLast_eq_take, List.length_drop]
  show (l.drop (HT.sIx l.length 0 (some ((1 : Nat) : Int)))).take ((if (-1 : Int) < 0 then ((-1 : Int) + (l.length : Int)).toNat else min (-1 : Int).toNat l.length) - HT.sIx l.length 0 (some ((1 : Nat) : Int))) = _
  rw [HT.sIx_nat, if_pos (by decide)]
  by_cases h : 1 ≤ l.length
  · rw [Nat.min_eq_left h]
    congr 1
    omega
  · have : l = [] := List.length_eq_zero_iff.mp (by omega)
    subst this
    simp
/-! ### numbers as texts -/
/-- the signs of a whole number's text -/
def numC (i : Int) : List Nat := if i < 0 then 45 :: numL i.natAbs else numL i.natAbs
theorem tl_numS (i : Int) : tl (Str.ofString (toString i)) = numC i := by
  unfold numC
  by_cases h : i < 0
  · rw [if_pos h]
    obtain ⟨n, rfl⟩ : ∃ n : Nat, i = -((n : Nat) : Int) := ⟨i.natAbs, by omega⟩
    have e : toString (-((n : Nat) : Int)) = "-" ++ toString ((n : Nat) : Int) := by
      cases n with
      | zero => omega
      | succ n => rfl
    have e3 := tl_num n
    rw [tl_ofString] at e3
    rw [e, tl_ofString, String.toList_append, List.map_append, e3, Int.natAbs_neg, Int.natAbs_natCast]
    rfl
  · rw [if_neg h]
    obtain ⟨n, rfl⟩ : ∃ n : Nat, i = ((n : Nat) : Int) := ⟨i.natAbs, by omega⟩
    rw [tl_num, Int.natAbs_natCast]
/-- figures alone, no nought ahead -/
def figB (l : List Nat) : Bool := !l.isEmpty && l.all (fun c => decide (48 ≤ c) && decide (c ≤ 57)) && (decide (l = [48]) || decide (l.head? ≠ some 48))
def numB : List Nat → Bool
  | 45 :: r => figB r && decide (r ≠ [48])
  | l => figB l
def numV : List Nat → Int
  | 45 :: r => -((PySem.NumText.digitsVal r : Nat) : Int)
  | l => ((PySem.NumText.digitsVal l : Nat) : Int)
theorem numL_head : ∀ (n : Nat), n ≠ 0 → (numL n).head? ≠ some 48 := by
  intro n
  induction n using Nat.strongRecOn with
  | _ n ih =>
    intro h
    by_cases c : n < 10
    · rw [numL_lt c]; simp; omega
    · rw [numL_step (by omega), List.head?_append]
      have := ih (n / 10) (by omega) (by omega)
      cases e : (numL (n / 10)).head? with
      | none => exact absurd (List.head?_eq_none_iff.mp e) (numL_ne _)
      | some a => rw [e] at this; simpa using this
theorem figB_numL (n : Nat) : figB (numL n) = true := by
  unfold figB
  have h1 : (numL n).isEmpty = false := by
    cases e : numL n with
    | nil => exact absurd e (numL_ne n)
    | cons => rfl
  have h2 : (numL n).all (fun c => decide (48 ≤ c) && decide (c ≤ 57)) = true := by
    rw [List.all_eq_true]
    intro c m
    have := numL_digits n c m
    simp only [Bool.and_eq_true, decide_eq_true_eq]; omega
  rw [h1, h2]
  by_cases c : n = 0
  · subst c; simp [numL_lt (n := 0) (by decide)]
  · simp [numL_head n c]
theorem numB_numC (i : Int) : numB (numC i) = true := by
  unfold numC
  by_cases h : i < 0
  · rw [if_pos h]
    have : numL i.natAbs ≠ [48] := fun e => by
      have e2 : numL i.natAbs = numL 0 := by rw [e, numL_lt (by decide)]
      have := numL_inj e2
      omega
    simp [numB, figB_numL, this]
  · rw [if_neg h]
    have := figB_numL i.natAbs
    unfold numB
    split
    · rename_i r e
      have := numL_digits i.natAbs 45 (by rw [e]; exact List.mem_cons_self)
      omega
    · exact this
theorem numV_numC (i : Int) : numV (numC i) = i := by
  unfold numC
  by_cases h : i < 0
  · rw [if_pos h]
    show -((PySem.NumText.digitsVal (numL i.natAbs) : Nat) : Int) = i
    rw [numL_val]; omega
  · rw [if_neg h]
    unfold numV
    split
    · rename_i r e
      have := numL_digits i.natAbs 45 (by rw [e]; exact List.mem_cons_self)
      omega
    · rw [numL_val]; omega
theorem numC_inj {i j : Int} (h : numC i = numC j) : i = j := by rw [← numV_numC i, h, numV_numC]
theorem figB_digits {l : List Nat} (h : figB l = true) : l ≠ [] ∧ PySem.NumText.AllDigits l := by
  simp only [figB, Bool.and_eq_true, Bool.not_eq_true', List.all_eq_true, decide_eq_true_eq] at h
  refine ⟨fun e => ?_, fun c m => ?_⟩
  · rw [e] at h; simp at h
  · have := h.1.2 c m; omega
theorem int_of_num {s : Str} (h : numB (tl s) = true) (z : s.length ≤ 640) : intD (.str s) = some (numV (tl s)) := by
  have key : PySem.intText? s = some (numV (tl s)) := by
    unfold numB at h
    split at h
    · rename_i r e
      simp only [Bool.and_eq_true] at h
      obtain ⟨n, d⟩ := figB_digits h.1
      rw [PySem.intText_neg e d n (by omega), e]; rfl
    · rename_i ne
      obtain ⟨n, d⟩ := figB_digits h
      rw [PySem.intText_digits d n (by omega)]
      unfold numV
      split
      · rename_i r e; exact absurd e (ne r)
      · rfl
  simp [intD, key, z]
theorem numC_free {i : Int} {c : Nat} (h : c < 45 ∨ 57 < c) : c ∉ numC i := by
  unfold numC
  split
  · intro m
    rcases List.mem_cons.mp m with rfl | m
    · omega
    · exact numL_free (by omega) m
  · exact numL_free (by omega)
theorem numC_ne (i : Int) : numC i ≠ [] := by
  unfold numC
  split
  · simp
  · exact numL_ne _
theorem numC_len {i : Int} {k : Nat} (hk : 0 < k) (h : i.natAbs < 10 ^ k) : (numC i).length ≤ k + 1 := by
  have := numL_len hk h
  unfold numC
  split
  · rw [List.length_cons]; omega
  · omega
theorem rev_ind {α : Type} {P : List α → Prop} (h0 : P []) (h1 : ∀ l c, P l → P (l ++ [c])) : ∀ l, P l := by
  have key : ∀ l : List α, P l.reverse := by
    intro l
    induction l with
    | nil => exact h0
    | cons c l ih => rw [List.reverse_cons]; exact h1 _ _ ih
  intro l
  have := key l.reverse
  rwa [List.reverse_reverse] at this
theorem dv_snoc (l : List Nat) (c : Nat) : PySem.NumText.digitsVal (l ++ [c]) = PySem.NumText.digitsVal l * 10 + (c - 48) := by
  unfold PySem.NumText.digitsVal
  rw [List.foldl_append]; rfl
theorem dv_pos : ∀ (l : List Nat), l ≠ [] → (∀ c ∈ l, 48 ≤ c ∧ c ≤ 57) → l.head? ≠ some 48 → 0 < PySem.NumText.digitsVal l := by
  refine rev_ind (fun h => absurd rfl h) fun l c ih => ?_
  · intro _ hd hh
    rw [dv_snoc]
    by_cases hl : l = []
    · subst hl
      have := hd c (by simp)
      simp at hh
      omega
    · have := ih hl (fun d m => hd d (List.mem_append_left _ m)) (by
        rw [List.head?_append] at hh
        cases e : l.head? with
        | none => exact absurd (List.head?_eq_none_iff.mp e) hl
        | some a => rw [e] at hh; simpa using hh)
      omega
/-- figures without a nought ahead are the text of their number -/
theorem numL_dv : ∀ (l : List Nat), l ≠ [] → (∀ c ∈ l, 48 ≤ c ∧ c ≤ 57) → (l.head? ≠ some 48) → numL (PySem.NumText.digitsVal l) = l := by
  refine rev_ind (fun h => absurd rfl h) fun l c ih => ?_
  · intro _ hd hh
    have hc := hd c (by simp)
    rw [dv_snoc]
    by_cases hl : l = []
    · subst hl
      have e : PySem.NumText.digitsVal [] * 10 + (c - 48) = c - 48 := by
        show 0 * 10 + (c - 48) = c - 48
        omega
      rw [e, numL_lt (by omega)]
      simp; omega
    · have h2 : ∀ d ∈ l, 48 ≤ d ∧ d ≤ 57 := fun d m => hd d (List.mem_append_left _ m)
      have h3 : l.head? ≠ some 48 := by
        rw [List.head?_append] at hh
        cases e : l.head? with
        | none => exact absurd (List.head?_eq_none_iff.mp e) hl
        | some a => rw [e] at hh; simpa using hh
      have p := dv_pos l hl h2 h3
      rw [numL_step (by omega), show (PySem.NumText.digitsVal l * 10 + (c - 48)) / 10 = PySem.NumText.digitsVal l by omega, ih hl h2 h3, show 48 + (PySem.NumText.digitsVal l * 10 + (c - 48)) % 10 = c by omega]
theorem numL_of {l : List Nat} (h : figB l = true) : numL (PySem.NumText.digitsVal l) = l := by
  obtain ⟨n, d⟩ := figB_digits h
  simp only [figB, Bool.and_eq_true, Bool.or_eq_true, decide_eq_true_eq] at h
  rcases h.2 with e | e
  · subst e; exact numL_lt (by decide)
  · exact numL_dv l n d e
theorem numC_of {l : List Nat} (h : numB l = true) : numC (numV l) = l := by
  unfold numB at h
  split at h
  · rename_i r
    simp only [Bool.and_eq_true, decide_eq_true_eq] at h
    have e := numL_of h.1
    have p : PySem.NumText.digitsVal r ≠ 0 := fun q => h.2 (by rw [← e, q]; exact numL_lt (by decide))
    show numC (-((PySem.NumText.digitsVal r : Nat) : Int)) = _
    unfold numC
    rw [if_pos (by omega), Int.natAbs_neg, Int.natAbs_natCast, e]
  · rename_i ne
    have e := numL_of h
    have v : numV l = ((PySem.NumText.digitsVal l : Nat) : Int) := by
      unfold numV
      split
      · rename_i r q; exact (ne _ rfl).elim
      · rfl
    rw [v]
    unfold numC
    rw [if_neg (by omega), Int.natAbs_natCast, e]
end Pyx
end
section
/-! What the shared defs over texts give. -/
namespace Pyx
open PySem (Str sizeLine)
open TL
/-- the signs of a text -/
def sg (s : Str) : List Nat := s.cps.toList
theorem sg_tl (s : Str) : sg s = tl s := rfl
theorem sg_len (s : Str) : s.length = (sg s).length := len_tl s
theorem sg_inj {s t : Str} (h : sg s = sg t) : s = t := ext_tl h
theorem sg_app (s t : Str) : sg (s ++ t) = sg s ++ sg t := tl_append s t
theorem sg_beq (s t : Str) : (s == t) = decide (sg s = sg t) := str_beq s t
theorem sg_starts (x y : Str) (hy : sg y ≠ []) : PySem.Txt.startswith x y = pre (sg y) (sg x) := starts_pre x y hy
theorem sg_ends (x y : Str) (hy : sg y ≠ []) : PySem.Txt.endswith x y = (decide ((sg y).length ≤ (sg x).length) && pre (sg y) ((sg x).drop ((sg x).length - (sg y).length))) := ends_pre x y hy
theorem sg_cutS (z : Str) (lo hi : Option Int) : sg (L2.cutS z lo hi) = cut (sg z) lo hi := tl_cutS z lo hi
theorem sg_num (i : Int) : sg (Str.ofString (toString i)) = numC i := tl_numS i
theorem sg_int {s : Str} (h : numB (sg s) = true) (z : s.length ≤ 640) : intD (.str s) = some (numV (sg s)) := int_of_num h z
theorem sg_mk (l : List Nat) : sg ⟨l.toArray⟩ = l := rfl
end Pyx
namespace Pyx.Ty
open PySem (Str sizeLine)
open TL
theorem sg_0 : sg (Str.ofString "0") = [48] := by decide +kernel
theorem sg_e : sg (Str.ofString "") = [] := by decide +kernel
theorem sg_m0 : sg (Str.ofString "-0") = [45, 48] := by decide +kernel
theorem sg_m : sg (Str.ofString "-") = [45] := by decide +kernel
theorem sg_b : sg (Str.ofString " ") = [32] := by decide +kernel
theorem sg_n : sg (Str.ofString "\n") = [10] := by decide +kernel
theorem sg_fig : sg (Str.ofString "0123456789") = [48, 49, 50, 51, 52, 53, 54, 55, 56, 57] := by decide +kernel
theorem sg_goods : sg (Str.ofString "goods") = [103, 111, 111, 100, 115] := by decide +kernel
theorem sg_pack : sg (Str.ofString "pack") = [112, 97, 99, 107] := by decide +kernel
theorem sg_goodsb : sg (Str.ofString "goods ") = [103, 111, 111, 100, 115, 32] := by decide +kernel
theorem sg_packb : sg (Str.ofString "pack ") = [112, 97, 99, 107, 32] := by decide +kernel
theorem sg_1 (c : Nat) : sg ⟨#[c]⟩ = [c] := rfl
theorem fig_mem (c : Nat) : decide (c ∈ sg (Str.ofString "0123456789")) = (decide (48 ≤ c) && decide (c ≤ 57)) := by
  rw [sg_fig]
  rw [Bool.eq_iff_iff]
  simp only [decide_eq_true_eq, List.mem_cons, List.not_mem_nil, or_false, Bool.and_eq_true]
  omega
section
variable {T : Str → Option Df} {G : Str → Option D} {W n : Nat} {S : Store} {Q : D → Store → Prop}
theorem srcVal_str (s : Str) : srcVal S (.str s) = some ((sg s).map fun c => .str ⟨#[c]⟩, none) := rfl
theorem inD_sign (c : Nat) (t : Str) : inD S (.str ⟨#[c]⟩) (.str t) = some (decide (c ∈ sg t)) := rfl
theorem Ok_ix_str (s : Str) (i : Int) : Ok (ixD (.str s) (.int i) S) Q ↔ ∃ c, L2.atI (sg s) i = some c ∧ Q (.str ⟨#[c]⟩) S := by
  simp only [ixD, ixL, dgetD, sg]
  cases L2.atI s.cps.toList i with
  | none => simp
  | some c => simp
def sgn : D → Nat
  | .str t => (sg t).headD 0
  | _ => 0
def isFig (c : Nat) : Bool := decide (48 ≤ c) && decide (c ≤ 57)
theorem ok_is_figures (L : LibR T G) {s : Str} (z : s.length ≤ sizeLine) : Ok (callF T G W (n + 1) "is_figures" [.str s] S) Q ↔ Q (.bl (figB (sg s))) S := by
  rw [Ok_callF L.t_is_figures rfl]
  have zl : (sg s).length ≤ sizeLine := by rw [← sg_len]; exact z
  have key : ∀ {S : Store} {Q : D → Store → Prop}, Ok (evE (callF T G W n) G (.comp false [1] (.cmp .notin (.var 1) (.glob "FIGURES")) (.var 1) (.val (.var 0)) .nil) [some (.str s), none] S) Q ↔ Q (.lst ((sg s).map fun c => .bl (!isFig c))) S := fun {S Q} => by
    rw [Ok_map1 (xs := (sg s).map fun c => .str ⟨#[c]⟩) (fun x => .bl (!isFig (sgn x))) (by simp [srcVal_str]) (by simp) fun x k => by
      obtain ⟨c, _, rfl⟩ := List.mem_map.mp k
      have e : sgn (.str ⟨#[c]⟩) = c := rfl
      simp [wipeE, L.g_FIGURES, inD_sign, fig_mem, e, isFig]
      omega]
    have e2 : List.map (fun x => D.bl (!isFig (sgn x))) ((sg s).map fun c => D.str ⟨#[c]⟩) = (sg s).map fun c => .bl (!isFig c) := by
      rw [List.map_map]; rfl
    rw [e2, List.length_map]
    simp [zl]
  have key2 : ∀ {S : Store} {Q : D → Store → Prop}, Ok (evE (callF T G W n) G (.comp false [1] (.cmp .notin (.var 1) (.glob "FIGURES")) (.var 1) (.val (.var 0)) .nil) [some (.str s), none] S) (fun d S1 => Ok (biD .any false [d] S1) Q) ↔ Q (.bl (!(sg s).all isFig)) S := fun {S Q} => by
    rw [key, bi_any (p := fun c => !isFig c), Ok_ok]
    have : ((sg s).any fun c => !isFig c) = !(sg s).all isFig := by
      induction sg s with
      | nil => rfl
      | cons c l ih => simp only [List.any_cons, List.all_cons, ih, Bool.not_and]
    rw [this]
  have hb : ∀ l : List Nat, (l.all fun c => decide (48 ≤ c) && decide (c ≤ 57)) = l.all isFig := fun l => rfl
  simp only [figB, hb]
  clear key
  cases e : sg s with
  | nil => simp [b_is_figures, esOf, ssOf, key2, sg_beq, sg_e, e]
  | cons c l =>
    rw [e] at key2
    cases ha : (c :: l).all isFig with
    | false =>
      rw [ha] at key2
      simp [b_is_figures, esOf, ssOf, key2, sg_beq, sg_e, e]
    | true =>
      rw [ha] at key2
      by_cases c0 : c = 48
      · subst c0
        by_cases l0 : l = []
        · subst l0
          simp [b_is_figures, esOf, ssOf, key2, sg_beq, sg_e, sg_0, e]
        · simp [b_is_figures, esOf, ssOf, key2, sg_beq, sg_e, sg_0, e, l0, Ok_ix_str, atI_0, sg_1]
      · simp [b_is_figures, esOf, ssOf, key2, sg_beq, sg_e, sg_0, e, c0, Ok_ix_str, atI_0, sg_1]
theorem ok_is_number_text (L : LibR T G) {s : Str} (z : s.length ≤ sizeLine) : Ok (callF T G W (n + 2) "is_number_text" [.str s] S) Q ↔ Q (.bl (numB (sg s))) S := by
  rw [Ok_callF L.t_is_number_text rfl]
  have st := sg_starts s (Str.ofString "-") (by rw [sg_m]; simp)
  rw [sg_m] at st
  have z1 : (L2.cutS s (some 1) none).length ≤ sizeLine := Nat.le_trans (L2.cutS_length _ _ _) z
  have hc : sg (L2.cutS s (some 1) none) = (sg s).drop 1 := by rw [sg_cutS]; exact cut_from _ 1
  have hs : ∀ l h (S : Store), slD false (.str s) l h S = .ok (.str (L2.cutS s l h)) S := fun _ _ _ => rfl
  cases e : sg s with
  | nil =>
    rw [e] at st
    simp [b_is_number_text, esOf, ssOf, L.g_MINUS, mtTy, mtD, startsD, st, pre, ok_is_figures L z, e, numB]
  | cons c l =>
    rw [e] at st hc
    by_cases c0 : c = 45
    · subst c0
      have st2 : PySem.Txt.startswith s (Str.ofString "-") = true := by rw [st]; simp [pre]
      simp [b_is_number_text, esOf, ssOf, L.g_MINUS, mtTy, mtD, startsD, st2, hs, asI, ok_is_figures L z1, hc, sg_beq, sg_m0, e, numB]
      cases figB l <;> by_cases l0 : l = [48] <;> simp [l0]
    · have st2 : PySem.Txt.startswith s (Str.ofString "-") = false := by rw [st]; simp [pre, c0]
      have nb : numB (c :: l) = figB (c :: l) := by
        unfold numB
        split
        · rename_i h; simp_all
        · rfl
      simp [b_is_number_text, esOf, ssOf, L.g_MINUS, mtTy, mtD, startsD, st2, ok_is_figures L z, e, nb]
/-! ### rows and lists as texts -/
def numS (i : Int) : Str := Str.ofString (toString i)
theorem sg_numS (i : Int) : sg (numS i) = numC i := sg_num i
def rowT (p : List Int) : Str := PySem.Txt.join (Str.ofString " ") (p.map numS)
def intOf : D → Int
  | .int i => i
  | _ => 0
/-- a row whose text is short enough -/
structure RowOk (p : List Int) : Prop where
  len : p.length ≤ 16
  num : ∀ x ∈ p, x.natAbs < 10 ^ 60
theorem num_len {x : Int} (h : x.natAbs < 10 ^ 60) : (numS x).length ≤ 61 := by
  rw [sg_len, sg_numS]; exact numC_len (by decide) h
theorem num_log {x : Int} (h : x.natAbs < 10 ^ 60) : x.natAbs.log2 < 1920 := by
  by_cases c : x.natAbs = 0
  · rw [c]; decide
  · exact (Nat.log2_lt c).mpr (Nat.lt_of_lt_of_le h (by decide +kernel))
theorem strsOf_map : ∀ l : List Str, strsOf (l.map .str) = some l
  | [] => rfl
  | x :: l => by rw [List.map_cons, strsOf, strsOf_map l]; rfl
theorem sg_join (y : Str) (l : List Str) : sg (PySem.Txt.join y l) = joinL (sg y) (l.map sg) := by rw [join_eq]; exact tl_join y l
theorem joinL_len (s : List Nat) : ∀ (l : List (List Nat)) (k : Nat), (∀ x ∈ l, x.length ≤ k) → (joinL s l).length ≤ l.length * (k + s.length)
  | [], k, _ => by simp [joinL]
  | [x], k, h => by
    have := h x (by simp)
    simp [joinL]; omega
  | x :: y :: l, k, h => by
    have h1 := h x (by simp)
    have ih := joinL_len s (y :: l) k fun z m => h z (List.mem_cons_of_mem _ m)
    rw [joinL, List.length_append, List.length_append]
    have : (x :: y :: l).length * (k + s.length) = (y :: l).length * (k + s.length) + (k + s.length) := by rw [List.length_cons, Nat.add_mul, Nat.one_mul]
    omega
  termination_by l => l.length
theorem sum_len : ∀ (l : List Str) (k : Nat), (∀ x ∈ l, x.length ≤ k) → (l.map (·.length)).sum ≤ l.length * k
  | [], k, _ => by simp
  | x :: l, k, h => by
    have h1 := h x (by simp)
    have ih := sum_len l k fun z m => h z (List.mem_cons_of_mem _ m)
    rw [List.map_cons, List.sum_cons, List.length_cons, Nat.add_mul, Nat.one_mul]
    omega
/-- a join of few short texts -/
theorem Ok_join {m : Bool} {y : Str} {l : List Str} {k : Nat} (hk : ∀ x ∈ l, x.length ≤ k) (z : l.length * (k + y.length) ≤ sizeLine) : Ok (mtD .join m (.str y) [.lst (l.map .str)] S) Q ↔ Q (.str (PySem.Txt.join y l)) S := by
  have h1 : (l.map (·.length)).sum + l.length * y.length ≤ sizeLine := by
    have := sum_len l k hk
    rw [Nat.mul_add] at z
    omega
  have h2 : (PySem.Txt.join y l).length ≤ sizeLine := by
    rw [sg_len, sg_join]
    have := joinL_len (sg y) (l.map sg) k (fun x m => by
      obtain ⟨s, ms, rfl⟩ := List.mem_map.mp m
      rw [← sg_len]; exact hk s ms)
    rw [List.length_map, ← sg_len] at this
    omega
  simp [mtD, joinD, asQ, strsOf_map, h1, h2]
theorem rowT_len {p : List Int} (h : RowOk p) : (rowT p).length ≤ 992 := by
  unfold rowT
  rw [sg_len, sg_join]
  have := joinL_len (sg (Str.ofString " ")) ((p.map numS).map sg) 61 (fun x m => by
    obtain ⟨s, ms, rfl⟩ := List.mem_map.mp m
    obtain ⟨i, mi, rfl⟩ := List.mem_map.mp ms
    rw [← sg_len]; exact num_len (h.num i mi))
  rw [List.length_map, List.length_map] at this
  rw [sg_b] at this ⊢
  have := h.len
  simp only [List.length_singleton] at *
  omega
theorem ok_text_of_row (L : LibW0 T G) {p : List Int} (h : RowOk p) : Ok (callF T G W (n + 1) "text_of_row" [.tup (p.map .int)] S) Q ↔ Q (.str (rowT p)) S := by
  rw [Ok_callF L.t_text_of_row rfl]
  have zl : (p.map D.int).length ≤ sizeLine := by rw [List.length_map]; exact Nat.le_trans h.len (by decide)
  have key : ∀ {S : Store} {Q : D → Store → Prop}, Ok (evE (callF T G W n) G (.comp false [1] (.bi .str false (.cons (.var 1) .nil)) (.var 1) (.val (.var 0)) .nil) [some (.tup (p.map .int)), none] S) Q ↔ Q (.lst ((p.map numS).map .str)) S := fun {S Q} => by
    rw [Ok_map1 (xs := p.map .int) (fun x => .str (numS (intOf x))) (by simp) (by simp) fun x k => by
      obtain ⟨i, mi, rfl⟩ := List.mem_map.mp k
      have := num_log (h.num i mi)
      simp [wipeE, biD, strD, this, intOf, numS]]
    have e : List.map (fun x => D.str (numS (intOf x))) (p.map .int) = (p.map numS).map .str := by
      rw [List.map_map, List.map_map]; rfl
    rw [e]
    simp only [zl, true_and]
    rfl
  have hj : ∀ {S : Store} {Q : D → Store → Prop}, Ok (mtD .join false (.str (Str.ofString " ")) [.lst ((p.map numS).map .str)] S) Q ↔ Q (.str (rowT p)) S := fun {S Q} => Ok_join (k := 61) (fun x m => by
    obtain ⟨i, mi, rfl⟩ := List.mem_map.mp m
    exact num_len (h.num i mi)) (by
    have : (Str.ofString " ").length = 1 := by decide +kernel
    rw [this, List.length_map]
    have := h.len
    exact Nat.le_trans (Nat.mul_le_mul_right 62 this) (by decide))
  simp [-List.map_map, b_text_of_row, esOf, ssOf, L.g_BLANK, mtTy, key, hj]
def headT (m : Int) : Str := Str.ofString "goods" ++ Str.ofString " " ++ numS m
def lineT (p : List Int) : Str := Str.ofString "pack" ++ Str.ofString " " ++ rowT p
def linesT (m : Int) (ps : List (List Int)) : List Str := headT m :: ps.map lineT
def listT (m : Int) (ps : List (List Int)) : Str := PySem.Txt.join (Str.ofString "") ((linesT m ps).map (· ++ Str.ofString "\n"))
def stD (m : Int) (ps : List (List Int)) : D := .tup [.int m, .tup (ps.map pD)]
structure ListOk (m : Int) (ps : List (List Int)) : Prop where
  num : m.natAbs < 10 ^ 60
  len : ps.length ≤ 16
  row : ∀ p ∈ ps, RowOk p
theorem len_app (s t : Str) : (s ++ t).length = s.length + t.length := by rw [sg_len, sg_app, List.length_append, ← sg_len, ← sg_len]
theorem len_goods : (Str.ofString "goods").length = 5 := by decide +kernel
theorem len_pack : (Str.ofString "pack").length = 4 := by decide +kernel
theorem len_b : (Str.ofString " ").length = 1 := by decide +kernel
theorem len_n : (Str.ofString "\n").length = 1 := by decide +kernel
theorem len_e : (Str.ofString "").length = 0 := by decide +kernel
theorem lines_len {m : Int} {ps : List (List Int)} (h : ListOk m ps) : ∀ x ∈ linesT m ps, x.length ≤ 1000 := fun x k => by
  rcases List.mem_cons.mp k with rfl | k
  · have := num_len h.num
    rw [headT, len_app, len_app, len_goods, len_b]; omega
  · obtain ⟨p, mp, rfl⟩ := List.mem_map.mp k
    have := rowT_len (h.row p mp)
    rw [lineT, len_app, len_app, len_pack, len_b]; omega
theorem bi_str {m : Bool} {i : Int} (h : i.natAbs < 10 ^ 60) : biD .str m [.int i] S = .ok (.str (numS i)) S := by
  simp [biD, strD, num_log h, numS]
theorem ok_text_of_list (L : LibW T G) {m : Int} {ps : List (List Int)} (h : ListOk m ps) : callF T G W (n + 2) "text_of_list" [stD m ps] S = .ok (.str (listT m ps)) S := by
  apply eq_of_ok
  rw [Ok_callF L.t_text_of_list rfl]
  have hj : ∀ {S1 : Store} {Q : D → Store → Prop}, Ok (mtD .join false (.str (Str.ofString "")) [.lst (((linesT m ps).map (· ++ Str.ofString "\n")).map .str)] S1) Q ↔ Q (.str (listT m ps)) S1 := fun {S1 Q} => Ok_join (k := 1001) (fun x k => by
    obtain ⟨s, ms, rfl⟩ := List.mem_map.mp k
    have := lines_len h s ms
    rw [len_app, len_n]; omega) (by
    rw [len_e, List.length_map, linesT, List.length_cons, List.length_map]
    have := h.len
    exact Nat.le_trans (Nat.mul_le_mul_right 1001 (Nat.succ_le_succ this)) (by decide))
  have n2 : (numS m).length ≤ 61 := num_len h.num
  have z1 : 6 + (numS m).length ≤ 16777216 := by omega
  simp [sz, -List.map_map, b_text_of_list, esOf, ssOf, L.g_GOODS_WORD, L.g_BLANK, L.g_MANY, L.g_PACKS, stD, atI_0, atI_1, bi_str h.num, len_app, len_goods, len_b, z1, Ok_for, mtTy]
  refine Ok_for_inv (fun i ρ S1 => ∃ o, ρ = [some (stD m ps), some (.ref S.length), o, none] ∧ S1 = S ++ [.lst ((headT m :: (ps.take i).map lineT).map .str)]) ⟨none, rfl, by simp [headT]⟩ (fun _ _ _ _ _ => trivial) ?_ ?_
  · rintro i x e ρ S1 ⟨o, rfl, rfl⟩
    rw [List.getElem?_map] at e
    obtain ⟨p, ep, rfl⟩ := Option.map_eq_some_iff.mp e
    have mp := List.mem_of_getElem? ep
    have hi := (List.getElem?_eq_some_iff.mp ep).1
    have r := h.row p mp
    have rl := rowT_len r
    have z3 : 5 + (rowT p).length ≤ 16777216 := by omega
    have z4 : min i ps.length + 1 < 16777216 := by
      have := h.len
      omega
    have et : ps.take (i + 1) = ps.take i ++ [p] := by rw [List.take_succ, ep]; rfl
    simp [sz, -List.map_map, pD, mtTy, lstAt, L.g_PACK_WORD, L.g_BLANK, len_app, len_pack, len_b, ok_text_of_row L.toLibW0 r, z3, mtD, appendD, z4, et, lineT]
  · rintro ρ S1 ⟨o, rfl, rfl⟩
    rw [List.length_map, List.take_length]
    have zl : ((linesT m ps).map D.str).length ≤ sizeLine := by
      rw [List.length_map, linesT, List.length_cons, List.length_map]
      exact Nat.le_trans (Nat.succ_le_succ h.len) (by decide)
    have key : ∀ {Q : D → Store → Prop}, Ok (evE (callF T G W (n + 1)) G (.comp false [3] (.bin .add (.var 3) (.glob "END")) (.var 3) (.val (.var 1)) .nil) [some (stD m ps), some (.ref S.length), o, none] (S ++ [.lst ((linesT m ps).map .str)])) Q ↔ Q (.lst (((linesT m ps).map (· ++ Str.ofString "\n")).map .str)) (S ++ [.lst ((linesT m ps).map .str)]) := fun {Q} => by
      rw [Ok_mapG (xs := (linesT m ps).map .str) (g := some (S.length, (linesT m ps).map .str)) (fun x => match x with
        | .str s => .str (s ++ Str.ofString "\n")
        | d => d) (by simp [srcVal]) (by simp) (by simp) fun x k => by
          obtain ⟨s, ms, rfl⟩ := List.mem_map.mp k
          have := lines_len h s ms
          have z5 : s.length + 1 ≤ 16777216 := by omega
          simp [sz, wipeE, L.g_END, len_n, z5]]
      simp only [zl, true_and, List.map_map]
      rfl
    have hl : headT m :: ps.map lineT = linesT m ps := rfl
    rw [hl, after_nx]
    simp [-List.map_map, key, hj, mtTy]
    rw [gc_app (by simp [D.bnd])]
    simp
end
end Pyx.Ty
end
section
/-! Reading: what the shared defs give. -/
namespace Pyx.Ty
open PySem (Str sizeLine)
open TL
theorem spl_len (s : Nat) (S : List Nat) : ∀ (l : List Nat) (k : Nat) (acc : List Nat) (p : List Nat), p ∈ spl (s :: S) k acc l → p.length ≤ acc.length + l.length
  | [], k, acc, p, h => by
    rw [spl_nil] at h
    rw [List.mem_singleton.mp h]; simp
  | c :: r, 0, acc, p, h => by
    cases e : pre (s :: S) (c :: r) with
    | true =>
      rw [spl_hit e] at h
      rcases List.mem_cons.mp h with rfl | h
      · simp
      · have := spl_len s S r _ _ p h
        simp at this ⊢; omega
    | false =>
      rw [spl_miss e] at h
      have := spl_len s S r _ _ p h
      simp at this ⊢; omega
  | c :: r, k + 1, acc, p, h => by
    have := spl_len s S r k acc p h
    simp at this ⊢; omega
theorem spl_ne (s : Nat) (S : List Nat) : ∀ (l : List Nat) (k : Nat) (acc : List Nat), spl (s :: S) k acc l ≠ []
  | [], k, acc => by rw [spl_nil]; simp
  | c :: r, 0, acc => by
    cases e : pre (s :: S) (c :: r) with
    | true => rw [spl_hit e]; simp
    | false => rw [spl_miss e]; exact spl_ne s S r _ _
  | c :: r, k + 1, acc => spl_ne s S r k acc
theorem spl_num (s : Nat) (S : List Nat) : ∀ (l : List Nat) (k : Nat) (acc : List Nat), (spl (s :: S) k acc l).length ≤ l.length + 1
  | [], k, acc => by rw [spl_nil]; simp
  | c :: r, 0, acc => by
    cases e : pre (s :: S) (c :: r) with
    | true => rw [spl_hit e]; have := spl_num s S r ((s :: S).length - 1) []; simp at this ⊢; omega
    | false => rw [spl_miss e]; have := spl_num s S r 0 (acc ++ [c]); simp at this ⊢; omega
  | c :: r, k + 1, acc => by have := spl_num s S r k acc; simp at this ⊢; exact Nat.le_succ_of_le this
/-- a text cut at a plain sign -/
theorem split_sg (x y : Str) {s : Nat} {S : List Nat} (e : sg y = s :: S) (hk : y.cps.all (· < 256) = true) : (PySem.Txt.split x y).map sg = spl (s :: S) 0 [] (sg x) := by
  have := split_spl x y (by rw [← sg_tl, e]; simp) (kind_ok hk)
  rw [← sg_tl y, e] at this
  exact this
theorem split_len (x y : Str) {s : Nat} {S : List Nat} (e : sg y = s :: S) (hk : y.cps.all (· < 256) = true) : ∀ w ∈ PySem.Txt.split x y, w.length ≤ x.length := fun w m => by
  have h : sg w ∈ (PySem.Txt.split x y).map sg := List.mem_map.mpr ⟨w, m, rfl⟩
  rw [split_sg x y e hk] at h
  have := spl_len s S _ _ _ _ h
  rw [sg_len, sg_len x]
  simpa using this
theorem split_ne (x y : Str) {s : Nat} {S : List Nat} (e : sg y = s :: S) (hk : y.cps.all (· < 256) = true) : PySem.Txt.split x y ≠ [] := fun q => by
  have h := split_sg x y e hk
  rw [q] at h
  exact spl_ne s S _ _ _ h.symm
theorem split_num (x y : Str) {s : Nat} {S : List Nat} (e : sg y = s :: S) (hk : y.cps.all (· < 256) = true) : (PySem.Txt.split x y).length ≤ x.length + 1 := by
  have h := congrArg List.length (split_sg x y e hk)
  rw [List.length_map] at h
  rw [h, sg_len]
  exact spl_num s S _ _ _
theorem plain_b : (Str.ofString " ").cps.all (· < 256) = true := by decide +kernel
theorem plain_n : (Str.ofString "\n").cps.all (· < 256) = true := by decide +kernel
section
variable {T : Str → Option Df} {G : Str → Option D} {W n : Nat} {S : Store}
/-- a cut at a plain sign, by the machine -/
theorem Ok_split {Q : D → Store → Prop} {x y : Str} {s : Nat} {S0 : List Nat} (e : sg y = s :: S0) (hk : y.cps.all (· < 256) = true) (z : x.length ≤ 1000000) : Ok (mtD .split false (.str x) [.str y] S) Q ↔ Q (.lst ((PySem.Txt.split x y).map .str)) S := by
  have h1 : (y.length == 0) = false := by rw [sg_len, e]; simp
  have h2 : x.length + 2 ≤ sizeLine := by rw [sz]; omega
  have h3 : ((PySem.Txt.split x y).all fun z => decide (z.length ≤ sizeLine)) = true := by
    rw [List.all_eq_true]
    intro w m
    have := split_len x y e hk w m
    rw [sz, decide_eq_true_eq]; omega
  have h4 : ((PySem.Txt.split x y).map D.str).length ≤ sizeLine := by
    rw [List.length_map, sz]
    have := split_num x y e hk
    omega
  simp only [mtD, splitD, h1, h2, h3, and_self, if_true, Ok_mkL, h4, true_and]
  simp
def readN (ws : List Str) : Option (List Int) := if ws.all (fun w => numB (sg w)) then some (ws.map fun w => numV (sg w)) else none
def resL (o : Option (List Int)) : D := .lst (o.toList.map pD)
def strOf : D → Str
  | .str s => s
  | _ => Str.ofString ""
theorem ok_read_numbers (L : LibR T G) {ws : List Str} (hl : ∀ w ∈ ws, w.length ≤ 640) (hz : ws.length ≤ 1000000) : callF T G W (n + 3) "read_numbers" [.lst (ws.map .str)] S = .ok (resL (readN ws)) S := by
  apply eq_of_ok
  rw [Ok_callF L.t_read_numbers rfl]
  have zl : (ws.map D.str).length ≤ sizeLine := by rw [List.length_map, sz]; omega
  have key : ∀ {S : Store} {Q : D → Store → Prop}, Ok (evE (callF T G W (n + 2)) G (.comp false [1] (.call "is_number_text" (.cons (.var 1) .nil)) (.var 1) (.val (.var 0)) .nil) [some (.lst (ws.map .str)), none] S) Q ↔ Q (.lst (ws.map fun w => .bl (numB (sg w)))) S := fun {S Q} => by
    rw [Ok_map1 (xs := ws.map .str) (fun x => .bl (numB (sg (strOf x)))) (by simp) (by simp) fun x k => by
      obtain ⟨w, m, rfl⟩ := List.mem_map.mp k
      have : w.length ≤ sizeLine := by have := hl w m; rw [sz]; omega
      simp [wipeE, ok_is_number_text L this, strOf]]
    simp only [zl, true_and, if_neg Bool.false_ne_true, List.map_map]
    rfl
  cases ha : ws.all (fun w => numB (sg w)) with
  | false => simp [b_read_numbers, esOf, ssOf, key, readN, ha, resL, bi_all (p := fun w => numB (sg w))]
  | true =>
    have key2 : ∀ {S : Store} {Q : D → Store → Prop}, Ok (evE (callF T G W (n + 2)) G (.comp false [1] (.bi .int false (.cons (.var 1) .nil)) (.var 1) (.val (.var 0)) .nil) [some (.lst (ws.map .str)), none] S) Q ↔ Q (.lst (ws.map fun w => .int (numV (sg w)))) S := fun {S Q} => by
      rw [Ok_map1 (xs := ws.map .str) (fun x => .int (numV (sg (strOf x)))) (by simp) (by simp) fun x k => by
        obtain ⟨w, m, rfl⟩ := List.mem_map.mp k
        have := sg_int (List.all_eq_true.mp ha w m) (hl w m)
        simp [wipeE, biD, this, strOf]]
      simp only [zl, true_and, if_neg Bool.false_ne_true, List.map_map]
      rfl
    simp [sz, b_read_numbers, esOf, ssOf, key, key2, readN, ha, resL, bi_all (p := fun w => numB (sg w)), pD]
def readLine (line word : Str) : Option (List Int) := match PySem.Txt.split line (Str.ofString " ") with
  | w :: ws => if w = word then readN ws else none
  | [] => none
theorem cut_drop1 {α : Type} (a : α) (l : List α) : cut (a :: l) (some 1) none = l := cut_from (a :: l) 1
theorem ok_read_line (L : LibR T G) {line word : Str} (hl : line.length ≤ 640) : callF T G W (n + 4) "read_line" [.str line, .str word] S = .ok (resL (readLine line word)) S := by
  apply eq_of_ok
  rw [Ok_callF L.t_read_line rfl]
  have ne := split_ne line (Str.ofString " ") sg_b plain_b
  have ln := split_len line (Str.ofString " ") sg_b plain_b
  have nm := split_num line (Str.ofString " ") sg_b plain_b
  have hs : ∀ {S : Store} {Q : D → Store → Prop}, Ok (mtD .split false (.str line) [.str (Str.ofString " ")] S) Q ↔ Q (.lst ((PySem.Txt.split line (Str.ofString " ")).map .str)) S := fun {S Q} => Ok_split sg_b plain_b (by omega)
  unfold readLine
  cases e : PySem.Txt.split line (Str.ofString " ") with
  | nil => exact absurd e ne
  | cons w ws =>
    rw [e] at ln nm hs
    have sl : ∀ (S : Store), slD false (.lst (.str w :: ws.map .str)) (some 1) none S = .ok (.lst (ws.map .str)) S := fun S => by
      simp only [slD, asQ, cut_drop1, mkL]
      rw [if_pos (by rw [List.length_map, sz]; simp at nm; omega)]; rfl
    have rn : ∀ (S : Store), callF T G W (n + 3) "read_numbers" [.lst (ws.map .str)] S = .ok (resL (readN ws)) S := fun S => ok_read_numbers L (fun x m => Nat.le_trans (ln x (List.mem_cons_of_mem _ m)) hl) (by simp at nm; omega)
    by_cases c : w = word
    · simp [sz, b_read_line, esOf, ssOf, L.g_BLANK, mtTy, hs, atI_0, c, asI, sl, rn]
      rw [c] at sl
      simp [sl, rn]
    · simp [sz, b_read_line, esOf, ssOf, L.g_BLANK, mtTy, hs, atI_0, c, resL]
end
end Pyx.Ty
end
section
namespace Pyx.Ty
open PySem (Str sizeLine)
open TL
/-! ### plain values in comparisons -/
theorem flat_stD (k : Nat) (m : Int) (ps : List (List Int)) : flatI (k + 3) (stD m ps) = true := by simp [stD, flatI, flatIs, flat_pDs]
theorem eqD_resL {S : Store} (o : Option (List Int)) : eqD S (resL o) (.lst []) = some o.isNone := by
  cases o with
  | none => exact eqD_lst (k := 0) (by simp [flatIs]) (by simp [flatIs]) (by decide)
  | some p =>
    rw [resL, eqD_lst (k := 1) (flat_pDs 0 _) (by simp [flatIs]) (by decide)]
    simp [D.eqs]
section
variable {T : Str → Option Df} {G : Str → Option D} {W n : Nat} {S : Store}
def readLs (lines : List Str) : Option (Int × List (List Int)) := match lines with
  | l0 :: ls => match readLine l0 (Str.ofString "goods") with
    | some [m] => (ls.mapM fun l => readLine l (Str.ofString "pack")).map fun ps => (m, ps)
    | _ => none
  | [] => none
def resS (o : Option (Int × List (List Int))) : D := .lst (o.toList.map fun q => stD q.1 q.2)
theorem mapM_lenY {α β : Type} {f : α → Option β} : ∀ {l : List α} {us : List β}, l.mapM f = some us → us.length = l.length
  | [], us, h => by cases h; rfl
  | a :: l, us, h => by
    rw [List.mapM_cons] at h
    obtain ⟨d, e1, h⟩ := Option.bind_eq_some_iff.mp h
    obtain ⟨us', e2, h⟩ := Option.bind_eq_some_iff.mp h
    cases h
    rw [List.length_cons, List.length_cons, mapM_lenY e2]
theorem mapM_none {α β : Type} {f : α → Option β} : ∀ {l : List α} {i : Nat} {a : α}, l[i]? = some a → f a = none → l.mapM f = none
  | [], i, a, h, _ => by simp at h
  | b :: l, 0, a, h, e => by
    simp at h; subst h
    rw [List.mapM_cons, e]; rfl
  | b :: l, i + 1, a, h, e => by
    rw [List.getElem?_cons_succ] at h
    rw [List.mapM_cons, mapM_none h e]
    cases f b <;> rfl
theorem mapM_snoc {α β : Type} {f : α → Option β} {l : List α} {i : Nat} {a : α} {bs : List β} {b : β} (h : l[i]? = some a) (e : (l.take i).mapM f = some bs) (e2 : f a = some b) : (l.take (i + 1)).mapM f = some (bs ++ [b]) := by
  rw [List.take_succ, h, Option.toList_some, List.mapM_append, e]
  simp [e2]
theorem ok_read_lines (L : LibR T G) {lines : List Str} (ne : lines ≠ []) (hl : ∀ l ∈ lines, l.length ≤ 640) (hz : lines.length ≤ 1000000) : callF T G W (n + 5) "read_lines" [.lst (lines.map .str)] S = .ok (resS (readLs lines)) S := by
  apply eq_of_ok
  rw [Ok_callF L.t_read_lines rfl]
  match lines, ne, hl, hz with
  | l0 :: ls, _, hl, hz =>
    have rl : ∀ (S : Store) (w : Str), callF T G W (n + 4) "read_line" [.str l0, .str w] S = .ok (resL (readLine l0 w)) S := fun S w => ok_read_line L (hl l0 (by simp))
    have bail : gc S (.lst []) (S ++ [.lst []]) = .ok (.lst []) S := gc_app (by simp [D.bnd, D.bnds])
    cases e0 : readLine l0 (Str.ofString "goods") with
    | none =>
      have : eqD (S ++ [.lst []]) (resL none) (.lst []) = some true := eqD_resL none
      simp [sz, b_read_lines, esOf, ssOf, tgsOf, L.g_GOODS_WORD, atI_0, rl, e0, Tgs.len, this, bail, readLs, resS]
    | some q =>
      have h1 : eqD (S ++ [.lst []]) (resL (some q)) (.lst []) = some false := eqD_resL (some q)
      have h2 : resL (some q) = .lst [pD q] := rfl
      rw [h2] at h1
      match q, e0, h1, h2 with
      | [], e0, h1, h2 =>
        simp [pD] at h1
        simp [sz, b_read_lines, esOf, ssOf, tgsOf, L.g_GOODS_WORD, atI_0, rl, e0, Tgs.len, h1, h2, bail, readLs, resS, pD]
      | a :: b :: r, e0, h1, h2 =>
        have c2 : ¬ ((r.length : Int) + 1 + 1 = 1) := by omega
        simp [pD] at h1
        simp [sz, b_read_lines, esOf, ssOf, tgsOf, L.g_GOODS_WORD, atI_0, rl, e0, Tgs.len, h1, h2, bail, readLs, resS, pD, c2]
      | [m], e0, h1, h2 =>
        have sl : ∀ (S : Store), slD false (.lst (.str l0 :: ls.map .str)) (some 1) none S = .ok (.lst (ls.map .str)) S := fun S => by
          simp only [slD, asQ, cut_drop1, mkL]
          rw [if_pos (by rw [List.length_map, sz]; simp at hz; omega)]; rfl
        simp [pD] at h1
        simp [-List.map_map, sz, b_read_lines, esOf, ssOf, tgsOf, L.g_GOODS_WORD, atI_0, rl, e0, Tgs.len, h1, h2, pD, Ok_for, asI, sl]
        refine Ok_for_inv (fun i ρ S1 => ∃ ps o1 o2, (ls.take i).mapM (fun l => readLine l (Str.ofString "pack")) = some ps ∧ ρ = [some (.lst ((l0 :: ls).map .str)), some (.lst [pD [m]]), some (.ref S.length), o1, o2] ∧ S1 = S ++ [.lst (ps.map pD)]) ⟨[], none, none, rfl, rfl, rfl⟩ (fun _ _ _ _ _ => trivial) ?_ ?_
        · rintro i x e ρ S1 ⟨ps, o1, o2, hm, rfl, rfl⟩
          rw [List.getElem?_map] at e
          obtain ⟨l, el, rfl⟩ := Option.map_eq_some_iff.mp e
          have ml := List.mem_of_getElem? el
          have rl2 : ∀ (S : Store) (w : Str), callF T G W (n + 4) "read_line" [.str l, .str w] S = .ok (resL (readLine l w)) S := fun S w => ok_read_line L (hl l (List.mem_cons_of_mem _ ml))
          cases er : readLine l (Str.ofString "pack") with
          | none =>
            have h3 : ∀ S, eqD S (resL none) (.lst []) = some true := fun S => eqD_resL none
            have b3 : gc S (.lst []) (S ++ [.lst (ps.map pD)]) = .ok (.lst []) S := gc_app (by simp [D.bnd, D.bnds])
            have : ls.mapM (fun l => readLine l (Str.ofString "pack")) = none := mapM_none el er
            simp [-List.map_map, sz, L.g_PACK_WORD, rl2, er, h3, b3, readLs, e0, this, resS]
          | some p =>
            have h3 : ∀ S, eqD S (.lst [pD p]) (.lst []) = some false := fun S => eqD_resL (some p)
            have h4 : resL (some p) = .lst [pD p] := rfl
            have z4 : ps.length + 1 ≤ 16777216 := by
              have := mapM_lenY hm
              rw [List.length_take] at this
              simp at hz; omega
            have hm2 := mapM_snoc el hm er
            simp [-List.map_map, sz, L.g_PACK_WORD, rl2, er, h3, h4, mtTy, lstAt, mtD, extendD, asL, z4]
            exact ⟨ps ++ [p], hm2, by simp⟩
        · rintro ρ S1 ⟨ps, o1, o2, hm, rfl, rfl⟩
          rw [List.length_map, List.take_length] at hm
          have z4 : ps.length ≤ 16777216 := by
            have := mapM_lenY hm
            simp at hz; omega
          have bs : D.bnds S.length (ps.map pD) = true := pures_bnds _ _ (flatIs_ok 1 _ (flat_pDs 0 ps)).1
          have b4 : gc S (.lst [.tup [.int m, .tup (ps.map pD)]]) (S ++ [.lst (ps.map pD)]) = .ok (.lst [.tup [.int m, .tup (ps.map pD)]]) S := gc_app (by simp [D.bnd, D.bnds, bs])
          simp [-List.map_map, sz, atI_0, pD, biD, tupD, asQ]
          rw [b4]
          simp [readLs, e0, hm, resS, stD]
def inB (m : Int) (ps : List (List Int)) : Bool := isLs (stD m ps)
def lastN (l : List Nat) : Bool := decide (l.getLast? = some 10)
def readW (text : Str) : Option (Int × List (List Int)) :=
  if lastN (sg text) then (readLs (PySem.Txt.split (L2.cutS text none (some (-1))) (Str.ofString "\n"))).filter fun q => inB q.1 q.2 else none
theorem ends_n (text : Str) : PySem.Txt.endswith text (Str.ofString "\n") = lastN (sg text) := by
  rw [sg_ends _ _ (by rw [sg_n]; simp), sg_n]
  unfold lastN
  cases e : sg text with
  | nil => simp
  | cons c l =>
    rw [← e]
    have h1 : 1 ≤ (sg text).length := by rw [e]; simp
    have h2 : (sg text).drop ((sg text).length - 1) = [(sg text)[(sg text).length - 1]'(by omega)] := by
      rw [List.drop_eq_getElem_cons (by omega)]
      congr 1
      rw [List.drop_eq_nil_iff]; omega
    rw [List.length_singleton, h2, List.getLast?_eq_getElem?, List.getElem?_eq_getElem (by omega)]
    simp [pre, h1]
    rw [Bool.eq_iff_iff]; simp
theorem readLine_len {l w : Str} {p : List Int} (h : readLine l w = some p) : p.length ≤ l.length := by
  unfold readLine at h
  have nm := split_num l (Str.ofString " ") sg_b plain_b
  split at h
  · rename_i w0 ws e
    rw [e] at nm
    split at h
    · unfold readN at h
      split at h
      · cases h
        rw [List.length_map]
        simp at nm; omega
      · cases h
    · cases h
  · cases h
theorem mapM_mem {α β : Type} {f : α → Option β} : ∀ {l : List α} {us : List β}, l.mapM f = some us → ∀ u ∈ us, ∃ a ∈ l, f a = some u
  | [], us, h, u, m => by cases h; cases m
  | a :: l, us, h, u, m => by
    rw [List.mapM_cons] at h
    obtain ⟨d, e1, h⟩ := Option.bind_eq_some_iff.mp h
    obtain ⟨us', e2, h⟩ := Option.bind_eq_some_iff.mp h
    cases h
    rcases List.mem_cons.mp m with rfl | m
    · exact ⟨a, by simp, e1⟩
    · obtain ⟨b, mb, e⟩ := mapM_mem e2 u m
      exact ⟨b, List.mem_cons_of_mem _ mb, e⟩
theorem readLs_len {lines : List Str} {q : Int × List (List Int)} (hw : ∀ l ∈ lines, l.length ≤ 640) (h : readLs lines = some q) : ∀ p ∈ q.2, p.length ≤ 640 := fun p mp => by
  unfold readLs at h
  split at h
  · split at h
    · obtain ⟨ps, e, rfl⟩ := Option.map_eq_some_iff.mp h
      obtain ⟨l, ml, el⟩ := mapM_mem e p mp
      have := hw l (List.mem_cons_of_mem _ ml)
      have := readLine_len el
      omega
    · cases h
  · cases h
theorem ok_list_with_text (L : LibR T G) (V : LibV T G) {text : Str} (hl : text.length ≤ 999999) (hw : ∀ l ∈ PySem.Txt.split (L2.cutS text none (some (-1))) (Str.ofString "\n"), l.length ≤ 640) : callF T G W (n + 6) "list_with_text" [.str text] S = .ok (resS (readW text)) S := by
  apply eq_of_ok
  rw [Ok_callF L.t_list_with_text rfl]
  have en := ends_n text
  cases e : lastN (sg text) with
  | false =>
    rw [e] at en
    simp [sz, b_list_with_text, esOf, ssOf, L.g_END, mtTy, mtD, endsD, en, readW, e, resS]
  | true =>
    rw [e] at en
    have ct : (L2.cutS text none (some (-1))).length ≤ 999999 := Nat.le_trans (L2.cutS_length _ _ _) hl
    have hs : ∀ (S : Store), slD false (.str text) none (some (-1)) S = .ok (.str (L2.cutS text none (some (-1)))) S := fun S => rfl
    have sp : ∀ {S : Store} {Q : D → Store → Prop}, Ok (mtD .split false (.str (L2.cutS text none (some (-1)))) [.str (Str.ofString "\n")] S) Q ↔ Q (.lst ((PySem.Txt.split (L2.cutS text none (some (-1))) (Str.ofString "\n")).map .str)) S := fun {S Q} => Ok_split sg_n plain_n (by omega)
    have rl : ∀ (S : Store), callF T G W (n + 5) "read_lines" [.lst ((PySem.Txt.split (L2.cutS text none (some (-1))) (Str.ofString "\n")).map .str)] S = .ok (resS (readLs (PySem.Txt.split (L2.cutS text none (some (-1))) (Str.ofString "\n")))) S := fun S =>
      ok_read_lines L (split_ne _ _ sg_n plain_n) hw (Nat.le_trans (split_num _ _ sg_n plain_n) (by omega))
    generalize hr : readLs (PySem.Txt.split (L2.cutS text none (some (-1))) (Str.ofString "\n")) = r at rl
    have key : ∀ {S : Store} {Q : D → Store → Prop}, Ok (evE (callF T G W (n + 5)) G (.comp false [1] (.var 1) (.var 1) (.val (.call "read_lines" (.cons (.mt .split false (.sl false (.var 0) .none (.some (.neg (.con (.int 1))))) (.cons (.glob "END") .nil)) .nil))) (.cons (.call "is_list_by" (.cons (.var 1) .nil)) .nil)) [some (.str text), none] S) Q ↔ Q (resS (r.filter fun q => inB q.1 q.2)) S := fun {S Q} => by
      rw [Ok_filter1 (xs := r.toList.map fun q => stD q.1 q.2) isLs (by
        simp [asI, hs, mtTy, L.g_END, sp, rl, resS]) (by simp) fun x k => by
          obtain ⟨q, mq, rfl⟩ := List.mem_map.mp k
          have hp : (stD q.1 q.2).pure = true := (flatI_ok 3 _ (flat_stD 0 _ _)).1
          have hz : ∀ a ps, stD q.1 q.2 = .tup [a, .tup ps] → ∀ p ∈ ps, ∀ ds, p = .tup ds → ds.length ≤ sizeLine := by
            intro a ps e p mp ds ed
            simp only [stD, D.tup.injEq, List.cons.injEq, and_true] at e
            rw [← e.2] at mp
            obtain ⟨z, mz, rfl⟩ := List.mem_map.mp mp
            simp only [pD, D.tup.injEq] at ed
            rw [← ed, List.length_map, sz]
            cases r with
            | none => cases mq
            | some q' =>
              have : q = q' := by simpa using mq
              subst this
              have := readLs_len hw hr z mz
              omega
          simp [wipeE, eq_of_ok ((ok_is_list_by V hp hz (n := n)).mpr ⟨rfl, rfl⟩)]]
      cases r with
      | none => simp [resS, sz]
      | some q =>
        cases hb : isLs (stD q.1 q.2) <;> simp [resS, sz, hb, inB, Option.filter]
    simp [sz, b_list_with_text, esOf, ssOf, L.g_END, mtTy, mtD, endsD, en, key, readW, e, hr]
end
end Pyx.Ty
end
section
/-! The laws' own defs that several laws share: texts (printed by gen.py lib) and what they give. -/
namespace Pyx.Ty
open PySem (Str sizeLine)
open Pyx TL
/-! ### drawing -/
section
variable {T : Str → Option Df} {G : Str → Option D} {W n : Nat} {S : Store}
/-- one of some -/
theorem ok_pick (Dr : DrawOk T G W "_law_draw") (L : LibL T G) {l : Nat} {d : D} {ds : List D} (h : Pool S l) (it : Items S l d ds) (h0 : ds ≠ []) (h1 : ds.length < 1073741824) :
    Ok (callF T G W (n + 2) "_law_pick" [.ref l, d] S) fun e S1 => e ∈ ds ∧ Mv S l S1 := by
  rw [Ok_callF L.t_l_pick rfl]
  have hp : 0 < ds.length := List.length_pos_iff.mpr h0
  simp [b_l_pick, esOf, ssOf, it.len]
  refine (Dr n S l ds.length h (by omega) (by omega)).mono fun e S1 ⟨r, e1, r0, r1, mv⟩ => ?_
  subst e1
  obtain ⟨a, ea, ma⟩ := atI_nat r0 r1
  rw [(it.mv mv).ix]
  refine ⟨a, ea, ?_⟩
  rw [gc_mv mv]
  exact ⟨ma, mv⟩
theorem ok_number (Dr : DrawOk T G W "_law_draw") (L : LibL T G) (N : LibN T G) {l : Nat} {way : Int} (h : Pool S l) :
    Ok (callF T G W (n + 3) "_law_number" [.ref l, .int way] S) fun e S1 => ∃ i : Int, e = .int i ∧ -9999 ≤ i ∧ i ≤ 9999 ∧ Mv S l S1 := by
  rw [Ok_callF N.t_l_number rfl]
  by_cases w0 : way = 0
  · simp [b_l_number, esOf, ssOf, w0]
    refine (Dr (n + 1) S l 7 h (by decide) (by decide)).mono fun e S1 ⟨r, e1, r0, r1, mv⟩ => ?_
    subst e1
    simp [gc_mv mv]
    exact ⟨by omega, by omega, mv⟩
  · by_cases w1 : way = 1
    · simp [b_l_number, esOf, ssOf, w1]
      refine (Dr (n + 1) S l 41 h (by decide) (by decide)).mono fun e S1 ⟨r, e1, r0, r1, mv⟩ => ?_
      subst e1
      simp [gc_mv mv]
      exact ⟨by omega, by omega, mv⟩
    · simp [b_l_number, esOf, ssOf, w0, w1]
      refine (Dr (n + 1) S l 19999 h (by decide) (by decide)).mono fun e S1 ⟨r, e1, r0, r1, mv⟩ => ?_
      subst e1
      simp [sz]
      refine (ok_pick Dr L (n := n) (mv.pool h) (.lst _) (by simp) (by simp)).mono fun e S2 ⟨me, mv2⟩ => ?_
      have mv3 := mv.trans mv2
      rw [gc_mv mv3]
      simp only [List.mem_cons, List.not_mem_nil, or_false] at me
      rcases me with rfl | rfl | rfl | rfl | rfl
      · exact ⟨_, rfl, by omega, by omega, mv3⟩
      · exact ⟨_, rfl, by omega, by omega, mv3⟩
      · exact ⟨_, rfl, by omega, by omega, mv3⟩
      · exact ⟨_, rfl, by omega, by omega, mv3⟩
      · exact ⟨_, rfl, by omega, by omega, mv3⟩
/-- the numbers of a drawn row -/
def Bd (p : List Int) : Prop := ∀ x ∈ p, -9999 ≤ x ∧ x ≤ 9999
theorem ok_row (Dr : DrawOk T G W "_law_draw") (L : LibL T G) (N : LibN T G) {l : Nat} {way : Int} {m : Nat} (h : Pool S l) (hm : m ≤ 1000000) :
    Ok (callF T G W (n + 4) "_law_row" [.ref l, .int m, .int way] S) fun e S1 => ∃ p, e = pD p ∧ p.length = m ∧ Bd p ∧ Mv S l S1 := by
  rw [Ok_callF N.t_l_row rfl]
  simp [b_l_row, esOf, ssOf, Ok_comp, srcRng_nat hm]
  refine Ok_comp_one (fun ys S1 => ∃ p : List Int, ys = p.map .int ∧ Bd p ∧ Mv S l S1) ⟨[], rfl, by simp [Bd], Mv.refl h⟩ ?_ ?_
  · rintro x mx ys S1 ⟨p, rfl, hb, mv⟩
    simp [wipeE]
    refine (ok_number Dr L N (n := n) (mv.pool h)).mono fun e S2 ⟨i, e1, i0, i1, mv2⟩ => ?_
    subst e1
    refine ⟨p ++ [i], by simp, fun x mx => ?_, mv.trans mv2⟩
    rcases List.mem_append.mp mx with mx | mx
    · exact hb x mx
    · rw [List.mem_singleton.mp mx]; exact ⟨i0, i1⟩
  · rintro ys S1 hl ⟨p, rfl, hb, mv⟩
    rw [rangeD_len, List.length_map] at hl
    have zl : p.length ≤ 16777216 := by omega
    have g1 : gc S (.tup (p.map .int)) S1 = .ok (.tup (p.map .int)) S1 := gc_mv mv _
    simp [sz, zl, g1]
    exact ⟨p, rfl, hl, hb, mv⟩
/-- a drawn list -/
structure Drawn (m : Nat) (k : Nat) (ps : List (List Int)) : Prop where
  len : ps.length ≤ k
  row : ∀ p ∈ ps, p.length = m ∧ Bd p
theorem eqD_refpD {S : Store} {k : Nat} {ps : List (List Int)} (h : S[k]? = some (.lst (ps.map pD))) : eqD S (.ref k) (.lst []) = some (decide (ps = [])) := by
  obtain ⟨a1, a2, a3⟩ := flatIs_ok 1 _ (flat_pDs 0 ps)
  have c1 : D.depths (ps.map pD) + 1 ≤ 64 := by omega
  have := eqs_pDs ps []
  simp only [List.map_nil] at this
  simp [eqD, flatL, h, D.pure, D.pures, D.depth, D.depths, D.sok, D.soks, D.eq, a1, a3, c1, this]
theorem maxI_le : ∀ (l : List Int), l ≠ [] → ∃ j, maxI l = some j ∧ ∀ x ∈ l, x ≤ j
  | [], h => absurd rfl h
  | i :: l, _ => by
    cases e : maxI l with
    | none =>
      have : l = [] := by
        cases l with
        | nil => rfl
        | cons a l =>
          obtain ⟨j, h, _⟩ := maxI_le (a :: l) (by simp)
          rw [h] at e; cases e
      subst this
      exact ⟨i, by simp [maxI], by simp⟩
    | some j =>
      have hl : l ≠ [] := fun q => by rw [q] at e; cases e
      obtain ⟨j', h, k⟩ := maxI_le l hl
      rw [e] at h
      cases h
      refine ⟨if j > i then j else i, by simp [maxI, e], fun x m => ?_⟩
      rcases List.mem_cons.mp m with rfl | m
      · split <;> omega
      · have := k x m
        split <;> omega
def comb (m : Nat) (p q : List Int) : List Int := (List.range m).map fun k => 2 * p.getD k 0 - q.getD k 0
theorem atI_pD {p : List Int} {k : Nat} (h : k < p.length) : L2.atI (p.map D.int) (k : Int) = some (.int (p.getD k 0)) := by
  have h1 : k < (p.map D.int).length := by rw [List.length_map]; exact h
  have h2 := ixN_nat (k := p.length) (Int.natCast_nonneg k) (by omega)
  simp [L2.atI, h2, h, List.getD_eq_getElem?_getD]
theorem ok_list (Dr : DrawOk T G W "_law_draw") (L : LibL T G) (N : LibN T G) (Ls : LibLs T G) {l : Nat} {way : Int} {m k : Nat} (h : Pool S l) (hm : 1 ≤ m) (hm2 : m ≤ 1000) (hk : k ≤ 1000) :
    Ok (callF T G W (n + 5) "_law_list" [.ref l, .int m, .int k, .int way] S) fun e S1 => ∃ ps, e = stD m ps ∧ Drawn m k ps ∧ Mv S l S1 := by
  rw [Ok_callF Ls.t_l_list rfl]
  simp [b_l_list, esOf, ssOf, tgsOf, Ok_for, sz]
  refine (Dr (n + 3) _ l (k + 1) h.app (by omega) (by omega)).mono fun e S1 ⟨r, e1, r0, r1, mv⟩ => ?_
  subst e1
  obtain ⟨S0, rfl, mv0⟩ := Mv.app h mv
  have sr : srcRng [.int r] = some (rangeD 0 r.toNat) := by
    have := srcRng_nat (m := r.toNat) (by omega)
    rwa [Int.toNat_of_nonneg r0] at this
  simp [sr]
  refine Ok_for_inv (fun i ρ S1 => ∃ ps o5 o6 o7 o8 o9 o10 o11 o12 S2, ρ = [some (.ref l), some (.int m), some (.int k), some (.int way), some (.ref S.length), o5, o6, o7, o8, o9, o10, o11, o12] ∧ S1 = S2 ++ [.lst (ps.map pD)] ∧ Mv S l S2 ∧ Drawn m i ps) ⟨[], none, none, none, none, none, none, none, none, S0, rfl, rfl, mv0, by simp, by simp⟩ (fun _ _ _ _ _ => trivial) ?_ ?_
  · rintro i x ex ρ S1 ⟨ps, o5, o6, o7, o8, o9, o10, o11, o12, S2, rfl, rfl, mv2, dr⟩
    have hi : i < r.toNat := by
      have := (List.getElem?_eq_some_iff.mp ex).1
      rwa [rangeD_len] at this
    have hpl : ps.length ≤ 1000 := by have := dr.len; omega
    simp
    refine (Dr (n + 3) _ l 6 (mv2.pool h).app (by omega) (by omega)).mono fun e S3 ⟨q, e1, q0, q1, mv3⟩ => ?_
    subst e1
    obtain ⟨S4, rfl, mv4⟩ := Mv.app (mv2.pool h) mv3
    have mv5 := mv2.trans mv4
    have cell : ∀ {S5 : Store}, Mv S l S5 → (S5 ++ [Cell.lst (ps.map pD)])[S.length]? = some (.lst (ps.map pD)) := fun {S5} mv => by rw [← mv.len]; simp
    have fin : ∀ {p : List Int} {S5 : Store}, Mv S l S5 → p.length = m → Bd p → Ok (mtD .append false (.ref S.length) [pD p] (S5 ++ [.lst (ps.map pD)])) fun x S1 => ∃ x x_1, S1 = x_1 ++ [Cell.lst (List.map pD x)] ∧ Mv S l x_1 ∧ Drawn m (i + 1) x := fun {p S5} mv hl hb => by
      have z : ps.length < 16777216 := by omega
      simp [mtD, appendD, lstAt, cell mv, sz, z]
      refine ⟨ps ++ [p], S5, ?_, mv, by have := dr.len; simp; omega, fun z mz => ?_⟩
      · rw [← mv.len]; simp
      · rcases List.mem_append.mp mz with mz | mz
        · exact dr.row z mz
        · rw [List.mem_singleton.mp mz]; exact ⟨hl, hb⟩
    have mt : ∀ {S5 : Store}, Mv S l S5 → mtTy .append (.ref S.length) (S5 ++ [.lst (ps.map pD)]) = true := fun {S5} mv => by
      simp [mtTy, lstAt, cell mv]
    have ln : ∀ {S5 : Store}, Mv S l S5 → biD .len false [.ref S.length] (S5 ++ [.lst (ps.map pD)]) = .ok (.int ps.length) (S5 ++ [.lst (ps.map pD)]) := fun {S5} mv => by
      simp [biD, lenD, asQ, cell mv]
    have eq0 : ∀ {S5 : Store}, Mv S l S5 → eqD (S5 ++ [.lst (ps.map pD)]) (.ref S.length) (.lst []) = some (decide (ps = [])) := fun {S5} mv => eqD_refpD (cell mv)
    have ne : S.length ≠ l := by have := h.lt; omega
    have pick : ∀ {S5 : Store}, Mv S l S5 → ps ≠ [] → Ok (callF T G W (n + 4) "_law_pick" [.ref l, .ref S.length] (S5 ++ [.lst (ps.map pD)])) fun e S6 => ∃ p S7, e = pD p ∧ p ∈ ps ∧ S6 = S7 ++ [.lst (ps.map pD)] ∧ Mv S l S7 := fun {S5} mv hne =>
      (ok_pick Dr L (n := n + 2) (mv.pool h).app (.ref _ _ (cell mv) ne) (by simpa using hne) (by rw [List.length_map]; omega)).mono fun e S6 ⟨me, mv6⟩ => by
        obtain ⟨S7, rfl, mv7⟩ := Mv.app (mv.pool h) mv6
        obtain ⟨p, mp, rfl⟩ := List.mem_map.mp me
        exact ⟨p, S7, rfl, mp, rfl, mv.trans mv7⟩
    have row : Ok (callF T G W (n + 4) "_law_row" [.ref l, .int m, .int way] (S4 ++ [.lst (ps.map pD)])) fun d S1 => Ok (mtD .append false (.ref S.length) [d] S1) fun x S1 => ∃ x x_1, S1 = x_1 ++ [Cell.lst (List.map pD x)] ∧ Mv S l x_1 ∧ Drawn m (i + 1) x :=
      (ok_row Dr L N (n := n) (mv5.pool h).app (by omega)).mono fun e S6 ⟨p, ep, hl, hb, mv6⟩ => by
        subst ep
        obtain ⟨S7, rfl, mv7⟩ := Mv.app (mv5.pool h) mv6
        exact fin (mv5.trans mv7) hl hb
    by_cases c0 : q = 0
    · subst c0
      by_cases c1 : ps = []
      · have e1 : eqD (S4 ++ [.lst (ps.map pD)]) (.ref S.length) (.lst []) = some true := by rw [eq0 mv5, decide_eq_true c1]
        simp [e1, mt mv5]
        exact row
      · have e1 : eqD (S4 ++ [.lst (ps.map pD)]) (.ref S.length) (.lst []) = some false := by rw [eq0 mv5, decide_eq_false c1]
        simp [e1, mt mv5]
        refine (pick mv5 c1).mono fun e S6 ⟨p, S7, ep, mp, e6, mv7⟩ => ?_
        subst ep e6
        exact fin mv7 (dr.row p mp).1 (dr.row p mp).2
    · by_cases c1 : q = 1
      · subst c1
        simp [mt mv5]
        rw [Ok_map1 (xs := rangeD 0 m) (fun _ => .int 0) (by simp [srcRng_nat (m := m) (by omega)]) (by simp) fun x k => by simp]
        have e2 : (rangeD 0 m).map (fun _ => D.int 0) = (List.replicate m 0).map .int := by
          rw [List.map_replicate]
          refine List.eq_replicate_iff.mpr ⟨by simp [rangeD], fun b mb => ?_⟩
          obtain ⟨_, _, rfl⟩ := List.mem_map.mp mb
          rfl
        rw [rangeD_len, e2]
        have zm : m ≤ 16777216 := by omega
        simp only [sz, zm, true_and, if_neg Bool.false_ne_true, bi_tuple, Ok_ok]
        exact fin mv5 (by simp) fun x mx => by rw [(List.mem_replicate.mp mx).2]; decide
      · by_cases c2 : q = 2 ∧ 1 < ps.length
        · obtain ⟨rfl, c2⟩ := c2
          have c3 : (1 : Int) < ps.length := by omega
          have c4 : ps ≠ [] := fun e => by rw [e] at c2; simp at c2
          simp [ln mv5, c3]
          refine (pick mv5 c4).mono fun e S6 ⟨p, S7, ep, mp, e6, mv7⟩ => ?_
          subst ep e6
          refine (pick mv7 c4).mono fun e S6 ⟨p', S8, ep, mp', e6, mv8⟩ => ?_
          subst ep e6
          obtain ⟨l1, b1⟩ := dr.row p mp
          obtain ⟨l2, b2⟩ := dr.row p' mp'
          simp [sz, Tgs.len]
          rw [Ok_map1 (xs := rangeD 0 m) (fun x => .int (2 * p.getD (intOf x).toNat 0 - p'.getD (intOf x).toNat 0)) (by simp [srcRng_nat (m := m) (by omega)]) (by simp) fun x mx => by
            obtain ⟨j, mj, rfl⟩ := List.mem_map.mp mx
            have hj := List.mem_range.mp mj
            have a1 := atI_pD (p := p) (k := j) (by omega)
            have a2 := atI_pD (p := p') (k := j) (by omega)
            have mo : ∀ z, mulOk 2 z = true := fun z => mulOk_l (by decide)
            simp [wipeE, pD, a1, a2, mo, intOf]]
          have e2 : (rangeD 0 m).map (fun x => D.int (2 * p.getD (intOf x).toNat 0 - p'.getD (intOf x).toNat 0)) = (comb m p p').map .int := by
            simp [rangeD, comb, intOf]
          rw [rangeD_len, e2]
          have zm : m ≤ 16777216 := by omega
          simp only [sz, zm, true_and, if_neg Bool.false_ne_true, bi_tuple, Ok_ok, mt mv8]
          rw [Ok_map1 (xs := (comb m p p').map .int) (fun x => .int (if intOf x < 0 then -intOf x else intOf x)) (by simp) (by simp) fun x mx => by
            obtain ⟨j, mj, rfl⟩ := List.mem_map.mp mx
            by_cases hj : j < 0 <;> simp [wipeE, biD, absD, intOf, hj]]
          have e3 : ((comb m p p').map D.int).map (fun x => D.int (if intOf x < 0 then -intOf x else intOf x)) = ((comb m p p').map fun x => if x < 0 then -x else x).map .int := by
            rw [List.map_map, List.map_map]; rfl
          have cl : (comb m p p').length = m := by simp [comb]
          obtain ⟨j, hj, hk⟩ := maxI_le ((comb m p p').map fun x => if x < 0 then -x else x) (fun e => by
            have := congrArg List.length e
            rw [List.length_map, cl] at this
            simp at this; omega)
          rw [e3]
          have hmx : ∀ S, biD .max false [.lst (((comb m p p').map fun x => if x < 0 then -x else x).map .int)] S = .ok (.int j) S := fun S => by
            simp only [biD, maxD, intsD, asL, Option.bind_some, intsOf_map, hj, intR]
          simp only [sz, List.length_map, cl, zm, true_and, if_neg Bool.false_ne_true, hmx, Ok_ok]
          by_cases c5 : j < 10000
          · simp [c5]
            exact fin mv8 cl fun x mx => by
              have := hk _ (List.mem_map.mpr ⟨x, mx, rfl⟩)
              split at this <;> omega
          · simp [c5]
            exact fin mv8 l1 b1
        · by_cases c3 : q = 2
          · have c4 : ¬ (1 : Int) < ps.length := fun e => c2 ⟨c3, by omega⟩
            subst c3
            simp [ln mv5, c4, mt mv5]
            exact row
          · simp [c0, c1, c3, mt mv5]
            exact row
  · rintro ρ S1 ⟨ps, o5, o6, o7, o8, o9, o10, o11, o12, S2, rfl, rfl, mv2, dr⟩
    rw [rangeD_len] at dr
    have cell : (S2 ++ [Cell.lst (ps.map pD)])[S.length]? = some (.lst (ps.map pD)) := by rw [← mv2.len]; simp
    have hpl : ps.length ≤ k := by have := dr.len; omega
    have g1 : gc S (.tup [.int m, .tup (ps.map pD)]) (S2 ++ [.lst (ps.map pD)]) = .ok (.tup [.int m, .tup (ps.map pD)]) S2 := gc_mvx mv2 (pure_bnd _ _ (flatI_ok 3 _ (flat_stD 0 m ps)).1)
    simp [biD, tupD, asQ, cell, g1, sz]
    exact ⟨ps, rfl, ⟨hpl, dr.row⟩, mv2⟩
end
end Pyx.Ty
end
section
/-! The laws' own reading of texts. -/
namespace Pyx.Ty
open PySem (Str sizeLine)
open TL
section
variable {T : Str → Option Df} {G : Str → Option D} {W n : Nat} {S : Store}
theorem intD_fig {s : Str} {k : Nat} (h : sg s = numL k) (z : s.length ≤ 640) : intD (.str s) = some (k : Int) := by
  have e : numC (k : Int) = numL k := by
    unfold numC
    rw [if_neg (by omega), Int.natAbs_natCast]
  have h2 : sg s = numC (k : Int) := by rw [h, e]
  have := sg_int (s := s) (by rw [h2]; exact numB_numC _) z
  rw [h2, numV_numC] at this
  exact this
theorem ok_l_figures (F : LibF T G) {i : Int} (hi : i.natAbs < 10 ^ 60) : callF T G W (n + 1) "_law_figures" [.str (numS i)] S = .ok (.int i) S := by
  apply eq_of_ok
  rw [Ok_callF F.t_l_figures rfl]
  have hl : (numS i).length ≤ 61 := num_len hi
  have hs : ∀ (s : Str) l h (S : Store), slD false (.str s) l h S = .ok (.str (L2.cutS s l h)) S := fun _ _ _ _ => rfl
  -- what is told of the figures, for any plain text of them
  have key : ∀ (pl : Str), sg pl = numL i.natAbs → ∀ {S : Store} {Q : D → Store → Prop}, Ok (evE (callF T G W n) G (.comp false [2] (.var 2) (.var 2) (.val (.var 1)) (.cons (.cmp .notin (.var 2) (.con (.str (Str.ofString "0123456789")))) .nil)) [some (.str (numS i)), some (.str pl), none] S) Q ↔ Q (.lst []) S := fun pl hp {S Q} => by
    rw [Ok_filter1 (xs := (sg pl).map fun c => .str ⟨#[c]⟩) (fun x => !isFig (sgn x)) (by simp [srcVal_str]) (by simp) fun x k => by
      obtain ⟨c, _, rfl⟩ := List.mem_map.mp k
      have e : sgn (.str ⟨#[c]⟩) = c := rfl
      have e2 : decide (c ∈ sg (Str.ofString "0123456789")) = isFig c := fig_mem c
      simp [wipeE, inD_sign, e2, e]]
    have e3 : ((sg pl).map fun c => D.str ⟨#[c]⟩).filter (fun x => !isFig (sgn x)) = [] := by
      rw [List.filter_eq_nil_iff]
      intro x mx
      obtain ⟨c, mc, rfl⟩ := List.mem_map.mp mx
      rw [hp] at mc
      have := numL_digits _ c mc
      have e : sgn (.str ⟨#[c]⟩) = c := rfl
      simp [e, isFig]; omega
    rw [e3]
    simp [sz]
  have eq0 : ∀ S, eqD S (.lst []) (.lst []) = some true := fun S => by
    rw [eqD_lst (k := 0) (by simp [flatIs]) (by simp [flatIs]) (by decide)]
    simp [D.eqs]
  have len1 : ∀ pl : Str, sg pl = numL i.natAbs → ∀ S, lenD S (.str pl) = .ok (.int (numL i.natAbs).length) S := fun pl h S => by
    simp [lenD, sg_len, h]
  have nne := numL_ne i.natAbs
  have nf := figB_numL i.natAbs
  by_cases c : i < 0
  · have e1 : sg (numS i) = 45 :: numL i.natAbs := by
      rw [sg_numS]; unfold numC; rw [if_pos c]
    have e2 : sg (L2.cutS (numS i) none (some 1)) = [45] := by
      rw [sg_cutS, e1]; exact cut_to _ 1
    have e3 : sg (L2.cutS (numS i) (some 1) none) = numL i.natAbs := by
      rw [sg_cutS, e1]; exact cut_from _ 1
    have z3 : (L2.cutS (numS i) (some 1) none).length ≤ 640 := by
      have := L2.cutS_length (numS i) (some 1) none
      omega
    have n0 : i.natAbs ≠ 0 := by omega
    have hd := numL_head i.natAbs n0
    have id1 := intD_fig e3 z3
    have e4 : -((i.natAbs : Nat) : Int) = i := by omega
    have kk := @key _ e3
    have nm0 : ¬ (numL i.natAbs = [48]) := fun q => hd (by rw [q]; rfl)
    cases en : numL i.natAbs with
    | nil => exact absurd en nne
    | cons a r =>
      rw [en] at e1 e3 hd nm0
      have ha : ¬ a = 48 := by simpa using hd
      have l1 := len1 _ (by rw [e3, en])
      rw [en] at l1
      by_cases r0 : r = []
      · subst r0
        simp at nm0
        simp [b_l_figures, esOf, ssOf, hs, asI, sg_beq, e2, sg_m, e3, sg_e, kk, eq0, biD, l1, e1, sg_m0, ha, Ok_ix_str, atI_0, sg_1, id1, e4, nm0]
      · have r1 : ¬ ((r.length : Int) + 1 ≤ 1) := by
          have := List.length_pos_iff.mpr r0
          omega
        have r2 : (0 : Int) < r.length := by
          have := List.length_pos_iff.mpr r0
          omega
        simp [b_l_figures, esOf, ssOf, hs, asI, sg_beq, e2, sg_m, e3, sg_e, kk, eq0, biD, l1, e1, sg_m0, ha, Ok_ix_str, atI_0, sg_1, id1, e4, r0, r2]
        exact .inr ⟨by omega, by rw [sg_0]; simp [ha]⟩
  · have e1 : sg (numS i) = numL i.natAbs := by
      rw [sg_numS]; unfold numC; rw [if_neg c]
    have id1 := intD_fig e1 (by omega)
    have e4 : ((i.natAbs : Nat) : Int) = i := by omega
    rw [e4] at id1
    have kk := @key _ e1
    cases en : numL i.natAbs with
    | nil => exact absurd en nne
    | cons a r =>
      have dg := numL_digits i.natAbs a (by rw [en]; simp)
      have ha : ¬ a = 45 := by omega
      have e2 : sg (L2.cutS (numS i) none (some 1)) = [a] := by
        rw [sg_cutS, e1, en]; exact cut_to _ 1
      have l1 := len1 _ e1
      rw [en] at e1 l1
      by_cases r0 : r = []
      · subst r0
        simp [b_l_figures, esOf, ssOf, hs, asI, sg_beq, e2, sg_m, sg_e, kk, eq0, biD, l1, e1, sg_m0, ha, Ok_ix_str, atI_0, sg_1, id1]
      · have hd : ¬ a = 48 := fun q => by
          by_cases n0 : i.natAbs = 0
          · rw [n0, numL_lt (by decide)] at en
            simp at en
            exact r0 (by rw [en.2])
          · have := numL_head _ n0
            rw [en, q] at this
            exact this rfl
        have r2 : (0 : Int) < r.length := by
          have := List.length_pos_iff.mpr r0
          omega
        simp [b_l_figures, esOf, ssOf, hs, asI, sg_beq, e2, sg_m, sg_e, kk, eq0, biD, l1, e1, sg_m0, ha, Ok_ix_str, atI_0, sg_1, id1, r0, r2]
        exact .inr ⟨by omega, by rw [sg_0]; simp [hd]⟩
theorem ok_l_row_text (F : LibF T G) {p : List Int} (h : RowOk p) : callF T G W (n + 1) "_law_row_text" [.tup (p.map .int)] S = .ok (.str (rowT p)) S := by
  apply eq_of_ok
  rw [Ok_callF F.t_l_row_text rfl]
  have zl : (p.map D.int).length ≤ sizeLine := by rw [List.length_map, sz]; have := h.len; omega
  have key : ∀ {S : Store} {Q : D → Store → Prop}, Ok (evE (callF T G W n) G (.comp false [1] (.bi .str false (.cons (.var 1) .nil)) (.var 1) (.val (.var 0)) .nil) [some (.tup (p.map .int)), none] S) Q ↔ Q (.lst ((p.map numS).map .str)) S := fun {S Q} => by
    rw [Ok_map1 (xs := p.map .int) (fun x => .str (numS (intOf x))) (by simp) (by simp) fun x k => by
      obtain ⟨i, mi, rfl⟩ := List.mem_map.mp k
      simp [wipeE, bi_str (h.num i mi), intOf]]
    have e : List.map (fun x => D.str (numS (intOf x))) (p.map .int) = (p.map numS).map .str := by
      rw [List.map_map, List.map_map]; rfl
    rw [e]
    simp only [zl, true_and]
    rfl
  have hj : ∀ {S : Store} {Q : D → Store → Prop}, Ok (mtD .join false (.str (Str.ofString " ")) [.lst ((p.map numS).map .str)] S) Q ↔ Q (.str (rowT p)) S := fun {S Q} => Ok_join (k := 61) (fun x m => by
    obtain ⟨i, mi, rfl⟩ := List.mem_map.mp m
    exact num_len (h.num i mi)) (by
    rw [len_b, List.length_map, sz]
    have := h.len
    have := Nat.mul_le_mul_right 62 this
    omega)
  simp [-List.map_map, b_l_row_text, esOf, ssOf, mtTy, key, hj]
theorem headT_eq (m : Int) : headT m = Str.ofString "goods " ++ numS m := by
  have : Str.ofString "goods" ++ Str.ofString " " = Str.ofString "goods " := sg_inj (by rw [sg_app, sg_goods, sg_b, sg_goodsb]; rfl)
  rw [headT, this]
theorem lineT_eq (p : List Int) : lineT p = Str.ofString "pack " ++ rowT p := by
  have : Str.ofString "pack" ++ Str.ofString " " = Str.ofString "pack " := sg_inj (by rw [sg_app, sg_pack, sg_b, sg_packb]; rfl)
  rw [lineT, this]
theorem len_goodsb : (Str.ofString "goods ").length = 6 := by decide +kernel
theorem len_packb : (Str.ofString "pack ").length = 5 := by decide +kernel
def rowOf : D → List Int
  | .tup ds => ds.map intOf
  | _ => []
theorem rowOf_pD (p : List Int) : rowOf (pD p) = p := by
  show (p.map D.int).map intOf = p
  rw [List.map_map]
  exact List.map_id _
theorem ok_l_list_rows (F : LibF T G) (Fl : LibFl T G) {m : Int} {ps : List (List Int)} (h : ListOk m ps) : callF T G W (n + 2) "_law_list_rows" [stD m ps] S = .ok (.lst ((linesT m ps).map .str)) S := by
  apply eq_of_ok
  rw [Ok_callF Fl.t_l_list_rows rfl]
  have hn : (numS m).length ≤ 61 := num_len h.num
  have z1 : 6 + (numS m).length ≤ 16777216 := by omega
  have zl : (ps.map pD).length ≤ sizeLine := by rw [List.length_map, sz]; have := h.len; omega
  have key : ∀ {S : Store} {Q : D → Store → Prop}, Ok (evE (callF T G W (n + 1)) G (.comp false [1] (.bin .add (.con (.str (Str.ofString "pack "))) (.call "_law_row_text" (.cons (.var 1) .nil))) (.var 1) (.val (.ix (.var 0) (.con (.int 1)))) .nil) [some (stD m ps), none] S) Q ↔ Q (.lst ((ps.map lineT).map .str)) S := fun {S Q} => by
    rw [Ok_map1 (xs := ps.map pD) (fun x => .str (lineT (rowOf x))) (by simp [stD, atI_1]) (by simp) fun x k => by
      obtain ⟨p, mp, rfl⟩ := List.mem_map.mp k
      have r := h.row p mp
      have rl := rowT_len r
      have z2 : 5 + (rowT p).length ≤ 16777216 := by omega
      rw [rowOf_pD]
      unfold pD
      simp [wipeE, ok_l_row_text F r, len_packb, sz, z2, lineT_eq]]
    have e : (ps.map pD).map (fun x => D.str (lineT (rowOf x))) = (ps.map lineT).map .str := by
      rw [List.map_map, List.map_map]
      apply List.map_congr_left
      intro p _
      simp only [Function.comp_apply, rowOf_pD]
    rw [e]
    simp only [zl, true_and]
    rfl
  have z3 : 1 + ps.length ≤ 16777216 := by have := h.len; omega
  have hst : [some (stD m ps), none] = [some (stD m ps), (none : Option D)] := rfl
  unfold stD at key ⊢
  simp [-List.map_map, b_l_list_rows, esOf, ssOf, atI_0, bi_str h.num, len_goodsb, sz, z1, key, z3, linesT, headT_eq]
/-! ### told texts cut again -/
theorem rowT_split {p : List Int} (h : p ≠ []) : PySem.Txt.split (rowT p) (Str.ofString " ") = p.map numS :=
  split_join (s := 32) (S := []) sg_b plain_b (by simpa using h) fun x m => by
    obtain ⟨i, _, rfl⟩ := List.mem_map.mp m
    show 32 ∉ sg (numS i)
    rw [sg_numS]
    exact numC_free (by omega)
theorem lineT_split {p : List Int} (h : p ≠ []) : PySem.Txt.split (lineT p) (Str.ofString " ") = Str.ofString "pack" :: p.map numS := by
  have e : lineT p = PySem.Txt.join (Str.ofString " ") (Str.ofString "pack" :: p.map numS) := by
    apply sg_inj
    rw [sg_join, lineT, sg_app, sg_app, rowT, sg_join, List.map_cons]
    cases p with
    | nil => exact absurd rfl h
    | cons i p => rw [List.map_cons, List.map_cons, joinL, List.append_assoc]
  rw [e]
  refine split_join (s := 32) (S := []) sg_b plain_b (by simp) fun x m => ?_
  rcases List.mem_cons.mp m with rfl | m
  · show 32 ∉ sg (Str.ofString "pack")
    rw [sg_pack]; decide
  · obtain ⟨i, _, rfl⟩ := List.mem_map.mp m
    show 32 ∉ sg (numS i)
    rw [sg_numS]
    exact numC_free (by omega)
theorem headT_split (m : Int) : PySem.Txt.split (headT m) (Str.ofString " ") = [Str.ofString "goods", numS m] := by
  have e : headT m = PySem.Txt.join (Str.ofString " ") [Str.ofString "goods", numS m] := by
    apply sg_inj
    rw [sg_join, headT, sg_app, sg_app, List.map_cons, List.map_cons, List.map_nil, joinL, joinL, List.append_assoc]
  rw [e]
  refine split_join (s := 32) (S := []) sg_b plain_b (by simp) fun x k => ?_
  rcases List.mem_cons.mp k with rfl | k
  · show 32 ∉ sg (Str.ofString "goods")
    rw [sg_goods]; decide
  · rw [List.mem_singleton.mp k]
    show 32 ∉ sg (numS m)
    rw [sg_numS]
    exact numC_free (by omega)
theorem joinL_free {s c : Nat} : ∀ (l : List (List Nat)), s ≠ c → (∀ x ∈ l, s ∉ x) → s ∉ joinL [c] l
  | [], _, _ => by simp [joinL]
  | [x], _, h => by rw [joinL]; exact h x (by simp)
  | x :: y :: l, hc, h => by
    rw [joinL]
    intro m
    rcases List.mem_append.mp m with m | m
    · exact h x (by simp) m
    · rcases List.mem_append.mp m with m | m
      · exact hc (List.mem_singleton.mp m)
      · exact joinL_free (y :: l) hc (fun z k => h z (List.mem_cons_of_mem _ k)) m
theorem rowT_free (p : List Int) : 10 ∉ sg (rowT p) := by
  rw [rowT, sg_join, sg_b]
  refine joinL_free _ (by decide) fun x m => ?_
  obtain ⟨s, ms, rfl⟩ := List.mem_map.mp m
  obtain ⟨i, _, rfl⟩ := List.mem_map.mp ms
  rw [sg_numS]
  exact numC_free (by omega)
theorem lines_free (m : Int) (ps : List (List Int)) : ∀ x ∈ linesT m ps, 10 ∉ sg x := fun x k => by
  rcases List.mem_cons.mp k with rfl | k
  · rw [headT_eq, sg_app, sg_goodsb, sg_numS]
    intro q
    rcases List.mem_append.mp q with q | q
    · revert q; decide
    · exact numC_free (by omega) q
  · obtain ⟨p, _, rfl⟩ := List.mem_map.mp k
    rw [lineT_eq, sg_app, sg_packb]
    intro q
    rcases List.mem_append.mp q with q | q
    · revert q; decide
    · exact rowT_free p q
def ended (l : List (List Nat)) : List Nat := l.flatMap fun x => x ++ [10]
theorem joinL_ends : ∀ (l : List (List Nat)), joinL [] (l.map (· ++ [10])) = ended l
  | [] => rfl
  | [x] => by simp [joinL, ended]
  | x :: y :: l => by
    have := joinL_ends (y :: l)
    rw [List.map_cons, List.map_cons, joinL]
    rw [List.map_cons] at this
    rw [this]
    simp [ended]
theorem joinL_last : ∀ (l : List (List Nat)), joinL [10] (l ++ [[]]) = ended l
  | [] => rfl
  | [x] => by simp [joinL, ended]
  | x :: y :: l => by
    have := joinL_last (y :: l)
    rw [List.cons_append, List.cons_append, joinL]
    rw [List.cons_append] at this
    rw [this]
    simp [ended]
theorem joinL_but : ∀ (l : List (List Nat)), l ≠ [] → joinL [10] l ++ [10] = ended l
  | [], h => absurd rfl h
  | [x], _ => by simp [joinL, ended]
  | x :: y :: l, _ => by
    have := joinL_but (y :: l) (by simp)
    rw [joinL, List.append_assoc, List.append_assoc, this]
    simp [ended]
theorem sg_listT (m : Int) (ps : List (List Int)) : sg (listT m ps) = ended ((linesT m ps).map sg) := by
  rw [listT, sg_join, sg_e, List.map_map, ← joinL_ends, List.map_map]
  congr 1
  apply List.map_congr_left
  intro x _
  simp only [Function.comp_apply, sg_app, sg_n]
theorem listT_rows (m : Int) (ps : List (List Int)) : PySem.Txt.split (listT m ps) (Str.ofString "\n") = linesT m ps ++ [Str.ofString ""] := by
  have e : listT m ps = PySem.Txt.join (Str.ofString "\n") (linesT m ps ++ [Str.ofString ""]) := by
    apply sg_inj
    rw [sg_listT, sg_join, sg_n, List.map_append, List.map_singleton, sg_e, joinL_last]
  rw [e]
  refine split_join (s := 10) (S := []) sg_n plain_n (by simp [linesT]) fun x k => ?_
  rcases List.mem_append.mp k with k | k
  · exact lines_free m ps x k
  · rw [List.mem_singleton.mp k]
    show 10 ∉ sg (Str.ofString "")
    rw [sg_e]; simp
theorem listT_cut (m : Int) (ps : List (List Int)) : PySem.Txt.split (L2.cutS (listT m ps) none (some (-1))) (Str.ofString "\n") = linesT m ps := by
  have e : L2.cutS (listT m ps) none (some (-1)) = PySem.Txt.join (Str.ofString "\n") (linesT m ps) := by
    apply sg_inj
    rw [sg_cutS, cut_last, sg_listT, sg_join, sg_n, ← joinL_but _ (by simp [linesT]), List.dropLast_concat]
  rw [e]
  exact split_join (s := 10) (S := []) sg_n plain_n (by simp [linesT]) fun x k => lines_free m ps x k
theorem listT_last (m : Int) (ps : List (List Int)) : lastN (sg (listT m ps)) = true := by
  rw [sg_listT, ← joinL_but _ (by simp [linesT])]
  simp [lastN]
theorem readN_row (p : List Int) : readN (p.map numS) = some p := by
  unfold readN
  have h : (p.map numS).all (fun w => numB (sg w)) = true := by
    rw [List.all_eq_true]
    intro w m
    obtain ⟨i, _, rfl⟩ := List.mem_map.mp m
    rw [sg_numS]; exact numB_numC i
  rw [if_pos h, List.map_map]
  congr 1
  conv => rhs; rw [← List.map_id p]
  apply List.map_congr_left
  intro i _
  simp only [Function.comp_apply, sg_numS, numV_numC, id]
/-- a list that is one -/
structure Good (m : Int) (ps : List (List Int)) : Prop where
  lo : 1 ≤ m
  hi : m ≤ 6
  len : ps.length ≤ 8
  row : ∀ p ∈ ps, (p.length : Int) = m ∧ Bd p
theorem Good.ne {m : Int} {ps : List (List Int)} (h : Good m ps) : ∀ p ∈ ps, p ≠ [] := fun p mp e => by
  have := (h.row p mp).1
  have := h.lo
  subst e
  simp at *
  omega
theorem Good.ok {m : Int} {ps : List (List Int)} (h : Good m ps) : ListOk m ps := by
  have h1 := h.lo
  have h2 := h.hi
  have p60 : (10 : Nat) ^ 60 = 1000000000000000000000000000000000000000000000000000000000000 := by decide +kernel
  refine ⟨by rw [p60]; omega, by have := h.len; omega, fun p mp => ?_⟩
  obtain ⟨l, b⟩ := h.row p mp
  refine ⟨by omega, fun x mx => ?_⟩
  have := b x mx
  rw [p60]; omega
theorem Good.isL {m : Int} {ps : List (List Int)} (h : Good m ps) : isLs (stD m ps) = true := by
  have h1 := h.lo
  have h2 := h.hi
  have h3 := h.len
  have h4 : (ps.map pD).all (isPk m) = true := by
    rw [List.all_eq_true]
    intro x mx
    obtain ⟨p, mp, rfl⟩ := List.mem_map.mp mx
    obtain ⟨l, b⟩ := h.row p mp
    simp only [pD, isPk, tupAll, List.length_map, Bool.and_eq_true, beq_iff_eq, List.all_eq_true]
    refine ⟨l, fun y my => ?_⟩
    obtain ⟨i, mi, rfl⟩ := List.mem_map.mp my
    have := b i mi
    simp [arB, this]
  simp [stD, isLs, h1, h2, h3, h4]
theorem readLs_lines {m : Int} {ps : List (List Int)} (h : ∀ p ∈ ps, p ≠ []) : readLs (linesT m ps) = some (m, ps) := by
  have e0 : readLine (headT m) (Str.ofString "goods") = some [m] := by
    unfold readLine
    rw [headT_split]
    exact readN_row [m]
  have e1 : ∀ ps : List (List Int), (∀ p ∈ ps, p ≠ []) → (ps.map lineT).mapM (fun l => readLine l (Str.ofString "pack")) = some ps := by
    intro ps
    induction ps with
    | nil => intro _; rfl
    | cons p ps ih =>
      intro h
      have e2 : readLine (lineT p) (Str.ofString "pack") = some p := by
        unfold readLine
        rw [lineT_split (h p (by simp))]
        simp only [if_true]
        exact readN_row p
      rw [List.map_cons, List.mapM_cons, e2, ih fun q mq => h q (List.mem_cons_of_mem _ mq)]
      rfl
  unfold readLs linesT
  simp only [e0, e1 ps h, Option.map_some]
/-- THE READ-BACK -/
theorem readW_listT {m : Int} {ps : List (List Int)} (h : Good m ps) : readW (listT m ps) = some (m, ps) := by
  unfold readW
  rw [if_pos (listT_last m ps), listT_cut, readLs_lines h.ne]
  simp [Option.filter, inB, h.isL]
end
end Pyx.Ty
end
section
/-! Cutting at one sign, in plain lists; the two readings of a list's text are one. -/
namespace Pyx.Ty
open PySem (Str sizeLine)
open TL
/-- cut at each c -/
def cutAt (c : Nat) : List Nat → List (List Nat)
  | [] => [[]]
  | x :: l => if x = c then [] :: cutAt c l else match cutAt c l with
    | h :: t => (x :: h) :: t
    | [] => [[x]]
theorem cutAt_ne (c : Nat) : ∀ l, cutAt c l ≠ []
  | [] => by simp [cutAt]
  | x :: l => by
    unfold cutAt
    split
    · simp
    · split <;> simp
theorem cutAt_hit (c : Nat) (l : List Nat) : cutAt c (c :: l) = [] :: cutAt c l := by simp [cutAt]
theorem cutAt_miss {c x : Nat} (h : x ≠ c) {l p : List Nat} {t : List (List Nat)} (e : cutAt c l = p :: t) : cutAt c (x :: l) = (x :: p) :: t := by
  simp [cutAt, h, e]
theorem cutAt_cons (c : Nat) (l : List Nat) : ∃ p t, cutAt c l = p :: t := by
  cases e : cutAt c l with
  | nil => exact absurd e (cutAt_ne c l)
  | cons p t => exact ⟨p, t, rfl⟩
theorem spl_cut (c : Nat) : ∀ (l acc p : List Nat) (t : List (List Nat)), cutAt c l = p :: t → spl [c] 0 acc l = (acc ++ p) :: t
  | [], acc, p, t, e => by
    simp [cutAt] at e
    obtain ⟨rfl, rfl⟩ := e
    simp [spl_nil]
  | x :: l, acc, p, t, e => by
    by_cases h : x = c
    · subst h
      rw [cutAt_hit] at e
      cases e
      obtain ⟨q, u, e2⟩ := cutAt_cons x l
      rw [spl_hit (by simp [pre]), List.append_nil, e2]
      have := spl_cut x l [] q u e2
      simp at this ⊢
      exact this
    · obtain ⟨q, u, e2⟩ := cutAt_cons c l
      rw [cutAt_miss h e2] at e
      cases e
      rw [spl_miss (by simp [pre, h]), spl_cut c l _ _ _ e2]
      simp
theorem spl_cutAt (c : Nat) (l : List Nat) : spl [c] 0 [] l = cutAt c l := by
  obtain ⟨p, t, e⟩ := cutAt_cons c l
  rw [spl_cut c l [] p t e, e]; rfl
theorem cut_b (x : Str) : (PySem.Txt.split x (Str.ofString " ")).map sg = cutAt 32 (sg x) := by rw [split_sg x _ sg_b plain_b, spl_cutAt]
theorem cut_n (x : Str) : (PySem.Txt.split x (Str.ofString "\n")).map sg = cutAt 10 (sg x) := by rw [split_sg x _ sg_n plain_n, spl_cutAt]
theorem cutAt_app (c : Nat) : ∀ (a b : List Nat), cutAt c (a ++ c :: b) = cutAt c a ++ cutAt c b
  | [], b => by simp [cutAt]
  | x :: a, b => by
    have ih := cutAt_app c a b
    obtain ⟨p, t, e⟩ := cutAt_cons c a
    by_cases h : x = c
    · subst h
      rw [List.cons_append, cutAt_hit, cutAt_hit, ih]; rfl
    · rw [e] at ih
      rw [List.cons_append, cutAt_miss h ih, cutAt_miss h e]; rfl
theorem cutAt_free {c : Nat} : ∀ {l : List Nat}, c ∉ l → cutAt c l = [l]
  | [], _ => rfl
  | x :: l, h => by
    have h2 : x ≠ c := fun e => h (by rw [e]; exact List.mem_cons_self)
    rw [cutAt_miss h2 (cutAt_free fun m => h (List.mem_cons_of_mem _ m))]
theorem cutAt_mem {c : Nat} : ∀ {l p : List Nat}, p ∈ cutAt c l → (∀ x ∈ p, x ∈ l ∧ x ≠ c) ∧ p.length ≤ l.length
  | [], p, m => by
    simp [cutAt] at m
    subst m; simp
  | x :: l, p, m => by
    by_cases h : x = c
    · subst h
      rw [cutAt_hit] at m
      rcases List.mem_cons.mp m with rfl | m
      · simp
      · obtain ⟨h1, h2⟩ := cutAt_mem m
        exact ⟨fun y my => ⟨List.mem_cons_of_mem _ (h1 y my).1, (h1 y my).2⟩, by simp; omega⟩
    · obtain ⟨q, t, e⟩ := cutAt_cons c l
      rw [cutAt_miss h e] at m
      rcases List.mem_cons.mp m with rfl | m
      · obtain ⟨h1, h2⟩ := cutAt_mem (c := c) (l := l) (p := q) (by rw [e]; exact List.mem_cons_self)
        refine ⟨fun y my => ?_, by simp; omega⟩
        rcases List.mem_cons.mp my with rfl | my
        · exact ⟨List.mem_cons_self, h⟩
        · exact ⟨List.mem_cons_of_mem _ (h1 y my).1, (h1 y my).2⟩
      · obtain ⟨h1, h2⟩ := cutAt_mem (c := c) (l := l) (p := p) (by rw [e]; exact List.mem_cons_of_mem _ m)
        exact ⟨fun y my => ⟨List.mem_cons_of_mem _ (h1 y my).1, (h1 y my).2⟩, by simp; omega⟩
theorem joinL_cut (c : Nat) : ∀ l, joinL [c] (cutAt c l) = l
  | [] => rfl
  | x :: l => by
    have ih := joinL_cut c l
    obtain ⟨p, t, e⟩ := cutAt_cons c l
    by_cases h : x = c
    · subst h
      rw [cutAt_hit, e, joinL, ← e, ih]; rfl
    · rw [cutAt_miss h e]
      rw [e] at ih
      cases t with
      | nil =>
        have e1 : joinL [c] [p] = p := rfl
        rw [e1] at ih
        show x :: p = x :: l
        rw [ih]
      | cons q t =>
        have e1 : joinL [c] (p :: q :: t) = p ++ ([c] ++ joinL [c] (q :: t)) := rfl
        rw [e1] at ih
        show (x :: p) ++ ([c] ++ joinL [c] (q :: t)) = x :: l
        rw [← ih]; rfl
theorem cutAt_join (c : Nat) : ∀ (ps : List (List Nat)), ps ≠ [] → cutAt c (joinL [c] ps) = (ps.map (cutAt c)).flatten
  | [], h => absurd rfl h
  | [p], _ => by simp [joinL]
  | p :: q :: r, _ => by
    have ih := cutAt_join c (q :: r) (by simp)
    have e1 : joinL [c] (p :: q :: r) = p ++ c :: joinL [c] (q :: r) := rfl
    rw [e1, cutAt_app, ih]; rfl
theorem cutAt_len {c : Nat} {l : List Nat} : (cutAt c l).length ≤ l.length + 1 := by
  induction l with
  | nil => simp [cutAt]
  | cons x l ih =>
    by_cases h : x = c
    · subst h; rw [cutAt_hit]; simp; omega
    · obtain ⟨p, t, e⟩ := cutAt_cons c l
      rw [cutAt_miss h e]
      rw [e] at ih
      simp at ih ⊢; omega
/-- of a beginning -/
theorem cutAt_pre {c : Nat} : ∀ {a b p : List Nat}, p ∈ cutAt c a → ∃ q ∈ cutAt c (a ++ b), p.length ≤ q.length
  | [], b, p, m => by
    simp [cutAt] at m
    subst m
    obtain ⟨q, t, e⟩ := cutAt_cons c ([] ++ b)
    exact ⟨q, by rw [e]; exact List.mem_cons_self, by simp⟩
  | x :: a, b, p, m => by
    by_cases h : x = c
    · subst h
      rw [cutAt_hit] at m
      rw [List.cons_append, cutAt_hit]
      rcases List.mem_cons.mp m with rfl | m
      · exact ⟨[], List.mem_cons_self, by simp⟩
      · obtain ⟨q, mq, l⟩ := cutAt_pre (b := b) m
        exact ⟨q, List.mem_cons_of_mem _ mq, l⟩
    · obtain ⟨p0, t, e⟩ := cutAt_cons c a
      obtain ⟨q0, u, e2⟩ := cutAt_cons c (a ++ b)
      rw [cutAt_miss h e] at m
      rw [List.cons_append, cutAt_miss h e2]
      rcases List.mem_cons.mp m with rfl | m
      · have hd : p0.length ≤ q0.length := by
          have key : ∀ (a : List Nat) (p0 q0 : List Nat) (t u : List (List Nat)), cutAt c a = p0 :: t → cutAt c (a ++ b) = q0 :: u → p0.length ≤ q0.length := by
            intro a
            induction a with
            | nil => intro p0 q0 t u e e2; simp [cutAt] at e; obtain ⟨rfl, rfl⟩ := e; simp
            | cons y a ih =>
              intro p0 q0 t u e e2
              by_cases hy : y = c
              · subst hy; rw [cutAt_hit] at e; cases e; simp
              · obtain ⟨p1, t1, e3⟩ := cutAt_cons c a
                obtain ⟨q1, u1, e4⟩ := cutAt_cons c (a ++ b)
                rw [cutAt_miss hy e3] at e
                rw [List.cons_append, cutAt_miss hy e4] at e2
                cases e; cases e2
                have := ih p1 q1 _ _ e3 e4
                simp; omega
          exact key a p0 q0 t u e e2
        exact ⟨x :: q0, List.mem_cons_self, by simp; omega⟩
      · obtain ⟨q, mq, l⟩ := cutAt_pre (b := b) (show p ∈ cutAt c a by rw [e]; exact List.mem_cons_of_mem _ m)
        -- the piece may be the one that goes on
        rw [e2] at mq
        rcases List.mem_cons.mp mq with rfl | mq
        · exact ⟨x :: q, List.mem_cons_self, by simp; omega⟩
        · exact ⟨q, List.mem_cons_of_mem _ mq, l⟩
theorem cutAt_last {c : Nat} : ∀ {l : List Nat}, l ≠ [] → l.getLast? ≠ some c → (cutAt c l).getLast? ≠ some []
  | [], h, _ => absurd rfl h
  | [x], _, h => by
    have h2 : x ≠ c := by simpa using h
    simp [cutAt, h2]
  | x :: y :: l, _, h => by
    have h1 : (y :: l).getLast? ≠ some c := by rwa [List.getLast?_cons_cons] at h
    have ih := cutAt_last (l := y :: l) (by simp) h1
    obtain ⟨p, t, e⟩ := cutAt_cons c (y :: l)
    by_cases hx : x = c
    · subst hx
      rw [cutAt_hit, e, List.getLast?_cons_cons, ← e]; exact ih
    · rw [cutAt_miss hx e]
      rw [e] at ih
      cases t with
      | nil => simp
      | cons q t =>
        rw [List.getLast?_cons_cons] at ih ⊢
        exact ih
/-! ### the own reading -/
def gWord : List Nat := [103, 111, 111, 100, 115]
def pWord : List Nat := [112, 97, 99, 107]
def ownRow (r : List Nat) (m : Int) : Option (List Int) :=
  if ((cutAt 32 r).length : Int) = m ∧ (cutAt 32 r).all numB = true then some ((cutAt 32 r).map numV) else none
def small (p : List Int) : Bool := p.all fun x => decide (-9999 ≤ x) && decide (x ≤ 9999)
def ownPack (m : Int) (r : List Nat) : Option (List Int) := if r.take 5 = pWord ++ [32] then (ownRow (r.drop 5) m).filter small else none
def heads6 : List (List Nat) := [1, 2, 3, 4, 5, 6].map fun k => gWord ++ 32 :: [48 + k]
def ownRows (rows : List (List Nat)) : Option (Int × List (List Int)) :=
  match rows with
  | r0 :: rs => if 1 ≤ rs.length ∧ rs.length ≤ 9 ∧ rs.getLast? = some [] ∧ r0 ∈ heads6 then ((rs.dropLast).mapM (ownPack (numV (r0.drop 6)))).map fun ps => (numV (r0.drop 6), ps) else none
  | [] => none
def ownRead (t : List Nat) : Option (Int × List (List Int)) := ownRows (cutAt 10 t)
/-! ### the program's reading, in plain lists -/
def pLine (l word : List Nat) : Option (List Int) := match cutAt 32 l with
  | w :: ws => if w = word then (if ws.all numB = true then some (ws.map numV) else none) else none
  | [] => none
theorem readN_plain (ws : List Str) : readN ws = if (ws.map sg).all numB = true then some ((ws.map sg).map numV) else none := by
  unfold readN
  rw [List.all_map, List.map_map]
  rfl
theorem readLine_plain (line word : Str) : readLine line word = pLine (sg line) (sg word) := by
  unfold readLine pLine
  rw [← cut_b]
  cases PySem.Txt.split line (Str.ofString " ") with
  | nil => rfl
  | cons w ws =>
    simp only [List.map_cons]
    rw [readN_plain]
    by_cases h : w = word
    · subst h; simp
    · have : sg w ≠ sg word := fun e => h (sg_inj e)
      rw [if_neg h, if_neg this]
def pLines (lines : List (List Nat)) : Option (Int × List (List Int)) := match lines with
  | l0 :: ls => match pLine l0 gWord with
    | some [m] => (ls.mapM fun l => pLine l pWord).map fun ps => (m, ps)
    | _ => none
  | [] => none
theorem mapM_map' {α β γ : Type} (f : α → β) (g : β → Option γ) : ∀ l : List α, (l.map f).mapM g = l.mapM fun a => g (f a)
  | [] => rfl
  | a :: l => by rw [List.map_cons, List.mapM_cons, List.mapM_cons, mapM_map' f g l]
theorem readLs_plain (lines : List Str) : readLs lines = pLines (lines.map sg) := by
  cases lines with
  | nil => rfl
  | cons l0 ls =>
    unfold readLs pLines
    simp only [List.map_cons]
    rw [readLine_plain, sg_goods, mapM_map']
    have e : (fun l => readLine l (Str.ofString "pack")) = fun a => pLine (sg a) pWord := by
      funext l
      rw [readLine_plain, sg_pack]; rfl
    rw [e]; rfl
theorem mapM_filter {α β : Type} (f : α → Option β) (p : β → Bool) : ∀ l : List α, (l.mapM f).filter (fun bs => bs.all p) = l.mapM fun a => (f a).filter p
  | [] => by simp [Option.filter]
  | a :: l => by
    have ih := mapM_filter f p l
    rw [List.mapM_cons, List.mapM_cons]
    cases e : f a with
    | none => rfl
    | some b =>
      cases hb : p b with
      | false =>
        have : (some b).filter p = none := by simp [Option.filter, hb]
        rw [this]
        show Option.filter (fun bs => bs.all p) (Option.bind (l.mapM f) fun bs => some (b :: bs)) = none
        cases l.mapM f with
        | none => rfl
        | some bs => simp [Option.filter, hb]
      | true =>
        have : (some b).filter p = some b := by simp [Option.filter, hb]
        rw [this]
        show Option.filter (fun bs => bs.all p) (Option.bind (l.mapM f) fun bs => some (b :: bs)) = Option.bind (l.mapM fun a => (f a).filter p) fun bs => some (b :: bs)
        rw [← ih]
        cases l.mapM f with
        | none => rfl
        | some bs =>
          show Option.filter (fun bs => bs.all p) (some (b :: bs)) = Option.bind (Option.filter (fun bs => bs.all p) (some bs)) fun bs => some (b :: bs)
          cases hbs : bs.all p <;> simp [Option.filter, hb, hbs]
theorem ownRows_cons (r0 : List Nat) (rs : List (List Nat)) : ownRows (r0 :: rs) = if 1 ≤ rs.length ∧ rs.length ≤ 9 ∧ rs.getLast? = some [] ∧ r0 ∈ heads6 then ((rs.dropLast).mapM (ownPack (numV (r0.drop 6)))).map fun ps => (numV (r0.drop 6), ps) else none := rfl
theorem pLines_cons (l0 : List Nat) (ls : List (List Nat)) : pLines (l0 :: ls) = match pLine l0 gWord with
    | some [m] => (ls.mapM fun l => pLine l pWord).map fun ps => (m, ps)
    | _ => none := rfl
theorem isPk_pD (m : Int) (p : List Int) : isPk m (pD p) = (decide ((p.length : Int) = m) && small p) := by
  simp only [isPk, pD, tupAll, List.length_map, List.all_map, small]
  congr 1
theorem pLine_pack {r : List Nat} : (r.take 5 = pWord ++ [32] → pLine r pWord = if (cutAt 32 (r.drop 5)).all numB = true then some ((cutAt 32 (r.drop 5)).map numV) else none) ∧ (r.take 5 ≠ pWord ++ [32] → pLine r pWord = none ∨ pLine r pWord = some []) := by
  refine ⟨fun h => ?_, fun h => ?_⟩
  · have e : r = pWord ++ 32 :: r.drop 5 := by
      conv => lhs; rw [← List.take_append_drop 5 r, h]
      simp
    have e2 : cutAt 32 r = pWord :: cutAt 32 (r.drop 5) := by
      conv => lhs; rw [e]
      rw [cutAt_app, cutAt_free (by decide)]; rfl
    unfold pLine
    rw [e2]; simp
  · unfold pLine
    obtain ⟨w, ws, e⟩ := cutAt_cons 32 r
    rw [e]
    by_cases hw : w = pWord
    · subst hw
      cases ws with
      | nil => right; simp
      | cons w2 ws =>
        exfalso
        apply h
        have j := joinL_cut 32 r
        rw [e] at j
        rw [← j]
        rfl
    · left; simp [hw]
/-- a pack's row, by the program's look and by the own one -/
theorem pack_one {m : Int} (hm : 1 ≤ m) (r : List Nat) : ((pLine r pWord).filter fun p => isPk m (pD p)) = ownPack m r := by
  have e0 : (fun p => isPk m (pD p)) = fun p => decide ((p.length : Int) = m) && small p := by funext p; exact isPk_pD m p
  rw [e0]
  unfold ownPack
  by_cases h : r.take 5 = pWord ++ [32]
  · rw [if_pos h, pLine_pack.1 h]
    unfold ownRow
    by_cases ha : (cutAt 32 (r.drop 5)).all numB = true
    · rw [if_pos ha]
      by_cases hl : ((cutAt 32 (r.drop 5)).length : Int) = m
      · rw [if_pos ⟨hl, ha⟩]; simp [Option.filter, hl]
      · rw [if_neg fun q => hl q.1]; simp [Option.filter, hl]
    · rw [if_neg ha, if_neg fun q => ha q.2]; rfl
  · rw [if_neg h]
    rcases pLine_pack.2 h with e | e
    · rw [e]; rfl
    · rw [e]
      have : ¬ ((0 : Int) = m) := by omega
      simp [Option.filter, this]
theorem head_one {l0 : List Nat} : (∀ m : Int, pLine l0 gWord = some [m] → 1 ≤ m → m ≤ 6 → l0 ∈ heads6 ∧ numV (l0.drop 6) = m) ∧ (l0 ∈ heads6 → pLine l0 gWord = some [numV (l0.drop 6)] ∧ 1 ≤ numV (l0.drop 6) ∧ numV (l0.drop 6) ≤ 6) := by
  refine ⟨fun m h h1 h6 => ?_, fun h => ?_⟩
  · unfold pLine at h
    obtain ⟨w, ws, e⟩ := cutAt_cons 32 l0
    rw [e] at h
    simp only at h
    split at h
    · rename_i hw
      subst hw
      split at h
      · rename_i ha
        have h : ws.map numV = [m] := Option.some.inj h
        match ws, ha, h, e with
        | [v], ha, h, e =>
          have hb : numB v = true := by simpa using ha
          have hv : numV v = m := by simpa using h
          have nv := numC_of hb
          rw [hv] at nv
          have j := joinL_cut 32 l0
          rw [e] at j
          have j : gWord ++ 32 :: v = l0 := j
          have hm : m = 1 ∨ m = 2 ∨ m = 3 ∨ m = 4 ∨ m = 5 ∨ m = 6 := by omega
          have nc : v = [48 + m.toNat] := by
            rw [← nv]
            unfold numC
            rw [if_neg (by omega), numL_lt (by omega)]
            congr 1; omega
          rw [← j, nc]
          refine ⟨?_, ?_⟩
          · rcases hm with rfl | rfl | rfl | rfl | rfl | rfl <;> decide
          · rw [nc] at hv
            exact hv
        | [], _, h, _ => simp at h
        | _ :: _ :: _, _, h, _ => simp at h
      · cases h
    · cases h
  · have : ∀ l ∈ heads6, pLine l gWord = some [numV (l.drop 6)] ∧ 1 ≤ numV (l.drop 6) ∧ numV (l.drop 6) ≤ 6 := by decide +kernel
    exact this l0 h
theorem inB_all (m : Int) (ps : List (List Int)) : inB m ps = (decide (1 ≤ m) && decide (m ≤ 6) && decide (ps.length ≤ 8) && ps.all fun p => isPk m (pD p)) := by
  simp only [inB, isLs, stD, List.length_map, List.all_map]
  rfl
theorem mapM_length {α β : Type} {f : α → Option β} {l : List α} {us : List β} (h : l.mapM f = some us) : us.length = l.length := mapM_lenY h
theorem readW_own (text : Str) : readW text = ownRead (sg text) := by
  unfold readW ownRead
  by_cases hl : lastN (sg text) = true
  · rw [if_pos hl]
    have hlast : (sg text).getLast? = some 10 := by simpa [lastN] using hl
    obtain ⟨t, et⟩ : ∃ t, sg text = t ++ [10] := by
      have ne : sg text ≠ [] := by intro e; rw [e] at hlast; simp at hlast
      refine ⟨(sg text).dropLast, ?_⟩
      have := List.dropLast_concat_getLast ne
      rw [List.getLast?_eq_some_getLast ne] at hlast
      rw [Option.some.inj hlast] at this
      exact this.symm
    have e1 : sg (L2.cutS text none (some (-1))) = t := by rw [sg_cutS, cut_last, et, List.dropLast_concat]
    have e2 : cutAt 10 (sg text) = cutAt 10 t ++ [[]] := by rw [et]; exact cutAt_app 10 t []
    rw [readLs_plain, cut_n, e1, e2]
    obtain ⟨l0, ls, e3⟩ := cutAt_cons 10 t
    rw [e3]
    have e4 : ownRows ((l0 :: ls) ++ [[]]) = if ls.length ≤ 8 ∧ l0 ∈ heads6 then (ls.mapM (ownPack (numV (l0.drop 6)))).map fun ps => (numV (l0.drop 6), ps) else none := by
      show ownRows (l0 :: (ls ++ [[]])) = _
      rw [ownRows_cons, List.dropLast_concat]
      by_cases c : ls.length ≤ 8 ∧ l0 ∈ heads6
      · rw [if_pos c, if_pos ⟨by simp, by simp; omega, by simp, c.2⟩]
      · rw [if_neg c, if_neg fun q => c ⟨by have := q.2.1; simp at this; omega, q.2.2.2⟩]
    rw [e4]
    by_cases hh : l0 ∈ heads6
    · obtain ⟨hp, h1, h6⟩ := head_one.2 hh
      have e5 : pLines (l0 :: ls) = (ls.mapM fun l => pLine l pWord).map fun ps => (numV (l0.drop 6), ps) := by
        rw [pLines_cons, hp]
      rw [e5]
      generalize numV (l0.drop 6) = m at *
      by_cases h8 : ls.length ≤ 8
      · rw [if_pos ⟨h8, hh⟩]
        have e6 : (ls.mapM (ownPack m)) = (ls.mapM fun l => pLine l pWord).filter fun ps => ps.all fun p => isPk m (pD p) := by
          rw [mapM_filter]
          congr 1
          funext r
          exact (pack_one h1 r).symm
        rw [e6]
        cases e7 : ls.mapM fun l => pLine l pWord with
        | none => rfl
        | some ps =>
          have l8 := mapM_length e7
          have : inB m ps = ps.all fun p => isPk m (pD p) := by
            rw [inB_all]
            have a1 : ps.length ≤ 8 := by omega
            simp [h1, h6, a1]
          by_cases hb : (ps.all fun p => isPk m (pD p)) = true
          · simp [Option.filter, this, hb]
          · simp [Option.filter, this, hb]
      · rw [if_neg fun q => h8 q.1]
        cases e7 : ls.mapM fun l => pLine l pWord with
        | none => rfl
        | some ps =>
          have l8 := mapM_length e7
          have : inB m ps = false := by
            rw [inB_all]
            have a1 : ¬ ps.length ≤ 8 := by omega
            simp [a1]
          simp [Option.filter, this]
    · rw [if_neg fun q => hh q.2]
      rw [pLines_cons]
      cases e7 : pLine l0 gWord with
      | none => rfl
      | some v =>
        match v, e7 with
        | [], _ => rfl
        | _ :: _ :: _, _ => rfl
        | [m], e7 =>
          cases e8 : ls.mapM fun l => pLine l pWord with
          | none => simp [e8]
          | some ps =>
            have : inB m ps = false := by
              rw [inB_all]
              by_cases h1 : 1 ≤ m
              · by_cases h6 : m ≤ 6
                · exact absurd (head_one.1 m e7 h1 h6).1 hh
                · simp [h6]
              · simp [h1]
            simp [e8, Option.filter, this]
  · rw [if_neg hl]
    have hlast : (sg text).getLast? ≠ some 10 := by simpa [lastN] using hl
    obtain ⟨l0, ls, e3⟩ := cutAt_cons 10 (sg text)
    rw [e3]
    rw [ownRows_cons, if_neg]
    rintro ⟨h1, _, h3, _⟩
    by_cases ne : sg text = []
    · rw [ne] at e3
      simp [cutAt] at e3
      rw [e3.2] at h1
      simp at h1
    · have := cutAt_last ne hlast
      rw [e3] at this
      apply this
      cases ls with
      | nil => simp at h1
      | cons a b => rw [List.getLast?_cons_cons]; exact h3
end Pyx.Ty
end
section
/-! The laws' own reading of any text. -/
namespace Pyx.Ty
open PySem (Str sizeLine)
open TL
section
variable {T : Str → Option Df} {G : Str → Option D} {W n : Nat} {S : Store}
def ownFig (w : List Nat) : Option Int := if numB w = true then some (numV w) else none
def optI : Option Int → D
  | some v => .int v
  | none => .non
/-- plain signs -/
def Ch (l : List Nat) : Prop := ∀ c ∈ l, c < 1000
def sgnD (c : Nat) : D := .str ⟨#[c]⟩
theorem signs_ok : ∀ (l : List Nat), Ch l → D.pures (l.map sgnD) = true ∧ D.depths (l.map sgnD) = 0 ∧ D.soks (l.map sgnD) = true
  | [], _ => ⟨rfl, rfl, rfl⟩
  | c :: l, h => by
    obtain ⟨a, b, d⟩ := signs_ok l fun x m => h x (List.mem_cons_of_mem _ m)
    have hc := h c List.mem_cons_self
    refine ⟨by simp [D.pures, sgnD, D.pure] at a ⊢; exact a, by simp [D.depths, sgnD, D.depth] at b ⊢; exact b, ?_⟩
    simp only [List.map_cons, D.soks, Bool.and_eq_true]
    refine ⟨?_, d⟩
    simp [sgnD, D.sok, PySem.PyData.strOk]
    omega
theorem eqD_signs {l : List Nat} (h : Ch l) : eqD S (.lst (l.map sgnD)) (.lst []) = some (decide (l = [])) := by
  obtain ⟨a, b, d⟩ := signs_ok l h
  cases l with
  | nil => simp [eqD, flatL, D.pure, D.pures, D.depth, D.depths, D.sok, D.soks, D.eq, D.eqs]
  | cons c l =>
    have e : D.eqs ((c :: l).map sgnD) [] = false := rfl
    simp only [eqD, flatL, D.pure, a, D.pures, if_true, D.depth, b, D.depths, D.sok, d, D.soks, D.eq, e]
    rfl
def badS (l : List Nat) : List Nat := l.filter fun c => !isFig c
theorem badS_nil {l : List Nat} : badS l = [] ↔ l.all isFig = true := by
  unfold badS
  rw [List.filter_eq_nil_iff, List.all_eq_true]
  constructor
  · intro h c m; simpa using h c m
  · intro h c m; simpa using h c m
theorem comp_bad {C : Str → List D → Store → R D} {G : Str → Option D} {o : Option D} {pl : Str} (hp : (sg pl).length ≤ sizeLine) {S : Store} {Q : D → Store → Prop} : Ok (evE C G (.comp false [2] (.var 2) (.var 2) (.val (.var 1)) (.cons (.cmp .notin (.var 2) (.con (.str (Str.ofString "0123456789")))) .nil)) [o, some (.str pl), none] S) Q ↔ Q (.lst ((badS (sg pl)).map sgnD)) S := by
  rw [Ok_filter1 (xs := (sg pl).map fun c => .str ⟨#[c]⟩) (fun x => !isFig (sgn x)) (by simp [srcVal_str]) (by simp) fun x k => by
    obtain ⟨c, _, rfl⟩ := List.mem_map.mp k
    have e : sgn (.str ⟨#[c]⟩) = c := rfl
    have e2 : decide (c ∈ sg (Str.ofString "0123456789")) = isFig c := fig_mem c
    simp [wipeE, inD_sign, e2, e]]
  have e3 : ((sg pl).map fun c => D.str ⟨#[c]⟩).filter (fun x => !isFig (sgn x)) = (badS (sg pl)).map sgnD := by
    unfold badS
    rw [List.filter_map]
    rfl
  rw [e3]
  have : ((badS (sg pl)).map sgnD).length ≤ sizeLine := by
    rw [List.length_map]
    exact Nat.le_trans (List.length_filter_le _ _) hp
  simp only [this, true_and]
  rfl
theorem figB_eq (l : List Nat) : figB l = (!l.isEmpty && l.all isFig && (decide (l = [48]) || decide (l.head? ≠ some 48))) := rfl
theorem ok_l_figures_any (F : LibF T G) {w : Str} (hz : w.length ≤ 640) (hc : Ch (sg w)) : callF T G W (n + 1) "_law_figures" [.str w] S = .ok (optI (ownFig (sg w))) S := by
  apply eq_of_ok
  rw [Ok_callF F.t_l_figures rfl]
  have hs : ∀ (s : Str) l h (S : Store), slD false (.str s) l h S = .ok (.str (L2.cutS s l h)) S := fun _ _ _ _ => rfl
  have len1 : ∀ (pl : Str) (S : Store), lenD S (.str pl) = .ok (.int (sg pl).length) S := fun pl S => by
    simp [lenD, sg_len]
  have len2 : ∀ (pl : Str) (S : Store), biD .len false [.str pl] S = .ok (.int (sg pl).length) S := fun pl S => by
    simp [biD, len1]
  have ek0 : ∀ S : Store, eqD S (.lst []) (.lst []) = some true := fun S => by
    have := eqD_signs (S := S) (l := []) (by intro c m; cases m)
    simpa using this
  have zw : (sg w).length ≤ sizeLine := by rw [← sg_len, sz]; omega
  cases e : sg w with
  | nil =>
    have e2 : sg (L2.cutS w none (some 1)) = [] := by rw [sg_cutS, e]; exact cut_to _ 1
    simp [b_l_figures, esOf, ssOf, hs, asI, sg_beq, e2, sg_m, sg_e, e, ownFig, numB, figB, optI]
  | cons a r =>
    have e2 : sg (L2.cutS w none (some 1)) = [a] := by rw [sg_cutS, e]; exact cut_to _ 1
    have e3 : sg (L2.cutS w (some 1) none) = r := by rw [sg_cutS, e]; exact cut_from _ 1
    by_cases ha : a = 45
    · subst ha
      have hr : Ch r := fun c m => hc c (by rw [e]; exact List.mem_cons_of_mem _ m)
      have zr : (sg (L2.cutS w (some 1) none)).length ≤ sizeLine := by rw [e3]; rw [e] at zw; simp at zw; omega
      have kk := fun (o : Option D) (S : Store) (Q : D → Store → Prop) => @comp_bad (callF T G W n) G o _ zr S Q
      simp only [e3] at kk
      have ek : ∀ S : Store, eqD S (.lst ((badS r).map sgnD)) (.lst []) = some (decide (badS r = [])) := fun S => eqD_signs fun c m => hr c (List.mem_filter.mp m).1
      cases r with
      | nil => simp [b_l_figures, esOf, ssOf, hs, asI, sg_beq, e2, sg_m, e3, sg_e, e, ownFig, numB, figB, optI]
      | cons b q =>
        by_cases hf : (b :: q).all isFig = true
        · have hb := badS_nil.mpr hf
          by_cases c3 : q ≠ [] ∧ b = 48
          · obtain ⟨q0, rfl⟩ := c3
            have q1 : (0 : Int) < q.length := by have := List.length_pos_iff.mpr q0; omega
            have q2 : ¬ ((q.length : Int) + 1 ≤ 1) := by omega
            have q3 : (1 : Int) < (q.length : Int) + 1 := by omega
            simp [b_l_figures, esOf, ssOf, hs, asI, sg_beq, e2, sg_m, e3, sg_e, e, kk, ek, hb, len1, len2, ek0, q1, q2, q3, Ok_ix_str, atI_0, sg_1, sg_0, ownFig, numB, figB, q0, optI]
          · by_cases c4 : b = 48
            · subst c4
              have q0 : q = [] := by
                by_cases h : q = []
                · exact h
                · exact absurd ⟨h, rfl⟩ c3
              subst q0
              simp [b_l_figures, esOf, ssOf, hs, asI, sg_beq, e2, sg_m, e3, sg_e, e, kk, ek, hb, len1, len2, ek0, sg_m0, ownFig, numB, figB, optI]
            · have nb : numB (45 :: b :: q) = true := by
                simp [numB, figB_eq, hf, c4]
              have b45 : b ≠ 45 := fun h => by
                subst h
                simp [isFig] at hf
              have nb2 : numB (b :: q) = true := by
                unfold numB
                split
                · rename_i r h; cases h; exact absurd rfl b45
                · simp [figB_eq, hf, c4]
              have id1 : intD (.str (L2.cutS w (some 1) none)) = some (numV (b :: q)) := by
                have := sg_int (s := L2.cutS w (some 1) none) (by rw [e3]; exact nb2) (Nat.le_trans (L2.cutS_length _ _ _) hz)
                rw [e3] at this; exact this
              have nv : numV (45 :: b :: q) = -(numV (b :: q)) := by
                show -((PySem.NumText.digitsVal (b :: q) : Nat) : Int) = _
                congr 1
                unfold numV
                split
                · rename_i r h; cases h; exact absurd rfl b45
                · rfl
              have dj : ∀ P : Prop, (q = [] ∨ P) ∨ ¬ q = [] := fun P => by
                by_cases h : q = []
                · exact .inl (.inl h)
                · exact .inr h
              by_cases q0 : q = []
              · subst q0
                simp [b_l_figures, esOf, ssOf, hs, asI, sg_beq, e2, sg_m, e3, sg_e, e, kk, ek, hb, len1, len2, ek0, sg_m0, c4, Ok_ix_str, atI_0, sg_1, sg_0, biD, id1, ownFig, nb, nv, optI]
              · have q1 : (0 : Int) < q.length := by have := List.length_pos_iff.mpr q0; omega
                have q2 : ¬ ((q.length : Int) + 1 ≤ 1) := by omega
                have q3 : (1 : Int) < (q.length : Int) + 1 := by omega
                simp [b_l_figures, esOf, ssOf, hs, asI, sg_beq, e2, sg_m, e3, sg_e, e, kk, ek, hb, len1, len2, ek0, sg_m0, c4, Ok_ix_str, atI_0, sg_1, sg_0, biD, id1, ownFig, nb, nv, optI, q0, q1, q2, q3]
        · have hb : badS (b :: q) ≠ [] := fun h => hf (badS_nil.mp h)
          have nb : numB (45 :: b :: q) = false := by simp [numB, figB_eq, hf]
          simp [b_l_figures, esOf, ssOf, hs, asI, sg_beq, e2, sg_m, e3, sg_e, e, kk, ek, hb, ownFig, nb, optI]
    · have kk := fun (o : Option D) (S : Store) (Q : D → Store → Prop) => @comp_bad (callF T G W n) G o _ zw S Q
      simp only [e] at kk
      have hr : Ch (a :: r) := by rw [← e]; exact hc
      have ek : ∀ S : Store, eqD S (.lst ((badS (a :: r)).map sgnD)) (.lst []) = some (decide (badS (a :: r) = [])) := fun S => eqD_signs fun c m => hr c (List.mem_filter.mp m).1
      have nbf : numB (a :: r) = figB (a :: r) := by
        unfold numB
        split
        · rename_i r h; cases h; exact absurd rfl ha
        · rfl
      by_cases hf : (a :: r).all isFig = true
      · have hb := badS_nil.mpr hf
        by_cases c3 : r ≠ [] ∧ a = 48
        · obtain ⟨q0, rfl⟩ := c3
          have q1 : (0 : Int) < r.length := by have := List.length_pos_iff.mpr q0; omega
          have q2 : ¬ ((r.length : Int) + 1 ≤ 1) := by omega
          have q3 : (1 : Int) < (r.length : Int) + 1 := by omega
          simp [b_l_figures, esOf, ssOf, hs, asI, sg_beq, e2, sg_m, sg_e, e, kk, ek, hb, len1, len2, ek0, q1, q2, q3, Ok_ix_str, atI_0, sg_1, sg_0, ownFig, nbf, figB, q0, optI]
        · have nb : numB (a :: r) = true := by
            rw [nbf, figB_eq, hf]
            by_cases h : a = 48
            · have : r = [] := by
                by_cases h2 : r = []
                · exact h2
                · exact absurd ⟨h2, h⟩ c3
              simp [h, this]
            · simp [h]
          have id1 : intD (.str w) = some (numV (a :: r)) := by
            have := sg_int (s := w) (by rw [e]; exact nb) hz
            rw [e] at this; exact this
          by_cases q0 : r = []
          · subst q0
            simp [b_l_figures, esOf, ssOf, hs, asI, sg_beq, e2, sg_m, sg_e, e, kk, ek, hb, len1, len2, ek0, sg_m0, ha, Ok_ix_str, atI_0, sg_1, sg_0, biD, id1, ownFig, nb, optI]
          · have c4 : ¬ a = 48 := fun h => c3 ⟨q0, h⟩
            have q1 : (0 : Int) < r.length := by have := List.length_pos_iff.mpr q0; omega
            have q2 : ¬ ((r.length : Int) + 1 ≤ 1) := by omega
            have q3 : (1 : Int) < (r.length : Int) + 1 := by omega
            simp [b_l_figures, esOf, ssOf, hs, asI, sg_beq, e2, sg_m, sg_e, e, kk, ek, hb, len1, len2, ek0, sg_m0, ha, c4, Ok_ix_str, atI_0, sg_1, sg_0, biD, id1, ownFig, nb, optI, q0, q1, q2, q3]
      · have hb : badS (a :: r) ≠ [] := fun h => hf (badS_nil.mp h)
        have nb : numB (a :: r) = false := by rw [nbf, figB_eq]; simp [hf]
        simp [b_l_figures, esOf, ssOf, hs, asI, sg_beq, e2, sg_m, sg_e, e, kk, ek, hb, ha, ownFig, nb, optI]
end
end Pyx.Ty
end
section
/-! The laws' own reading of a told list. -/
namespace Pyx.Ty
open PySem (Str sizeLine)
open TL
section
variable {T : Str → Option Df} {G : Str → Option D} {W n : Nat} {S : Store}
theorem atI_last {α : Type} (xs : List α) (a : α) : L2.atI (xs ++ [a]) (-1) = some a := by
  unfold L2.atI L2.ixN
  rw [if_neg (by decide), if_pos (by simp; omega)]
  have : ((-1 : Int) + ((xs ++ [a]).length : Int)).toNat = xs.length := by simp; omega
  simp only [Option.bind_some, this]
  simp
theorem eq_nil (S : Store) : eqD S (.lst []) (.lst []) = some true := by
  rw [eqD_lst (k := 0) (by simp [flatIs]) (by simp [flatIs]) (by decide)]
  simp [D.eqs]
theorem isD_tup (ds : List D) : isD (.tup ds) .non = some false := rfl
/-! ### the same through and through -/
theorem same_int (L : LibL T G) (i : Int) : callF T G W (n + 1) "_law_same" [.int i, .int i] S = .ok (.bl true) S := by
  apply eq_of_ok
  rw [Ok_callF L.t_l_same rfl]
  simp [b_l_same, esOf, ssOf]
theorem same_tup (L : LibL T G) {ds : List D} (hz : ds.length ≤ 1000000) (h : ∀ d ∈ ds, ∀ S, callF T G W (n + 1) "_law_same" [d, d] S = .ok (.bl true) S) : callF T G W (n + 2) "_law_same" [.tup ds, .tup ds] S = .ok (.bl true) S := by
  apply eq_of_ok
  rw [Ok_callF L.t_l_same rfl]
  have key : ∀ {S : Store} {Q : D → Store → Prop}, Ok (evE (callF T G W (n + 1)) G (.comp false [2] (.var 2) (.var 2) (.rng (.cons (.bi .len false (.cons (.var 0) .nil)) .nil)) (.cons (.not (.call "_law_same" (.cons (.ix (.var 0) (.var 2)) (.cons (.ix (.var 1) (.var 2)) .nil)))) .nil)) [some (.tup ds), some (.tup ds), none] S) Q ↔ Q (.lst []) S := fun {S Q} => by
    rw [Ok_filter1 (xs := rangeD 0 ds.length) (fun _ => false) (by simp [srcRng_nat hz]) (by simp) fun x k => by
      obtain ⟨j, mj, rfl⟩ := List.mem_map.mp k
      have hj := List.mem_range.mp mj
      obtain ⟨d, ed, md⟩ := atI_nat (xs := ds) (i := (j : Int)) (Int.natCast_nonneg j) (by omega)
      simp [wipeE, ed, h d md]]
    have e9 : (rangeD 0 ds.length).filter (fun _ => false) = [] := List.filter_eq_nil_iff.mpr (by simp)
    rw [e9]
    simp [sz]
  simp [b_l_same, esOf, ssOf, key, eq_nil, sz]
theorem same_pD (L : LibL T G) {p : List Int} (h : p.length ≤ 1000000) : callF T G W (n + 2) "_law_same" [pD p, pD p] S = .ok (.bl true) S :=
  same_tup L (by rw [List.length_map]; exact h) fun d m S => by
    obtain ⟨i, _, rfl⟩ := List.mem_map.mp m
    exact same_int L i
theorem same_stD (L : LibL T G) {m : Int} {ps : List (List Int)} (h : Good m ps) : callF T G W (n + 4) "_law_same" [stD m ps, stD m ps] S = .ok (.bl true) S :=
  same_tup L (by simp) fun d k S => by
    simp only [List.mem_cons, List.not_mem_nil, or_false] at k
    rcases k with rfl | rfl
    · exact same_int L m
    · refine same_tup L (by rw [List.length_map]; have := h.len; omega) fun d k S => ?_
      obtain ⟨p, mp, rfl⟩ := List.mem_map.mp k
      refine same_pD L ?_
      have := (h.row p mp).1
      have := h.hi
      omega
theorem ok_put (L : LibP T G) {ds : List D} {e : D} {k : Nat} (h : k < ds.length) (hz : ds.length ≤ 1000000) : callF T G W (n + 1) "_law_put" [.tup ds, .int k, e] S = .ok (.tup (ds.set k e)) S := by
  apply eq_of_ok
  rw [Ok_callF L.t_l_put rfl]
  have s1 : ∀ S, slD false (.tup ds) none (some (k : Int)) S = .ok (.tup (ds.take k)) S := fun S => by simp only [slD]; rw [cut_to]
  have s2 : ∀ S, slD false (.tup ds) (some ((k : Int) + 1)) none S = .ok (.tup (ds.drop (k + 1))) S := fun S => by
    simp only [slD]
    rw [show ((k : Int) + 1) = ((k + 1 : Nat) : Int) by omega, cut_from]
  have z1 : min k ds.length + 1 ≤ 16777216 := by omega
  have z2 : min k ds.length + 1 + (ds.length - (k + 1)) ≤ 16777216 := by omega
  have e1 : ds.set k e = ds.take k ++ e :: ds.drop (k + 1) := by rw [List.set_eq_take_append_cons_drop, if_pos h]
  simp [b_l_put, esOf, ssOf, asI, s1, s2, sz, z1, z2, e1]
end
end Pyx.Ty
end
section
/-! The laws' own reading of any text: rows, lists. -/
namespace Pyx.Ty
open PySem (Str sizeLine)
open TL
section
variable {T : Str → Option Df} {G : Str → Option D} {W n : Nat} {S : Store}
/-- a text of plain signs, not too long, its rows up to B signs -/
structure TOk (B : Nat) (t : Str) : Prop where
  ch : Ch (sg t)
  len : (sg t).length ≤ 900000
  row : ∀ p ∈ cutAt 10 (sg t), p.length ≤ B
def optP : Option (List Int) → D
  | some p => pD p
  | none => .non
def optL : Option (Int × List (List Int)) → D
  | some q => stD q.1 q.2
  | none => .non
theorem optI_flat (o : Option Int) : (optI o).flat = true := by cases o <;> rfl
theorem inD_non (os : List (Option Int)) : inD S .non (.lst (os.map optI)) = some (os.any Option.isNone) := by
  have h1 : (os.map optI).all D.flat = true := by
    rw [List.all_eq_true]
    intro x m
    obtain ⟨o, _, rfl⟩ := List.mem_map.mp m
    exact optI_flat o
  have h2 : ((os.map optI).any fun y => y.eq .non) = os.any Option.isNone := by
    rw [List.any_map]
    congr 1
    funext o
    cases o <;> rfl
  simp only [inD, dgetD, asQ, D.flat, h1, h2, Bool.true_and, if_true]
theorem ownFig_all (ws : List (List Nat)) : (ws.map ownFig).any Option.isNone = !(ws.all numB) ∧ (ws.all numB = true → (ws.map ownFig).map optI = (ws.map numV).map .int) := by
  induction ws with
  | nil => exact ⟨rfl, fun _ => rfl⟩
  | cons w ws ih =>
    cases h : numB w with
    | false => exact ⟨by simp [ownFig, h], fun q => by simp [h] at q⟩
    | true =>
      refine ⟨by simp only [List.map_cons, List.any_cons, ih.1, List.all_cons, h, Bool.true_and]; simp [ownFig, h], fun q => ?_⟩
      have q : ws.all numB = true := by simpa [h] using q
      simp only [List.map_cons, ih.2 q]
      simp [ownFig, h, optI]
theorem ok_l_read_row_any (F : LibF T G) {row : Str} {m : Int} (hz : row.length ≤ 640) (hc : Ch (sg row)) : callF T G W (n + 2) "_law_read_row" [.str row, .int m] S = .ok (optP (ownRow (sg row) m)) S := by
  apply eq_of_ok
  rw [Ok_callF F.t_l_read_row rfl]
  have sp : ∀ {S : Store} {Q : D → Store → Prop}, Ok (mtD .split false (.str row) [.str (Str.ofString " ")] S) Q ↔ Q (.lst ((PySem.Txt.split row (Str.ofString " ")).map .str)) S := fun {S Q} => Ok_split sg_b plain_b (by omega)
  have hm := cut_b row
  have nm := split_num row (Str.ofString " ") sg_b plain_b
  generalize PySem.Txt.split row (Str.ofString " ") = ws at sp hm nm
  have hw : ∀ w ∈ ws, w.length ≤ 640 ∧ Ch (sg w) := fun w mw => by
    have : sg w ∈ cutAt 32 (sg row) := by rw [← hm]; exact List.mem_map.mpr ⟨w, mw, rfl⟩
    obtain ⟨h1, h2⟩ := cutAt_mem this
    exact ⟨by rw [sg_len]; rw [sg_len] at hz; omega, fun c mc => hc c (h1 c mc).1⟩
  have zz : (ws.map D.str).length ≤ sizeLine := by rw [List.length_map, sz]; omega
  have key : ∀ {S : Store} {Q : D → Store → Prop}, Ok (evE (callF T G W (n + 1)) G (.comp false [3] (.call "_law_figures" (.cons (.var 3) .nil)) (.var 3) (.val (.mt .split false (.var 0) (.cons (.con (.str (Str.ofString " "))) .nil))) .nil) [some (.str row), some (.int m), none, none] S) Q ↔ Q (.lst (((ws.map sg).map ownFig).map optI)) S := fun {S Q} => by
    rw [Ok_map1 (xs := ws.map .str) (fun x => optI (ownFig (sg (strOf x)))) (by simp [mtTy, sp]) (by simp) fun x k => by
      obtain ⟨w, mw, rfl⟩ := List.mem_map.mp k
      obtain ⟨h1, h2⟩ := hw w mw
      simp [wipeE, ok_l_figures_any F h1 h2, strOf]]
    have e : (ws.map D.str).map (fun x => optI (ownFig (sg (strOf x)))) = ((ws.map sg).map ownFig).map optI := by
      simp only [List.map_map]
      rfl
    rw [e]
    simp only [zz, true_and]
    rfl
  have e1 : ∀ S, inD S .non (.lst (((ws.map sg).map ownFig).map optI)) = some (!((ws.map sg).all numB)) := fun S => by rw [inD_non, (ownFig_all _).1]
  have e2 := (ownFig_all (ws.map sg)).2
  have e3 : (((ws.map sg).map ownFig).map optI).length = (ws.map sg).length := by simp
  unfold ownRow
  rw [← hm]
  generalize ws.map sg = us at *
  by_cases hl : (us.length : Int) = m
  · cases ha : us.all numB with
    | true =>
      have e2 := e2 ha
      have e1' : ∀ S, inD S .non (.lst ((us.map numV).map .int)) = some false := fun S => by rw [← e2, e1, ha]; rfl
      rw [if_pos ⟨hl, rfl⟩]
      simp [-List.map_map, b_l_read_row, esOf, ssOf, key, hl, ha, optP, e2, e1', pD]
    | false =>
      rw [if_neg (by rintro ⟨_, h⟩; cases h)]
      simp [-List.map_map, b_l_read_row, esOf, ssOf, key, hl, e1, ha, optP]
  · rw [if_neg fun q => hl q.1]
    simp [-List.map_map, b_l_read_row, esOf, ssOf, key, hl, optP]
def headS : Nat → Str := fun k => Str.ofString "goods " ++ numS (1 + (k : Int))
theorem heads_sg : ∀ r : Str, (∃ k < 6, headS k = r) ↔ sg r ∈ heads6 := by
  intro r
  have hk : ∀ k < 6, sg (headS k) = gWord ++ 32 :: [49 + k] := by
    intro k hk
    rw [headS, sg_app, sg_goodsb, sg_numS]
    have : numC (1 + (k : Int)) = [49 + k] := by
      unfold numC
      rw [if_neg (by omega), numL_lt (by omega)]
      congr 1; omega
    rw [this]; rfl
  constructor
  · rintro ⟨k, h, rfl⟩
    rw [hk k h]
    have : ∀ k < 6, gWord ++ 32 :: [49 + k] ∈ heads6 := by decide
    exact this k h
  · intro h
    have : ∀ l ∈ heads6, ∃ k < 6, gWord ++ 32 :: [49 + k] = l := by decide
    obtain ⟨k, h1, h2⟩ := this _ h
    exact ⟨k, h1, sg_inj (by rw [hk k h1, h2])⟩
theorem eqD_ints (p : List Int) : eqD S (.lst (p.map .int)) (.lst []) = some (decide (p = [])) := by
  rw [eqD_lst (k := 0) (flat_ints 0 p) (by simp [flatIs]) (by decide)]
  cases p <;> simp [D.eqs]
theorem small_filter (p : List Int) : (p.filter fun x => decide (9999 < x) || decide (x < -9999)) = [] ↔ small p = true := by
  rw [List.filter_eq_nil_iff, small, List.all_eq_true]
  constructor
  · intro h x m
    have := h x m
    simp only [Bool.or_eq_true, decide_eq_true_eq, not_or, Bool.and_eq_true] at this ⊢
    omega
  · intro h x m
    have := h x m
    simp only [Bool.or_eq_true, decide_eq_true_eq, not_or, Bool.and_eq_true] at this ⊢
    omega
theorem mid_rows {α : Type} (a z : α) (l : List α) : cut (a :: (l ++ [z])) (some 1) (some (-1)) = l := by
  rw [cut_mid, List.drop_one, List.tail_cons, List.dropLast_concat]
theorem ok_l_read_list_any (F : LibF T G) (Fl : LibFl T G) {text : Str} (ht : TOk 640 text) : callF T G W (n + 3) "_law_read_list" [.str text] S = .ok (optL (ownRead (sg text))) S := by
  apply eq_of_ok
  rw [Ok_callF Fl.t_l_read_list rfl]
  have lT : text.length ≤ 900000 := by rw [sg_len]; exact ht.len
  have sp : ∀ {S : Store} {Q : D → Store → Prop}, Ok (mtD .split false (.str text) [.str (Str.ofString "\n")] S) Q ↔ Q (.lst ((PySem.Txt.split text (Str.ofString "\n")).map .str)) S := fun {S Q} => Ok_split sg_n plain_n (by omega)
  have hm := cut_n text
  have nm := split_num text (Str.ofString "\n") sg_n plain_n
  unfold ownRead
  have hrow : ∀ r ∈ PySem.Txt.split text (Str.ofString "\n"), r.length ≤ 640 ∧ Ch (sg r) := fun r mr => by
    have : sg r ∈ cutAt 10 (sg text) := by rw [← hm]; exact List.mem_map.mpr ⟨r, mr, rfl⟩
    exact ⟨by rw [sg_len]; exact ht.row _ this, fun c mc => ht.ch c ((cutAt_mem this).1 c mc).1⟩
  have ne := split_ne text (Str.ofString "\n") sg_n plain_n
  rw [← hm]
  generalize PySem.Txt.split text (Str.ofString "\n") = rows at *
  clear hm ht
  have key1 : ∀ {S : Store} {Q : D → Store → Prop}, Ok (evE (callF T G W (n + 2)) G (.comp false [2] (.bin .add (.con (.str (Str.ofString "goods "))) (.bi .str false (.cons (.var 2) .nil))) (.var 2) (.rng (.cons (.con (.int 1)) (.cons (.con (.int 7)) .nil))) .nil) [some (.str text), some (.lst (rows.map .str)), none, none, none, none, none] S) Q ↔ Q (.lst ((List.range 6).map fun k => .str (headS k))) S := fun {S Q} => by
    have sr : srcRng [.int 1, .int 7] = some (rangeD 1 6) := by
      show (if smallI 1 = true ∧ smallI 7 = true ∧ ((7 : Int) - 1).toNat ≤ sizeLine then some (rangeD 1 ((7 : Int) - 1).toNat) else none) = _
      rw [if_pos ⟨by decide, by decide, by rw [sz]; decide⟩]; rfl
    rw [Ok_map1 (xs := rangeD 1 6) (fun x => .str (Str.ofString "goods " ++ numS (intOf x))) (by simp [sr]) (by simp) fun x k => by
      obtain ⟨j, mj, rfl⟩ := List.mem_map.mp k
      have hj := List.mem_range.mp mj
      have p60 : (10 : Nat) ^ 60 = 1000000000000000000000000000000000000000000000000000000000000 := by decide +kernel
      have hb : ((1 : Int) + (j : Int)).natAbs < 10 ^ 60 := by rw [p60]; omega
      have hz : 6 + (numS (1 + (j : Int))).length ≤ 16777216 := by have := num_len hb; omega
      simp [wipeE, bi_str hb, len_goodsb, sz, hz, intOf]]
    have zz : (rangeD 1 6).length ≤ sizeLine := by simp [rangeD, sz]
    simp only [zz, true_and]
    rfl
  have inh : ∀ (S : Store) (r : Str), inD S (.str r) (.lst ((List.range 6).map fun k => .str (headS k))) = some (decide (sg r ∈ heads6)) := fun S r => by
    have h1 : ((List.range 6).map fun k => D.str (headS k)).all D.flat = true := by
      rw [List.all_eq_true]
      intro x mx
      obtain ⟨y, _, rfl⟩ := List.mem_map.mp mx
      rfl
    have h2 : (((List.range 6).map fun k => D.str (headS k)).any fun y => y.eq (.str r)) = decide (sg r ∈ heads6) := by
      rw [Bool.eq_iff_iff, List.any_eq_true, decide_eq_true_eq, ← heads_sg]
      constructor
      · rintro ⟨x, mx, e⟩
        obtain ⟨k, mk, rfl⟩ := List.mem_map.mp mx
        exact ⟨k, List.mem_range.mp mk, by simpa [D.eq] using e⟩
      · rintro ⟨k, hk, rfl⟩
        exact ⟨_, List.mem_map.mpr ⟨k, List.mem_range.mpr hk, rfl⟩, by simp [D.eq]⟩
    simp only [inD, dgetD, asQ, D.flat, h1, h2, Bool.true_and, if_true]
  have hs : ∀ (s : Str) l h (S : Store), slD false (.str s) l h S = .ok (.str (L2.cutS s l h)) S := fun _ _ _ _ => rfl
  obtain ⟨r0, rs, rfl⟩ := List.exists_cons_of_ne_nil ne
  rw [show (r0 :: rs).map sg = sg r0 :: rs.map sg from rfl, ownRows_cons, List.length_map]
  clear lT nm
  by_cases c1 : 1 ≤ rs.length
  · have d1 : ¬ ((rs.length : Int) + 1 < 2) := by omega
    by_cases c2 : rs.length ≤ 9
    · have d2 : ¬ ((10 : Int) < (rs.length : Int) + 1) := by omega
      obtain ⟨ms, z, rfl⟩ : ∃ ms z, rs = ms ++ [z] := ⟨rs.dropLast, rs.getLast (by intro e; rw [e] at c1; simp at c1), (List.dropLast_concat_getLast _).symm⟩
      have la : L2.atI (.str r0 :: ((ms ++ [z]).map D.str)) (-1) = some (.str z) := by
        rw [List.map_append, List.map_singleton, ← List.cons_append]; exact atI_last _ _
      simp only [List.length_append, List.length_singleton] at d1 d2 c1 c2
      have d3 : (2 : Int) ≤ (ms.length : Int) + 1 + 1 := by omega
      have d4 : (ms.length : Int) + 1 + 1 ≤ 10 := by omega
      have d5 : ¬ (10 : Int) < (ms.length : Int) + 1 + 1 := by omega
      have d6 : ¬ (ms.length : Int) + 1 + 1 < 2 := by omega
      have gl : ((ms ++ [z]).map sg).getLast? = some (sg z) := by simp
      rw [gl]
      by_cases c3 : sg z = []
      · by_cases c4 : sg r0 ∈ heads6
        · rw [if_pos ⟨by simp, by simpa using c2, by rw [c3], c4⟩]
          obtain ⟨hp, h1, h6⟩ := head_one.2 c4
          have int6 : ∀ S : Store, biD .int false [.str (L2.cutS r0 (some 6) none)] S = .ok (.int (numV ((sg r0).drop 6))) S := fun S => by
            have e : sg (L2.cutS r0 (some 6) none) = (sg r0).drop 6 := by rw [sg_cutS]; exact cut_from _ 6
            have zl : (L2.cutS r0 (some 6) none).length ≤ 640 := Nat.le_trans (L2.cutS_length _ _ _) (hrow r0 (by simp)).1
            have nb : ∀ l ∈ heads6, numB (l.drop 6) = true := by decide +kernel
            have := sg_int (s := L2.cutS r0 (some 6) none) (by rw [e]; exact nb _ c4) zl
            rw [e] at this
            simp only [biD, this, intR]
          generalize hmv : numV ((sg r0).drop 6) = m at *
          have slm : ∀ (S : Store), slD false (.lst (.str r0 :: ((ms ++ [z]).map .str))) (some 1) (some (-1)) S = .ok (.lst (ms.map .str)) S := fun S => by
            have zz : (ms.map D.str).length ≤ sizeLine := by rw [List.length_map, sz]; omega
            have e : cut (D.str r0 :: ((ms ++ [z]).map D.str)) (some 1) (some (-1)) = ms.map D.str := by
              rw [List.map_append, List.map_singleton]; exact mid_rows _ _ _
            simp only [slD, asQ, e, mkL]
            rw [if_pos zz]; rfl
          have e0 : ((ms ++ [z]).map sg).dropLast = ms.map sg := by rw [List.map_append, List.map_singleton, List.dropLast_concat]
          rw [e0, mapM_map']
          generalize ho : (ms.mapM fun r => ownPack m (sg r)) = out
          have z0 : z = Str.ofString "" := sg_inj (by rw [c3, sg_e])
          have w1 : ms.length ≤ 8 := by omega
          have hms : ∀ r ∈ ms, r.length ≤ 640 ∧ Ch (sg r) := fun r mr => hrow r (by simp [mr])
          have sp' : ∀ {S : Store} {Q : D → Store → Prop}, Ok (mtD .split false (.str text) [.str (Str.ofString "\n")] S) Q ↔ Q (.lst (.str r0 :: ((ms ++ [z]).map .str))) S := sp
          have key1' : ∀ {S : Store} {Q : D → Store → Prop}, Ok (evE (callF T G W (n + 2)) G (.comp false [2] (.bin .add (.con (.str (Str.ofString "goods "))) (.bi .str false (.cons (.var 2) .nil))) (.var 2) (.rng (.cons (.con (.int 1)) (.cons (.con (.int 7)) .nil))) .nil) [some (.str text), some (.lst (.str r0 :: ((ms ++ [z]).map .str))), none, none, none, none, none] S) Q ↔ Q (.lst ((List.range 6).map fun k => .str (headS k))) S := key1
          have ln : (((ms ++ [z]).map D.str).length : Int) = (ms.length : Int) + 1 := by simp
          have ze : ∀ S : Store, eqD S (.str z) (.str (Str.ofString "")) = some true := fun S => by rw [z0]; simp
          generalize (ms ++ [z]).map D.str = tl at sp' key1' la slm ln
          simp [-List.map_map, b_l_read_list, esOf, ssOf, tgsOf, sz, mtTy, sp', ln, d3, d4, d5, d6, la, ze, atI_0, key1', inh, c4, Ok_for, asI, hs, int6, Tgs.len, slm]
          refine Ok_for_inv (fun i ρ S1 => ∃ ps o4 o5 o6, (ms.take i).mapM (fun r => ownPack m (sg r)) = some ps ∧ ρ = [some (.str text), some (.lst (.str r0 :: tl)), some (.int m), some (.ref S.length), o4, o5, o6] ∧ S1 = S ++ [.lst (ps.map pD)]) ⟨[], none, none, none, rfl, rfl, rfl⟩ (fun _ _ _ _ _ => trivial) ?_ ?_
          · rintro i x e ρ S1 ⟨ps, o4, o5, o6, hps, rfl, rfl⟩
            rw [List.getElem?_map] at e
            obtain ⟨r, er, rfl⟩ := Option.map_eq_some_iff.mp e
            have mr := List.mem_of_getElem? er
            obtain ⟨rl, rc⟩ := hms r mr
            have pl := mapM_length hps
            rw [List.length_take] at pl
            have e5 : sg (L2.cutS r none (some 5)) = (sg r).take 5 := by rw [sg_cutS]; exact cut_to _ 5
            have e6 : sg (L2.cutS r (some 5) none) = (sg r).drop 5 := by rw [sg_cutS]; exact cut_from _ 5
            have rd : ∀ S, callF T G W (n + 2) "_law_read_row" [.str (L2.cutS r (some 5) none), .int m] S = .ok (optP (ownRow ((sg r).drop 5) m)) S := fun S => by
              rw [← e6]
              exact ok_l_read_row_any F (Nat.le_trans (L2.cutS_length _ _ _) rl) (by rw [e6]; exact fun c mc => rc c (List.mem_of_mem_drop mc))
            have bail : gc S .non (S ++ [.lst (ps.map pD)]) = .ok .non S := gc_app (by simp [D.bnd])
            have bad : ownPack m (sg r) = none → ms.mapM (fun r => ownPack m (sg r)) = none := fun h => mapM_none (f := fun r => ownPack m (sg r)) er h
            have eqp : (sg r).take 5 = sg (Str.ofString "pack ") ↔ (sg r).take 5 = pWord ++ [32] := by rw [sg_packb]; rfl
            rw [ho] at bad
            by_cases c5 : (sg r).take 5 = pWord ++ [32]
            · have c5' := eqp.mpr c5
              cases co : ownRow ((sg r).drop 5) m with
              | none =>
                have hb := bad (by unfold ownPack; rw [if_pos c5, co]; rfl)
                simp [-List.map_map, asI, hs, sg_beq, e5, c5', rd, co, optP, isD, bail, hb, optL]
              | some p =>
                have key2 : ∀ (a b c d f o6 : Option D) {S : Store} {Q : D → Store → Prop}, Ok (evE (callF T G W (n + 2)) G (.comp false [6] (.var 6) (.var 6) (.val (.var 5)) (.cons (.or (.cmp .gt (.var 6) (.con (.int 9999))) (.cmp .lt (.var 6) (.neg (.con (.int 9999))))) .nil)) [a, b, c, d, f, some (pD p), o6] S) Q ↔ Q (.lst ((p.filter fun x => decide (9999 < x) || decide (x < -9999)).map .int)) S := fun a b c d f o6 {S Q} => by
                  rw [Ok_filter1 (xs := p.map .int) (fun x => decide (9999 < intOf x) || decide (intOf x < -9999)) (by simp [pD]) (by simp) fun x k => by
                    obtain ⟨j, mj, rfl⟩ := List.mem_map.mp k
                    by_cases g1 : 9999 < j <;> by_cases g2 : j < -9999 <;> simp [wipeE, intOf, g1, g2]]
                  have e9 : (p.map D.int).filter (fun x => decide (9999 < intOf x) || decide (intOf x < -9999)) = (p.filter fun x => decide (9999 < x) || decide (x < -9999)).map .int := by
                    rw [List.filter_map]; rfl
                  rw [e9]
                  have hp5 : p.length ≤ 640 := by
                    unfold ownRow at co
                    split at co
                    · cases co
                      rw [List.length_map]
                      have := @cutAt_len 32 ((sg r).drop 5)
                      rw [List.length_drop] at this
                      rw [sg_len] at rl
                      have h5 : 5 ≤ (sg r).length := by
                        have := congrArg List.length c5
                        rw [List.length_take] at this
                        have e : (pWord ++ [32]).length = 5 := rfl
                        omega
                      omega
                    · cases co
                  have : ((p.filter fun x => decide (9999 < x) || decide (x < -9999)).map D.int).length ≤ sizeLine := by
                    rw [List.length_map, sz]
                    have := List.length_filter_le (fun x => decide (9999 < x) || decide (x < -9999)) p
                    omega
                  simp only [this, true_and]
                  rfl
                have isn : isD (pD p) .non = some false := rfl
                by_cases cs : small p = true
                · have hg : ownPack m (sg r) = some p := by unfold ownPack; rw [if_pos c5, co]; simp [Option.filter, cs]
                  have hf := small_filter p |>.mpr cs
                  have hps2 := mapM_snoc (f := fun r => ownPack m (sg r)) er hps hg
                  have z6 : ps.length < 16777216 := by omega
                  simp [-List.map_map, asI, hs, sg_beq, e5, c5', rd, co, optP, isn, key2, hf, eq_nil, mtTy, lstAt]
                  simp [-List.map_map, mtD, appendD, lstAt, sz, z6]
                  exact ⟨ps ++ [p], hps2, by simp⟩
                · have hf : ¬ (p.filter fun x => decide (9999 < x) || decide (x < -9999)) = [] := fun h => cs ((small_filter p).mp h)
                  have hb := bad (by unfold ownPack; rw [if_pos c5, co]; simp [Option.filter, cs])
                  simp [-List.map_map, asI, hs, sg_beq, e5, c5', rd, co, optP, isn, key2, eqD_ints, hf, bail, hb, optL]
            · have c5' : ¬ (sg r).take 5 = sg (Str.ofString "pack ") := fun h => c5 (eqp.mp h)
              have hb := bad (by unfold ownPack; rw [if_neg c5])
              simp [-List.map_map, asI, hs, sg_beq, e5, c5', isD, bail, hb, optL]
          · rintro ρ S1 ⟨ps, o4, o5, o6, hps, rfl, rfl⟩
            rw [List.length_map, List.take_length] at hps
            rw [hps] at ho
            subst ho
            have pl := mapM_length hps
            have g1 : gc S (.tup [.int m, .tup (ps.map pD)]) (S ++ [.lst (ps.map pD)]) = .ok (.tup [.int m, .tup (ps.map pD)]) S := gc_app (pure_bnd _ _ (flatI_ok 3 _ (flat_stD 0 m ps)).1)
            have z6 : ps.length ≤ 16777216 := by omega
            simp [-List.map_map, biD, tupD, asQ, g1, sz, stD, optL]
        · rw [if_neg fun q => c4 q.2.2.2]
          have z0 : z = Str.ofString "" := sg_inj (by rw [c3, sg_e])
          have sp' : ∀ {S : Store} {Q : D → Store → Prop}, Ok (mtD .split false (.str text) [.str (Str.ofString "\n")] S) Q ↔ Q (.lst (.str r0 :: ((ms ++ [z]).map .str))) S := sp
          have key1' : ∀ {S : Store} {Q : D → Store → Prop}, Ok (evE (callF T G W (n + 2)) G (.comp false [2] (.bin .add (.con (.str (Str.ofString "goods "))) (.bi .str false (.cons (.var 2) .nil))) (.var 2) (.rng (.cons (.con (.int 1)) (.cons (.con (.int 7)) .nil))) .nil) [some (.str text), some (.lst (.str r0 :: ((ms ++ [z]).map .str))), none, none, none, none, none] S) Q ↔ Q (.lst ((List.range 6).map fun k => .str (headS k))) S := key1
          have ln : (((ms ++ [z]).map D.str).length : Int) = (ms.length : Int) + 1 := by simp
          have ze : ∀ S : Store, eqD S (.str z) (.str (Str.ofString "")) = some true := fun S => by rw [z0]; simp
          generalize (ms ++ [z]).map D.str = tl at sp' key1' la ln
          simp [-List.map_map, b_l_read_list, esOf, ssOf, tgsOf, sz, mtTy, sp', ln, d3, d4, d5, d6, la, ze, atI_0, key1', inh, c4, optL]
      · rw [if_neg fun q => c3 (Option.some.inj q.2.2.1)]
        have sp' : ∀ {S : Store} {Q : D → Store → Prop}, Ok (mtD .split false (.str text) [.str (Str.ofString "\n")] S) Q ↔ Q (.lst (.str r0 :: ((ms ++ [z]).map .str))) S := sp
        have ln : (((ms ++ [z]).map D.str).length : Int) = (ms.length : Int) + 1 := by simp
        generalize (ms ++ [z]).map D.str = tl at sp' la ln
        simp [-List.map_map, b_l_read_list, esOf, ssOf, tgsOf, sz, mtTy, sp', ln, d3, d4, d5, d6, la, sg_beq, sg_e, c3, optL]
    · rw [if_neg fun q => c2 q.2.1]
      have d2 : (10 : Int) < (rs.length : Int) + 1 := by omega
      simp [-List.map_map, b_l_read_list, esOf, ssOf, tgsOf, sz, mtTy, sp, d1, d2, optL]
  · rw [if_neg fun q => c1 q.1]
    have d1 : (rs.length : Int) + 1 < 2 := by omega
    simp [-List.map_map, b_l_read_list, esOf, ssOf, tgsOf, sz, mtTy, sp, d1, optL]
end
end Pyx.Ty
end
section
/-! Texts bent: plain facts, and the machine's cutting and joining of a list in the store. -/
namespace Pyx.Ty
open PySem (Str sizeLine)
open TL
def tot : List (List Nat) → Nat
  | [] => 0
  | p :: ps => p.length + 1 + tot ps
theorem tot_app : ∀ a b, tot (a ++ b) = tot a + tot b
  | [], b => by simp [tot]
  | p :: a, b => by rw [List.cons_append, tot, tot, tot_app a b]; omega
theorem tot_td (k : Nat) (l : List (List Nat)) : tot (l.take k) + tot (l.drop k) = tot l := by
  rw [← tot_app, List.take_append_drop]
theorem tot_drop (k : Nat) (l : List (List Nat)) : tot (l.drop k) ≤ tot l := by have := tot_td k l; omega
theorem tot_td1 (k : Nat) (l : List (List Nat)) : tot (l.take k) + tot (l.drop (k + 1)) ≤ tot l := by
  have h1 := tot_td k l
  have h2 := tot_drop 1 (l.drop k)
  rw [List.drop_drop] at h2
  omega
theorem tot_set : ∀ (l : List (List Nat)) (i : Nat) (x : List Nat), tot (l.set i x) ≤ tot l + x.length + 1
  | [], i, x => by simp [tot]
  | p :: l, 0, x => by rw [List.set_cons_zero, tot, tot]; omega
  | p :: l, i + 1, x => by
    have := tot_set l i x
    rw [List.set_cons_succ, tot, tot]; omega
theorem tot_join (c : Nat) : ∀ ps : List (List Nat), ps ≠ [] → (joinL [c] ps).length + 1 = tot ps
  | [], h => absurd rfl h
  | [p], _ => by simp [joinL, tot]
  | p :: q :: ps, _ => by
    have := tot_join c (q :: ps) (by simp)
    rw [joinL, tot, List.length_append, List.length_append, List.length_singleton]; omega
theorem len_join (c : Nat) (ps : List (List Nat)) : (joinL [c] ps).length ≤ tot ps := by
  cases ps with
  | nil => simp [joinL]
  | cons p ps => have := tot_join c (p :: ps) (by simp); omega
theorem tot_cut (c : Nat) (l : List Nat) : tot (cutAt c l) = l.length + 1 := by
  have := tot_join c (cutAt c l) (cutAt_ne c l)
  rw [joinL_cut] at this
  exact this.symm
theorem Ch_join {c : Nat} (hc : c < 1000) : ∀ {ps : List (List Nat)}, (∀ p ∈ ps, Ch p) → Ch (joinL [c] ps)
  | [], _ => by intro x m; simp [joinL] at m
  | [p], h => by rw [joinL]; exact h p (by simp)
  | p :: q :: ps, h => by
    rw [joinL]
    intro x m
    rcases List.mem_append.mp m with m | m
    · exact h p (by simp) x m
    · rcases List.mem_append.mp m with m | m
      · rw [List.mem_singleton.mp m]; exact hc
      · exact Ch_join hc (ps := q :: ps) (fun z k => h z (List.mem_cons_of_mem _ k)) x m
theorem Ch_cut {c : Nat} {l : List Nat} (h : Ch l) : ∀ p ∈ cutAt c l, Ch p := fun p m x mx => h x ((cutAt_mem m).1 x mx).1
theorem Ch_app {a b : List Nat} (h : Ch a) (k : Ch b) : Ch (a ++ b) := fun x m => by
  rcases List.mem_append.mp m with m | m
  · exact h x m
  · exact k x m
theorem Ch_take {a : List Nat} (k : Nat) (h : Ch a) : Ch (a.take k) := fun x m => h x (List.mem_of_mem_take m)
theorem Ch_drop {a : List Nat} (k : Nat) (h : Ch a) : Ch (a.drop k) := fun x m => h x (List.mem_of_mem_drop m)
/-- rows up to B signs -/
def Rn (B : Nat) (l : List Nat) : Prop := ∀ p ∈ cutAt 10 l, p.length ≤ B
theorem Rn_len {B : Nat} {l : List Nat} (h : l.length ≤ B) : Rn B l := fun p m => Nat.le_trans (cutAt_mem m).2 h
theorem Rn_mono {B C : Nat} {l : List Nat} (h : Rn B l) (k : B ≤ C) : Rn C l := fun p m => Nat.le_trans (h p m) k
theorem Rn_join {B : Nat} {ps : List (List Nat)} (h : ∀ p ∈ ps, p.length ≤ B) : Rn B (joinL [10] ps) := by
  cases ps with
  | nil => exact Rn_len (by simp [joinL])
  | cons q ps =>
    intro p m
    rw [cutAt_join 10 _ (by simp)] at m
    obtain ⟨a, ma, mp⟩ := List.mem_flatten.mp m
    obtain ⟨b, mb, rfl⟩ := List.mem_map.mp ma
    exact Nat.le_trans (cutAt_mem mp).2 (h b mb)
theorem Rn_take {B : Nat} {l : List Nat} (k : Nat) (h : Rn B l) : Rn B (l.take k) := fun p m => by
  obtain ⟨q, mq, hl⟩ := cutAt_pre (b := l.drop k) m
  rw [List.take_append_drop] at mq
  exact Nat.le_trans hl (h q mq)
/-- a text of plain signs, not too long, its rows up to B signs -/
structure TB (B L : Nat) (t : Str) : Prop where
  ch : Ch (sg t)
  len : (sg t).length ≤ L
  row : Rn B (sg t)
theorem TB.ok {B L : Nat} {t : Str} (h : TB B L t) (hB : B ≤ 640) (hL : L ≤ 900000) : TOk 640 t := ⟨h.ch, Nat.le_trans h.len hL, Rn_mono h.row hB⟩
theorem TB.mono {B L B1 L1 : Nat} {t : Str} (h : TB B L t) (hB : B ≤ B1) (hL : L ≤ L1) : TB B1 L1 t := ⟨h.ch, Nat.le_trans h.len hL, Rn_mono h.row hB⟩
section
variable {C : Str → List D → Store → R D} {G : Str → Option D} {W : Nat} {ρ : Env} {S : Store}
theorem step {Q : Fl → Store → Prop} {s : Pyx.S} {ss : Ss} (P : Env → Store → Prop) (h : Ok (exS C G W s ρ S) fun fl S1 => ∃ ρ1, fl = .nx ρ1 ∧ P ρ1 S1) (k : ∀ ρ1 S1, P ρ1 S1 → Ok (exSs C G W ss ρ1 S1) Q) : Ok (exSs C G W (.cons s ss) ρ S) Q := by
  rw [Ok_scons]
  refine h.mono fun fl S1 ⟨ρ1, e, p⟩ => ?_
  subst e
  exact k ρ1 S1 p
variable {Q : D → Store → Prop}
theorem Ok_splitM {x y : Str} {s : Nat} {S0 : List Nat} (e : sg y = s :: S0) (hk : y.cps.all (· < 256) = true) (z : x.length ≤ 1000000) : Ok (mtD .split true (.str x) [.str y] S) Q ↔ Q (.ref S.length) (S ++ [.lst ((PySem.Txt.split x y).map .str)]) := by
  have h1 : (y.length == 0) = false := by rw [sg_len, e]; simp
  have h2 : x.length + 2 ≤ sizeLine := by rw [sz]; omega
  have h3 : ((PySem.Txt.split x y).all fun z => decide (z.length ≤ sizeLine)) = true := by
    rw [List.all_eq_true]
    intro w m
    have := split_len x y e hk w m
    rw [sz, decide_eq_true_eq]; omega
  have h4 : ((PySem.Txt.split x y).map D.str).length ≤ sizeLine := by
    rw [List.length_map, sz]
    have := split_num x y e hk
    omega
  simp only [mtD, splitD, h1, h2, h3, and_self, if_true, Ok_mkL, h4, true_and]
theorem join_ref {m : Bool} {y : Str} {l : Nat} {ws : List Str} (h : S[l]? = some (.lst (ws.map .str))) (hk : ∀ x ∈ ws, x.length ≤ 640) (hy : y.length = 1) (z : ws.length ≤ 10000) : Ok (mtD .join m (.str y) [.ref l] S) Q ↔ Q (.str (PySem.Txt.join y ws)) S := by
  have e : mtD .join m (.str y) [.ref l] S = mtD .join m (.str y) [.lst (ws.map .str)] S := by simp only [mtD, joinD, asQ, h]
  rw [e]
  exact Ok_join (k := 640) hk (by rw [hy, sz]; omega)
theorem join_lst {m : Bool} {y : Str} {ws : List Str} (hk : ∀ x ∈ ws, x.length ≤ 640) (hy : y.length = 1) (z : ws.length ≤ 10000) : Ok (mtD .join m (.str y) [.lst (ws.map .str)] S) Q ↔ Q (.str (PySem.Txt.join y ws)) S :=
  Ok_join (k := 640) hk (by rw [hy, sz]; omega)
theorem sl_to {l : Nat} {ws : List Str} {k : Nat} (h : S[l]? = some (.lst (ws.map .str))) (z : ws.length ≤ 10000) : slD false (.ref l) none (some (k : Int)) S = .ok (.lst ((ws.take k).map .str)) S := by
  simp only [slD, asQ, h, cut_to, mkL]
  rw [if_pos (by rw [List.length_take, List.length_map, sz]; omega), ← List.map_take]; rfl
theorem sl_from {l : Nat} {ws : List Str} {k : Nat} (h : S[l]? = some (.lst (ws.map .str))) (z : ws.length ≤ 10000) : slD false (.ref l) (some (k : Int)) none S = .ok (.lst ((ws.drop k).map .str)) S := by
  simp only [slD, asQ, h, cut_from, mkL]
  rw [if_pos (by rw [List.length_drop, List.length_map, sz]; omega), ← List.map_drop]; rfl
theorem bi_divmod (m : Bool) (i j : Int) : Ok (biD .divmod m [.int i, .int j] S) Q ↔ (0 < j ∧ j < 1073741824) ∧ Q (.tup [.int (i / j), .int (i % j)]) S := by
  simp only [biD, divmodD, Ok_ite, Ok_ok, Ok_stuck]
  by_cases h : 0 < j ∧ j < 1073741824 <;> simp [h]
theorem bi_int_int (m : Bool) (i : Int) : biD .int m [.int i] S = .ok (.int i) S := rfl
theorem bi_abs (m : Bool) (i : Int) : biD .abs m [.int i] S = .ok (.int (if i < 0 then -i else i)) S := rfl
end
end Pyx.Ty
end
section
/-! Refusals: try and raise, reading a list's text, and whether it is read as is due. -/
namespace Pyx.Ty
open PySem (Str sizeLine)
open TL
def b_read_list : Ss := (ssOf [(.asg (.var 1) (.ite (.isin (.var 0) [.str]) (.call "list_with_text" (esOf [(.var 0)])) (.lst false (esOf [])))), (.ite (.cmp .eq (.var 1) (.lst false (esOf []))) (ssOf [(.raise "InvalidText" (some "given") (esOf [(.var 0)]))]) (ssOf [])), (.ret (.ix (.var 1) (.con (.int 0))))])
structure LibRd (T : Str → Option Df) (G : Str → Option D) : Prop where
  t_read_list : T "read_list" = some ⟨1, 2, b_read_list, false⟩
def bh_l_same : Ss := (ssOf [(.ite (.isin (.var 0) [.tuple]) (ssOf [(.ret (.and (.isin (.var 1) [.tuple]) (.and (.cmp .eq .never .never) (.cmp .eq .never (.lst false (esOf []))))))]) (ssOf [])), (.ite (.or (.isin (.var 0) [.bool]) (.isin (.var 1) [.bool])) (ssOf [(.ret (.and (.isin (.var 0) [.bool]) (.and (.isin (.var 1) [.bool]) (.cmp .eq (.var 0) (.var 1)))))]) (ssOf [])), (.ret (.and (.cmp .eq (.isin (.var 0) [.int]) (.isin (.var 1) [.int])) (.and (.cmp .eq (.isin (.var 0) [.str]) (.isin (.var 1) [.str])) (.cmp .eq (.var 0) (.var 1)))))])
structure LibSH (T : Str → Option Df) : Prop where
  th_l_same : T "_law_same!" = some ⟨2, 3, bh_l_same, false⟩
section
variable {C : Str → List D → Store → R D} {G : Str → Option D} {W : Nat} {ρ : Env} {S S1 : Store}
@[simp] theorem Ok_xf {Q : D → Store → Prop} (sl : Nat) (f : Str) (cs : List Str) : Ok (evE C G (.xf sl f cs) ρ S) Q ↔ ∃ d, xfD cs f (ρ[sl]?.join) = some d ∧ Q d S := by simp only [evE, Ok_give]
@[simp] theorem Ok_xis {Q : D → Store → Prop} (sl : Nat) (ms : List (Str × Bool)) : Ok (evE C G (.xis sl ms) ρ S) Q ↔ ∃ b, xisD ms (ρ[sl]?.join) = some b ∧ Q (.bl b) S := by simp only [evE, Ok_bind, Ok_give, Ok_ok]
theorem Ok_tryx_ok {Q : Fl → Store → Prop} {k : Tk} {e : E} {ms : List (Str × Bool)} {sl : Nat} {h : Ss} {d : D} (he : evE C G e ρ S = .ok d S1) : Ok (exS C G W (.tryx k e ms sl h) ρ S) Q ↔ Ok (tkEnd k d ρ S1) Q := by simp only [exS, he]
theorem Ok_tryx_exc {Q : Fl → Store → Prop} {k : Tk} {e : E} {ms : List (Str × Bool)} {sl : Nat} {h : Ss} {x : Exc} (he : evE C G e ρ S = .exc x S1) (hm : ms.lookup x.cls = some true) (hs : sl < ρ.length) : Ok (exS C G W (.tryx k e ms sl h) ρ S) Q ↔ Ok (exSs C G W h (ρ.set sl (some (codeX x))) S1) fun fl S2 => Q (goneF sl fl) S2 := by
  simp only [exS, he, hm, if_pos hs, Ok_bind, Ok_noX, Ok_ok]
theorem exSs_ok {s : Pyx.S} {ss : Ss} {ρ1 : Env} (h : exS C G W s ρ S = .ok (.nx ρ1) S1) : exSs C G W (.cons s ss) ρ S = exSs C G W ss ρ1 S1 := by simp only [exSs, h]; rfl
theorem exSs_exc {s : Pyx.S} {ss : Ss} {x : Exc} (h : exS C G W s ρ S = .exc x S1) : exSs C G W (.cons s ss) ρ S = .exc x S1 := by simp only [exSs, h]; rfl
theorem exS_site {c : E} {a b : Ss} {k : Bool} (h : evE C G c ρ S = .ok (.bl k) S1) : exS C G W (.ite c a b) ρ S = if k then exSs C G W a ρ S1 else exSs C G W b ρ S1 := by simp only [exS, h]; rfl
theorem exS_raise {c f : Str} {e : E} {v : D} (h : evE C G e ρ S = .ok v S1) : exS C G W (.raise c (some f) (.cons e .nil)) ρ S = .exc ⟨c, some (f, v)⟩ S1 := by simp only [exS, evEs, h]; rfl
theorem evE_call1 {f : Str} {e : E} {v : D} (h : evE C G e ρ S = .ok v S1) : evE C G (.call f (.cons e .nil)) ρ S = C f [v] S1 := by simp only [evE, evEs, h]; rfl
theorem evE_var {i : Nat} {v : D} (h : ρ[i]?.join = some v) : evE C G (.var i) ρ S = .ok v S := by simp only [evE, h]; rfl
end
theorem callF_exc {T : Str → Option Df} {G : Str → Option D} {W n : Nat} {f : Str} {ds : List D} {S S1 : Store} {np nl : Nat} {b : Ss} {fz : Bool} {x : Exc} (h : T f = some ⟨np, nl, b, fz⟩) (l : ds.length = np) (e : exSs (callF T G W n) G W b (ds.map some ++ List.replicate (nl - np) none) S = .exc x S1) : callF T G W (n + 1) f ds S = .exc x S1 := by
  simp only [callF, h, if_pos l, e]; rfl
theorem ownRead_good {t : List Nat} {m : Int} {ps : List (List Int)} (h : ownRead t = some (m, ps)) : Good m ps := by
  unfold ownRead at h
  obtain ⟨r0, rs, e⟩ := cutAt_cons 10 t
  rw [e, ownRows_cons] at h
  split at h
  · rename_i hc
    obtain ⟨qs, e1, e2⟩ := Option.map_eq_some_iff.mp h
    cases e2
    obtain ⟨_, h1, h6⟩ := head_one.2 hc.2.2.2
    have hl := mapM_length e1
    rw [List.length_dropLast] at hl
    refine ⟨h1, h6, by have := hc.2.1; omega, fun p mp => ?_⟩
    obtain ⟨r, mr, er⟩ := mapM_mem e1 p mp
    unfold ownPack at er
    split at er
    · obtain ⟨e3, e4⟩ := Option.filter_eq_some_iff.mp er
      refine ⟨?_, fun x mx => ?_⟩
      · unfold ownRow at e3
        split at e3
        · rename_i hr
          cases e3
          rw [List.length_map]; exact hr.1
        · cases e3
      · have := List.all_eq_true.mp e4 x mx
        simpa using this
    · cases er
  · cases h
section
variable {T : Str → Option Df} {G : Str → Option D} {W n : Nat} {S : Store}
def rdR (S : Store) (s : Str) : Option (Int × List (List Int)) → R D
  | some q => .ok (stD q.1 q.2) S
  | none => .exc ⟨"InvalidText", some ("given", .str s)⟩ S
theorem cut_rows {text : Str} {B : Nat} (h : ∀ p ∈ cutAt 10 (sg text), p.length ≤ B) : ∀ l ∈ PySem.Txt.split (L2.cutS text none (some (-1))) (Str.ofString "\n"), l.length ≤ B := fun l m => by
  have m2 : sg l ∈ (PySem.Txt.split (L2.cutS text none (some (-1))) (Str.ofString "\n")).map sg := List.mem_map.mpr ⟨l, m, rfl⟩
  rw [cut_n, sg_cutS, cut_last, List.dropLast_eq_take] at m2
  rw [sg_len]
  exact Rn_take (l := sg text) (B := B) _ h _ m2
theorem ok_read_list (L : LibR T G) (V : LibV T G) (Rd : LibRd T G) {text : Str} (h : TOk 640 text) : callF T G W (n + 7) "read_list" [.str text] S = rdR S text (ownRead (sg text)) := by
  have lw : ∀ S, callF T G W (n + 6) "list_with_text" [.str text] S = .ok (resS (ownRead (sg text))) S := fun S => by
    rw [← readW_own]
    exact ok_list_with_text L V (by rw [sg_len]; have := h.len; omega) (cut_rows h.row)
  cases e : ownRead (sg text) with
  | some q =>
    apply eq_of_ok
    rw [Ok_callF Rd.t_read_list rfl]
    have h2 : ∀ S, eqD S (.lst [stD q.1 q.2]) (.lst []) = some false := fun S => by
      rw [eqD_lst (k := 3) (by simp [flatIs, flat_stD 0]) (by simp [flatIs]) (by decide)]
      simp [D.eqs]
    rw [e] at lw
    simp [b_read_list, esOf, ssOf, lw, resS, h2, atI_0, sz]
  | none =>
    rw [e] at lw
    refine callF_exc Rd.t_read_list rfl ?_
    have h1 : exS (callF T G W (n + 6)) G W (.asg (.var 1) (.ite (.isin (.var 0) [.str]) (.call "list_with_text" (.cons (.var 0) .nil)) (.lst false .nil))) [some (.str text), none] S = .ok (.nx [some (.str text), some (.lst [])]) S := by
      apply eq_of_ok
      simp [lw, resS]
    have h2 : evE (callF T G W (n + 6)) G (.cmp .eq (.var 1) (.lst false .nil)) [some (.str text), some (.lst [])] S = .ok (.bl true) S := by
      apply eq_of_ok
      simp [eq_nil, sz]
    show exSs (callF T G W (n + 6)) G W b_read_list [some (.str text), none] S = _
    simp only [b_read_list, ssOf, esOf]
    rw [exSs_ok h1]
    refine exSs_exc ?_
    rw [exS_site h2, if_pos rfl]
    refine exSs_exc ?_
    exact exS_raise (evE_var (by simp))
theorem same_hot (H : LibSH T) (s : Str) : callF T G W (n + 1) "_law_same!" [.str s, .str s] S = .ok (.bl true) S := by
  apply eq_of_ok
  rw [Ok_callF H.th_l_same rfl]
  simp [bh_l_same, esOf, ssOf]
end
end Pyx.Ty
end
section
namespace Pyx.K82
open PySem L2 Pyx
abbrev top (i : Nat) : Stmt := PySem.Challenge.pw_packtags_k82_whole_texts_of_lists_bent.main.body.getD i (.Pass ⟨0, 0, 0, 0⟩)
def b_is_whole : Ss := (ssOf [(.ret (.and (.isin (.var 0) [.int]) (.not (.isin (.var 0) [.bool]))))])
def b_is_between : Ss := (ssOf [(.ret (.and (.call "is_whole" (esOf [(.var 0)])) (.cmp2 .le .le (.var 1) (.var 0) (.var 2))))])
def b_is_tuple_of : Ss := (ssOf [(.ret (.and (.isin (.var 0) [.tuple]) (.cmp .eq (.bi .len false (esOf [(.var 0)])) (.var 1))))])
def b_are_between : Ss := (ssOf [(.ret (.and (.call "is_tuple_of" (esOf [(.var 0), (.var 1)])) (.bi .all false (esOf [(.comp false [4] (.call "is_between" (esOf [(.var 4), (.var 2), (.var 3)])) (.var 4) (.val (.var 0)) (esOf []))]))))])
def b_is_pack : Ss := (ssOf [(.ret (.call "are_between" (esOf [(.var 1), (.var 0), (.neg (.glob "MOST_IN_PACK")), (.glob "MOST_IN_PACK")])))])
def b_is_list_by : Ss := (ssOf [(.ite (.or (.not (.call "is_tuple_of" (esOf [(.var 0), (.con (.int 2))]))) (.not (.call "is_between" (esOf [(.ix (.var 0) (.glob "MANY")), (.con (.int 1)), (.glob "MOST_GOODS")])))) (ssOf [(.ret (.con (.bl false)))]) (ssOf [])), (.ite (.or (.not (.isin (.ix (.var 0) (.glob "PACKS")) [.tuple])) (.cmp .gt (.bi .len false (esOf [(.ix (.var 0) (.glob "PACKS"))])) (.glob "MOST_PACKS"))) (ssOf [(.ret (.con (.bl false)))]) (ssOf [])), (.ret (.bi .all false (esOf [(.comp false [1] (.call "is_pack" (esOf [(.ix (.var 0) (.glob "MANY")), (.var 1)])) (.var 1) (.val (.ix (.var 0) (.glob "PACKS"))) (esOf []))])))])
def b_is_figures : Ss := (ssOf [(.ite (.or (.cmp .eq (.var 0) (.con (.str ""))) (.bi .any false (esOf [(.comp false [1] (.cmp .notin (.var 1) (.glob "FIGURES")) (.var 1) (.val (.var 0)) (esOf []))]))) (ssOf [(.ret (.con (.bl false)))]) (ssOf [])), (.ret (.or (.cmp .eq (.var 0) (.con (.str "0"))) (.cmp .ne (.ix (.var 0) (.con (.int 0))) (.con (.str "0")))))])
def b_is_number_text : Ss := (ssOf [(.ite (.mt .startswith false (.var 0) (esOf [(.glob "MINUS")])) (ssOf [(.ret (.and (.call "is_figures" (esOf [(.sl false (.var 0) (.some (.con (.int 1))) .none)])) (.cmp .ne (.var 0) (.con (.str "-0")))))]) (ssOf [])), (.ret (.call "is_figures" (esOf [(.var 0)])))])
def b_read_numbers : Ss := (ssOf [(.ite (.not (.bi .all false (esOf [(.comp false [1] (.call "is_number_text" (esOf [(.var 1)])) (.var 1) (.val (.var 0)) (esOf []))]))) (ssOf [(.ret (.lst false (esOf [])))]) (ssOf [])), (.ret (.lst false (esOf [(.bi .tuple false (esOf [(.comp false [1] (.bi .int false (esOf [(.var 1)])) (.var 1) (.val (.var 0)) (esOf []))]))])))])
def b_read_line : Ss := (ssOf [(.asg (.var 2) (.mt .split false (.var 0) (esOf [(.glob "BLANK")]))), (.ret (.ite (.cmp .eq (.ix (.var 2) (.con (.int 0))) (.var 1)) (.call "read_numbers" (esOf [(.sl false (.var 2) (.some (.con (.int 1))) .none)])) (.lst false (esOf []))))])
def b_read_lines : Ss := (ssOf [(.asg (.tup (tgsOf [(.var 1), (.var 2)])) (.tup (esOf [(.call "read_line" (esOf [(.ix (.var 0) (.con (.int 0))), (.glob "GOODS_WORD")])), (.lst true (esOf []))]))), (.ite (.or (.cmp .eq (.var 1) (.lst false (esOf []))) (.cmp .ne (.bi .len false (esOf [(.ix (.var 1) (.con (.int 0)))])) (.con (.int 1)))) (ssOf [(.ret (.lst false (esOf [])))]) (ssOf [])), (.for (.var 3) (.val (.sl false (.var 0) (.some (.con (.int 1))) .none)) (ssOf [(.asg (.var 4) (.call "read_line" (esOf [(.var 3), (.glob "PACK_WORD")]))), (.ite (.cmp .eq (.var 4) (.lst false (esOf []))) (ssOf [(.ret (.lst false (esOf [])))]) (ssOf [])), (.expr (.mt .extend false (.var 2) (esOf [(.var 4)])))])), (.ret (.lst false (esOf [(.tup (esOf [(.ix (.ix (.var 1) (.con (.int 0))) (.con (.int 0))), (.bi .tuple false (esOf [(.var 2)]))]))])))])
def b_list_with_text : Ss := (ssOf [(.ite (.not (.mt .endswith false (.var 0) (esOf [(.glob "END")]))) (ssOf [(.ret (.lst false (esOf [])))]) (ssOf [])), (.ret (.comp false [1] (.var 1) (.var 1) (.val (.call "read_lines" (esOf [(.mt .split false (.sl false (.var 0) .none (.some (.neg (.con (.int 1))))) (esOf [(.glob "END")]))]))) (esOf [(.call "is_list_by" (esOf [(.var 1)]))])))])
def b_read_list : Ss := (ssOf [(.asg (.var 1) (.ite (.isin (.var 0) [.str]) (.call "list_with_text" (esOf [(.var 0)])) (.lst false (esOf [])))), (.ite (.cmp .eq (.var 1) (.lst false (esOf []))) (ssOf [(.raise "InvalidText" (some "given") (esOf [(.var 0)]))]) (ssOf [])), (.ret (.ix (.var 1) (.con (.int 0))))])
def b_l_pool : Ss := (ssOf [(.asg (.tup (tgsOf [(.var 2), (.var 3)])) (.tup (esOf [(.ite (.cmp .lt (.var 1) (.bi .len false (esOf [(.var 0)]))) (.bi .int false (esOf [(.ix (.var 0) (.var 1))])) (.bin .add (.bin .mul (.con (.int 70001)) (.var 1)) (.con (.int 3494)))), (.bin .add (.con (.int 825578)) (.bin .mul (.con (.int 5087)) (.var 1)))]))), (.for (.var 4) (.val (.sl false (.var 0) .none (.some (.con (.int 63))))) (ssOf [(.asg (.var 3) (.bin .mod (.bi .int false (esOf [(.bin .add (.bin .add (.bin .mul (.var 3) (.con (.int 48271))) (.bin .mod (.bi .int false (esOf [(.var 4)])) (.con (.int 2147483579)))) (.con (.int 1412)))])) (.con (.int 2147483579))))])), (.ret (.lst true (esOf [(.bin .mod (.bi .int false (esOf [(.bin .add (.var 3) (.bin .mul (.var 2) (.con (.int 1013))))])) (.con (.int 2147483579))), (.ite (.or (.cmp .lt (.var 2) (.con (.int 0))) (.cmp .ge (.var 2) (.bin .pow (.con (.int 10)) (.con (.int 18))))) (.bi .abs false (esOf [(.var 2)])) (.con (.int 0))), (.con (.int 0))])))])
def b_l_draw : Ss := (ssOf [(.ite (.cmp .gt (.ix (.var 0) (.con (.int 1))) (.con (.int 0))) (ssOf [(.asg (.tup (tgsOf [(.sub (.var 0) (.con (.int 1))), (.var 2)])) (.bi .divmod false (esOf [(.ix (.var 0) (.con (.int 1))), (.var 1)]))), (.ret (.var 2))]) (ssOf [])), (.asg (.sub (.var 0) (.con (.int 2))) (.bin .add (.ix (.var 0) (.con (.int 2))) (.con (.int 1)))), (.asg (.var 3) (.bi .int false (esOf [(.ix (.var 0) (.con (.int 0)))]))), (.asg (.sub (.var 0) (.con (.int 0))) (.bin .mod (.bi .int false (esOf [(.bin .add (.bin .add (.bin .mul (.var 3) (.bin .add (.bin .mod (.var 3) (.con (.int 20011))) (.con (.int 30011)))) (.bin .mul (.con (.int 70001)) (.ix (.var 0) (.con (.int 2))))) (.con (.int 9)))])) (.con (.int 2147483579)))), (.ret (.bin .mod (.bi .int false (esOf [(.bin .fdiv (.ix (.var 0) (.con (.int 0))) (.con (.int 128)))])) (.var 1)))])
def b_l_pick : Ss := (ssOf [(.ret (.ix (.var 1) (.call "_law_draw" (esOf [(.var 0), (.bi .len false (esOf [(.var 1)]))]))))])
def b_l_same : Ss := (ssOf [(.ite (.isin (.var 0) [.tuple]) (ssOf [(.ret (.and (.isin (.var 1) [.tuple]) (.and (.cmp .eq (.bi .len false (esOf [(.var 0)])) (.bi .len false (esOf [(.var 1)]))) (.cmp .eq (.comp false [2] (.var 2) (.var 2) (.rng (esOf [(.bi .len false (esOf [(.var 0)]))])) (esOf [(.not (.call "_law_same" (esOf [(.ix (.var 0) (.var 2)), (.ix (.var 1) (.var 2))])))])) (.lst false (esOf []))))))]) (ssOf [])), (.ite (.or (.isin (.var 0) [.bool]) (.isin (.var 1) [.bool])) (ssOf [(.ret (.and (.isin (.var 0) [.bool]) (.and (.isin (.var 1) [.bool]) (.cmp .eq (.var 0) (.var 1)))))]) (ssOf [])), (.ret (.and (.cmp .eq (.isin (.var 0) [.int]) (.isin (.var 1) [.int])) (.and (.cmp .eq (.isin (.var 0) [.str]) (.isin (.var 1) [.str])) (.cmp .eq (.var 0) (.var 1)))))])
def b_l_number : Ss := (ssOf [(.ite (.cmp .eq (.var 1) (.con (.int 0))) (ssOf [(.ret (.bin .sub (.call "_law_draw" (esOf [(.var 0), (.con (.int 7))])) (.con (.int 3))))]) (ssOf [])), (.ite (.cmp .eq (.var 1) (.con (.int 1))) (ssOf [(.ret (.bin .sub (.call "_law_draw" (esOf [(.var 0), (.con (.int 41))])) (.con (.int 20))))]) (ssOf [])), (.ret (.call "_law_pick" (esOf [(.var 0), (.lst false (esOf [(.bin .sub (.call "_law_draw" (esOf [(.var 0), (.con (.int 19999))])) (.con (.int 9999))), (.con (.int 9999)), (.neg (.con (.int 9999))), (.con (.int 0)), (.con (.int 1))]))])))])
def b_l_row : Ss := (ssOf [(.ret (.bi .tuple false (esOf [(.comp false [3] (.call "_law_number" (esOf [(.var 0), (.var 2)])) (.var 3) (.rng (esOf [(.var 1)])) (esOf []))])))])
def b_l_list : Ss := (ssOf [(.asg (.var 4) (.lst true (esOf []))), (.for (.var 5) (.rng (esOf [(.call "_law_draw" (esOf [(.var 0), (.bin .add (.var 2) (.con (.int 1)))]))])) (ssOf [(.asg (.var 6) (.call "_law_draw" (esOf [(.var 0), (.con (.int 6))]))), (.ite (.and (.cmp .eq (.var 6) (.con (.int 0))) (.cmp .ne (.var 4) (.lst false (esOf [])))) (ssOf [(.expr (.mt .append false (.var 4) (esOf [(.call "_law_pick" (esOf [(.var 0), (.var 4)]))])))]) (ssOf [(.ite (.cmp .eq (.var 6) (.con (.int 1))) (ssOf [(.expr (.mt .append false (.var 4) (esOf [(.bi .tuple false (esOf [(.comp false [7] (.con (.int 0)) (.var 7) (.rng (esOf [(.var 1)])) (esOf []))]))])))]) (ssOf [(.ite (.and (.cmp .eq (.var 6) (.con (.int 2))) (.cmp .gt (.bi .len false (esOf [(.var 4)])) (.con (.int 1)))) (ssOf [(.asg (.tup (tgsOf [(.var 8), (.var 9)])) (.tup (esOf [(.call "_law_pick" (esOf [(.var 0), (.var 4)])), (.call "_law_pick" (esOf [(.var 0), (.var 4)]))]))), (.asg (.var 10) (.bi .tuple false (esOf [(.comp false [11] (.bin .sub (.bin .mul (.con (.int 2)) (.ix (.var 8) (.var 11))) (.ix (.var 9) (.var 11))) (.var 11) (.rng (esOf [(.var 1)])) (esOf []))]))), (.expr (.mt .append false (.var 4) (esOf [(.ite (.cmp .lt (.bi .max false (esOf [(.comp false [12] (.bi .abs false (esOf [(.var 12)])) (.var 12) (.val (.var 10)) (esOf []))])) (.con (.int 10000))) (.var 10) (.var 8))])))]) (ssOf [(.expr (.mt .append false (.var 4) (esOf [(.call "_law_row" (esOf [(.var 0), (.var 1), (.var 3)]))])))]))]))]))])), (.ret (.tup (esOf [(.var 1), (.bi .tuple false (esOf [(.var 4)]))])))])
def b_l_figures : Ss := (ssOf [(.asg (.var 1) (.ite (.cmp .eq (.sl false (.var 0) .none (.some (.con (.int 1)))) (.con (.str "-"))) (.sl false (.var 0) (.some (.con (.int 1))) .none) (.var 0))), (.ite (.or (.cmp .eq (.var 1) (.con (.str ""))) (.or (.cmp .ne (.comp false [2] (.var 2) (.var 2) (.val (.var 1)) (esOf [(.cmp .notin (.var 2) (.con (.str "0123456789")))])) (.lst false (esOf []))) (.or (.and (.cmp .gt (.bi .len false (esOf [(.var 1)])) (.con (.int 1))) (.cmp .eq (.ix (.var 1) (.con (.int 0))) (.con (.str "0")))) (.cmp .eq (.var 0) (.con (.str "-0")))))) (ssOf [(.ret (.con .non))]) (ssOf [])), (.ret (.ite (.cmp .eq (.ix (.var 0) (.con (.int 0))) (.con (.str "-"))) (.neg (.bi .int false (esOf [(.var 1)]))) (.bi .int false (esOf [(.var 1)]))))])
def b_l_row_text : Ss := (ssOf [(.ret (.mt .join false (.con (.str " ")) (esOf [(.comp false [1] (.bi .str false (esOf [(.var 1)])) (.var 1) (.val (.var 0)) (esOf []))])))])
def b_l_read_row : Ss := (ssOf [(.asg (.var 2) (.comp false [3] (.call "_law_figures" (esOf [(.var 3)])) (.var 3) (.val (.mt .split false (.var 0) (esOf [(.con (.str " "))]))) (esOf []))), (.ret (.ite (.and (.cmp .eq (.bi .len false (esOf [(.var 2)])) (.var 1)) (.cmp .notin (.con .non) (.var 2))) (.bi .tuple false (esOf [(.var 2)])) (.con .non)))])
def b_l_list_rows : Ss := (ssOf [(.ret (.bin .add (.lst false (esOf [(.bin .add (.con (.str "goods ")) (.bi .str false (esOf [(.ix (.var 0) (.con (.int 0)))])))])) (.comp false [1] (.bin .add (.con (.str "pack ")) (.call "_law_row_text" (esOf [(.var 1)]))) (.var 1) (.val (.ix (.var 0) (.con (.int 1)))) (esOf []))))])
def b_l_read_list : Ss := (ssOf [(.asg (.var 1) (.mt .split false (.var 0) (esOf [(.con (.str "\n"))]))), (.ite (.or (.cmp .lt (.bi .len false (esOf [(.var 1)])) (.con (.int 2))) (.or (.cmp .gt (.bi .len false (esOf [(.var 1)])) (.con (.int 10))) (.or (.cmp .ne (.ix (.var 1) (.neg (.con (.int 1)))) (.con (.str ""))) (.cmp .notin (.ix (.var 1) (.con (.int 0))) (.comp false [2] (.bin .add (.con (.str "goods ")) (.bi .str false (esOf [(.var 2)]))) (.var 2) (.rng (esOf [(.con (.int 1)), (.con (.int 7))])) (esOf [])))))) (ssOf [(.ret (.con .non))]) (ssOf [])), (.asg (.tup (tgsOf [(.var 2), (.var 3)])) (.tup (esOf [(.bi .int false (esOf [(.sl false (.ix (.var 1) (.con (.int 0))) (.some (.con (.int 6))) .none)])), (.lst true (esOf []))]))), (.for (.var 4) (.val (.sl false (.var 1) (.some (.con (.int 1))) (.some (.neg (.con (.int 1)))))) (ssOf [(.asg (.var 5) (.ite (.cmp .eq (.sl false (.var 4) .none (.some (.con (.int 5)))) (.con (.str "pack "))) (.call "_law_read_row" (esOf [(.sl false (.var 4) (.some (.con (.int 5))) .none), (.var 2)])) (.con .non))), (.ite (.or (.cmp .is (.var 5) (.con .non)) (.cmp .ne (.comp false [6] (.var 6) (.var 6) (.val (.var 5)) (esOf [(.or (.cmp .gt (.var 6) (.con (.int 9999))) (.cmp .lt (.var 6) (.neg (.con (.int 9999)))))])) (.lst false (esOf [])))) (ssOf [(.ret (.con .non))]) (ssOf [])), (.expr (.mt .append false (.var 3) (esOf [(.var 5)])))])), (.ret (.tup (esOf [(.var 2), (.bi .tuple false (esOf [(.var 3)]))])))])
def b_l_is_read : Ss := (ssOf [(.asg (.var 1) (.call "_law_read_list" (esOf [(.var 0)]))), (.tryx (.asg 2) (.call "read_list" (esOf [(.var 0)])) [("InvalidText", true)] 3 (ssOf [(.ret (.and (.cmp .is (.var 1) (.con .non)) (.and (.xis 3 [("InvalidText", true)]) (.and (.not (.xis 3 [("InvalidText", false)])) (.call "_law_same!" (esOf [(.xf 3 "given" ["InvalidText"]), (.var 0)]))))))])), (.ret (.and (.cmp .isnot (.var 1) (.con .non)) (.call "_law_same" (esOf [(.var 2), (.var 1)]))))])
def b_l_turned : Ss := (ssOf [(.asg (.tup (tgsOf [(.var 2), (.var 3), (.var 4)])) (.tup (esOf [(.call "_law_draw" (esOf [(.var 0), (.con (.int 7))])), (.call "_law_draw" (esOf [(.var 0), (.bin .add (.bi .len false (esOf [(.var 1)])) (.con (.int 1)))])), (.call "_law_pick" (esOf [(.var 0), (.bi .list false (esOf [(.con (.str "  0123456789-+.packgods/\u0009\n"))]))]))]))), (.ite (.cmp .lt (.var 2) (.con (.int 3))) (ssOf [(.ret (.ix (.lst false (esOf [(.bin .add (.bin .add (.sl false (.var 1) .none (.some (.var 3))) (.var 4)) (.sl false (.var 1) (.some (.var 3)) .none)), (.bin .add (.sl false (.var 1) .none (.some (.var 3))) (.sl false (.var 1) (.some (.bin .add (.var 3) (.con (.int 1)))) .none)), (.bin .add (.bin .add (.sl false (.var 1) .none (.some (.var 3))) (.var 4)) (.sl false (.var 1) (.some (.bin .add (.var 3) (.con (.int 1)))) .none))])) (.var 2)))]) (ssOf [])), (.asg (.var 5) (.mt .split true (.var 1) (esOf [(.con (.str " "))]))), (.asg (.tup (tgsOf [(.var 6), (.var 7)])) (.tup (esOf [(.call "_law_draw" (esOf [(.var 0), (.bi .len false (esOf [(.var 5)]))])), (.call "_law_draw" (esOf [(.var 0), (.bi .len false (esOf [(.var 5)]))]))]))), (.ite (.cmp .eq (.var 2) (.con (.int 3))) (ssOf [(.ret (.mt .join false (.con (.str " ")) (esOf [(.bin .add (.sl false (.var 5) .none (.some (.var 6))) (.sl false (.var 5) (.some (.bin .add (.var 6) (.con (.int 1)))) .none))])))]) (ssOf [])), (.ite (.cmp .eq (.var 2) (.con (.int 4))) (ssOf [(.ret (.mt .join false (.con (.str " ")) (esOf [(.bin .add (.bin .add (.sl false (.var 5) .none (.some (.var 6))) (.lst false (esOf [(.ix (.var 5) (.var 7))]))) (.sl false (.var 5) (.some (.var 6)) .none))])))]) (ssOf [])), (.ite (.cmp .eq (.var 2) (.con (.int 5))) (ssOf [(.asg (.tup (tgsOf [(.sub (.var 5) (.var 6)), (.sub (.var 5) (.var 7))])) (.tup (esOf [(.ix (.var 5) (.var 7)), (.ix (.var 5) (.var 6))]))), (.ret (.mt .join false (.con (.str " ")) (esOf [(.var 5)])))]) (ssOf [])), (.asg (.var 8) (.lst false (esOf [(.con (.str "0")), (.con (.str "-0")), (.con (.str "00")), (.con (.str "01")), (.con (.str "-01")), (.con (.str "+1")), (.con (.str "1.0")), (.con (.str "9999")), (.con (.str "10000")), (.con (.str "-9999")), (.con (.str "-10000")), (.con (.str "--1")), (.con (.str "1-")), (.con (.str "pack")), (.con (.str "goods")), (.con (.str "")), (.con (.str "x")), (.con (.str "1/1")), (.con (.str "7")), (.con (.str "6"))]))), (.ret (.mt .join false (.con (.str " ")) (esOf [(.bin .add (.bin .add (.sl false (.var 5) .none (.some (.var 6))) (.lst false (esOf [(.call "_law_pick" (esOf [(.var 0), (.var 8)]))]))) (.sl false (.var 5) (.some (.bin .add (.var 6) (.con (.int 1)))) .none))])))])
def b_l_bent : Ss := (ssOf [(.asg (.var 2) (.mt .split true (.var 1) (esOf [(.con (.str "\n"))]))), (.asg (.tup (tgsOf [(.var 3), (.var 4), (.var 5)])) (.tup (esOf [(.call "_law_draw" (esOf [(.var 0), (.con (.int 8))])), (.call "_law_draw" (esOf [(.var 0), (.bi .len false (esOf [(.var 2)]))])), (.call "_law_draw" (esOf [(.var 0), (.bi .len false (esOf [(.var 2)]))]))]))), (.ite (.cmp .eq (.var 3) (.con (.int 0))) (ssOf [(.ret (.sl false (.var 1) .none (.some (.call "_law_draw" (esOf [(.var 0), (.bin .add (.bi .len false (esOf [(.var 1)])) (.con (.int 1)))])))))]) (ssOf [])), (.ite (.cmp .eq (.var 3) (.con (.int 1))) (ssOf [(.ret (.mt .join false (.con (.str "\n")) (esOf [(.bin .add (.sl false (.var 2) .none (.some (.var 4))) (.sl false (.var 2) (.some (.bin .add (.var 4) (.con (.int 1)))) .none))])))]) (ssOf [])), (.ite (.cmp .eq (.var 3) (.con (.int 2))) (ssOf [(.ret (.mt .join false (.con (.str "\n")) (esOf [(.bin .add (.bin .add (.sl false (.var 2) .none (.some (.var 4))) (.lst false (esOf [(.ix (.var 2) (.var 5))]))) (.sl false (.var 2) (.some (.var 4)) .none))])))]) (ssOf [])), (.ite (.cmp .eq (.var 3) (.con (.int 3))) (ssOf [(.asg (.tup (tgsOf [(.sub (.var 2) (.var 4)), (.sub (.var 2) (.var 5))])) (.tup (esOf [(.ix (.var 2) (.var 5)), (.ix (.var 2) (.var 4))]))), (.ret (.mt .join false (.con (.str "\n")) (esOf [(.var 2)])))]) (ssOf [])), (.ret (.mt .join false (.con (.str "\n")) (esOf [(.bin .add (.bin .add (.sl false (.var 2) .none (.some (.var 4))) (.lst false (esOf [(.call "_law_turned" (esOf [(.var 0), (.ix (.var 2) (.var 4))]))]))) (.sl false (.var 2) (.some (.bin .add (.var 4) (.con (.int 1)))) .none))])))])
def b_l_bounds_right : Ss := (ssOf [(.asg (.var 1) (.bin .add (.con (.int 1)) (.call "_law_draw" (esOf [(.var 0), (.con (.int 6))])))), (.asg (.tup (tgsOf [(.var 2), (.var 3)])) (.tup (esOf [(.bin .add (.bin .add (.con (.str "goods ")) (.bi .str false (esOf [(.var 1)]))) (.con (.str "\n"))), (.bin .add (.bin .add (.con (.str "pack ")) (.call "_law_row_text" (esOf [(.comp false [4] (.bin .sub (.call "_law_draw" (esOf [(.var 0), (.con (.int 9))])) (.con (.int 4))) (.var 4) (.rng (esOf [(.var 1)])) (esOf []))]))) (.con (.str "\n")))]))), (.asg (.var 5) (.lst true (esOf [(.bin .add (.var 2) (.bin .mul (.var 3) (.con (.int 8)))), (.bin .add (.var 2) (.bin .mul (.var 3) (.con (.int 9)))), (.var 2), (.sl false (.var 2) .none (.some (.neg (.con (.int 1))))), (.bin .add (.con (.str "\n")) (.var 2)), (.bin .add (.var 2) (.con (.str "\n"))), (.bin .add (.bin .add (.var 2) (.var 3)) (.var 2)), (.bin .add (.var 3) (.var 2)), (.var 3), (.bin .add (.var 2) (.sl false (.var 3) .none (.some (.neg (.con (.int 1)))))), (.bin .add (.bin .add (.bin .add (.var 2) (.var 3)) (.con (.str "\n"))) (.var 3))]))), (.for (.var 6) (.val (.lst false (esOf [(.con (.str "9999")), (.con (.str "-9999")), (.con (.str "10000")), (.con (.str "-10000")), (.con (.str "-0")), (.con (.str "00")), (.con (.str "0")), (.con (.str "+0")), (.con (.str "1 ")), (.con (.str " 1")), (.con (.str "0x1")), (.con (.str "1_0")), (.con (.str "1e1"))]))) (ssOf [(.expr (.mt .append false (.var 5) (esOf [(.bin .add (.bin .add (.bin .add (.var 2) (.con (.str "pack "))) (.mt .join false (.con (.str " ")) (esOf [(.bin .add (.bin .mul (.lst false (esOf [(.con (.str "5"))])) (.bin .sub (.var 1) (.con (.int 1)))) (.lst false (esOf [(.var 6)])))]))) (.con (.str "\n")))])))])), (.for (.var 6) (.val (.lst false (esOf [(.con (.str "0")), (.con (.str "1")), (.con (.str "6")), (.con (.str "7")), (.con (.str "-1")), (.con (.str "01")), (.con (.str "1 1")), (.con (.str "")), (.con (.str "two")), (.con (.str "1 "))]))) (ssOf [(.expr (.mt .append false (.var 5) (esOf [(.bin .add (.bin .add (.con (.str "goods ")) (.var 6)) (.con (.str "\n")))])))])), (.asg (.var 5) (.bin .add (.var 5) (.lst false (esOf [(.bin .add (.var 2) (.con (.str "pack\n"))), (.bin .add (.var 2) (.con (.str "pack \n"))), (.bin .add (.bin .add (.var 2) (.con (.str "Pack"))) (.sl false (.var 3) (.some (.con (.int 4))) .none)), (.bin .add (.bin .add (.var 2) (.con (.str "pack  "))) (.sl false (.var 3) (.some (.con (.int 5))) .none)), (.bin .add (.bin .add (.var 2) (.con (.str " "))) (.var 3)), (.bin .add (.bin .add (.var 2) (.sl false (.var 3) .none (.some (.neg (.con (.int 1)))))) (.con (.str " \n"))), (.bin .add (.bin .add (.var 2) (.con (.str "packs"))) (.sl false (.var 3) (.some (.con (.int 4))) .none))])))), (.ite (.or (.cmp .is (.call "_law_read_list" (esOf [(.ix (.var 5) (.con (.int 0)))])) (.con .non)) (.or (.cmp .isnot (.call "_law_read_list" (esOf [(.ix (.var 5) (.con (.int 1)))])) (.con .non)) (.cmp .is (.call "_law_read_list" (esOf [(.var 2)])) (.con .non)))) (ssOf [(.ret (.con (.bl false)))]) (ssOf [])), (.ret (.cmp .eq (.comp false [7] (.var 7) (.var 7) (.val (.var 5)) (esOf [(.not (.call "_law_is_read" (esOf [(.var 7)])))])) (.lst false (esOf []))))])
def b_l_right : Ss := (ssOf [(.for (.var 1) (.rng (esOf [(.con (.int 3))])) (ssOf [(.asg (.var 2) (.call "_law_list" (esOf [(.var 0), (.ix (.lst false (esOf [(.con (.int 1)), (.con (.int 3)), (.con (.int 6))])) (.var 1)), (.con (.int 8)), (.call "_law_draw" (esOf [(.var 0), (.con (.int 3))]))]))), (.asg (.var 3) (.mt .join false (.con (.str "")) (esOf [(.comp false [4] (.bin .add (.var 4) (.con (.str "\n"))) (.var 4) (.val (.call "_law_list_rows" (esOf [(.var 2)]))) (esOf []))]))), (.ite (.or (.not (.call "_law_is_read" (esOf [(.var 3)]))) (.cmp .ne (.call "_law_read_list" (esOf [(.var 3)])) (.var 2))) (ssOf [(.ret (.con (.bl false)))]) (ssOf [])), (.for (.var 5) (.rng (esOf [(.con (.int 18))])) (ssOf [(.asg (.var 6) (.call "_law_bent" (esOf [(.var 0), (.var 3)]))), (.ite (.or (.not (.call "_law_is_read" (esOf [(.var 6)]))) (.not (.call "_law_is_read" (esOf [(.call "_law_bent" (esOf [(.var 0), (.var 6)]))])))) (ssOf [(.ret (.con (.bl false)))]) (ssOf []))]))])), (.for (.var 3) (.val (.lst false (esOf [(.con (.str "")), (.con (.str " ")), (.con (.str "\n")), (.con (.str "goods")), (.con (.str "goods\n")), (.con (.str "goods \n")), (.con (.str "goods 1")), (.con (.str "goods 1\n\n")), (.con (.str "Goods 1\n")), (.con (.str "goods  1\n")), (.con (.str "pack 1\n")), (.con (.str "goods 2\npack 1\n")), (.con (.str "goods 1\npack 1 2\n"))]))) (ssOf [(.ite (.or (.cmp .isnot (.call "_law_read_list" (esOf [(.var 3)])) (.con .non)) (.not (.call "_law_is_read" (esOf [(.var 3)])))) (ssOf [(.ret (.con (.bl false)))]) (ssOf []))])), (.ret (.call "_law_bounds_right" (esOf [(.var 0)])))])
def b_law : Ss := (ssOf [(.for (.var 1) (.rng (esOf [(.bi .max false (esOf [(.con (.int 2)), (.bi .min false (esOf [(.bi .len false (esOf [(.var 0)])), (.con (.int 3))]))]))])) (ssOf [(.ite (.not (.call "_law_right" (esOf [(.call "_law_pool" (esOf [(.var 0), (.var 1)]))]))) (ssOf [(.ret (.con (.bl false)))]) (ssOf []))])), (.ret (.con (.bl true)))])
def bh_l_same : Ss := (ssOf [(.ite (.isin (.var 0) [.tuple]) (ssOf [(.ret (.and (.isin (.var 1) [.tuple]) (.and (.cmp .eq .never .never) (.cmp .eq .never (.lst false (esOf []))))))]) (ssOf [])), (.ite (.or (.isin (.var 0) [.bool]) (.isin (.var 1) [.bool])) (ssOf [(.ret (.and (.isin (.var 0) [.bool]) (.and (.isin (.var 1) [.bool]) (.cmp .eq (.var 0) (.var 1)))))]) (ssOf [])), (.ret (.and (.cmp .eq (.isin (.var 0) [.int]) (.isin (.var 1) [.int])) (.and (.cmp .eq (.isin (.var 0) [.str]) (.isin (.var 1) [.str])) (.cmp .eq (.var 0) (.var 1)))))])
abbrev r_is_whole : Row := ⟨"is_whole", "is_whole", "is_whole", top 5, ["value"], ["value"], [], b_is_whole, false, false⟩
abbrev r_is_between : Row := ⟨"is_between", "is_between", "is_between", top 6, ["value", "low", "high"], ["value", "low", "high"], [], b_is_between, false, false⟩
abbrev r_is_tuple_of : Row := ⟨"is_tuple_of", "is_tuple_of", "is_tuple_of", top 7, ["value", "many"], ["value", "many"], [], b_is_tuple_of, false, false⟩
abbrev r_are_between : Row := ⟨"are_between", "are_between", "are_between", top 8, ["value", "many", "low", "high"], ["value", "many", "low", "high", "each"], [], b_are_between, false, false⟩
abbrev r_is_pack : Row := ⟨"is_pack", "is_pack", "is_pack", top 15, ["many", "value"], ["many", "value"], [], b_is_pack, false, false⟩
abbrev r_is_list_by : Row := ⟨"is_list_by", "is_list_by", "is_list_by", top 16, ["value"], ["value", "each"], [], b_is_list_by, false, false⟩
abbrev r_is_figures : Row := ⟨"is_figures", "is_figures", "is_figures", top 24, ["text"], ["text", "sign"], [], b_is_figures, false, false⟩
abbrev r_is_number_text : Row := ⟨"is_number_text", "is_number_text", "is_number_text", top 25, ["text"], ["text"], [], b_is_number_text, false, false⟩
abbrev r_read_numbers : Row := ⟨"read_numbers", "read_numbers", "read_numbers", top 26, ["words"], ["words", "word"], [], b_read_numbers, false, false⟩
abbrev r_read_line : Row := ⟨"read_line", "read_line", "read_line", top 27, ["line", "word"], ["line", "word", "words"], [], b_read_line, false, false⟩
abbrev r_read_lines : Row := ⟨"read_lines", "read_lines", "read_lines", top 28, ["lines"], ["lines", "many", "packs", "line", "found"], [], b_read_lines, false, false⟩
abbrev r_list_with_text : Row := ⟨"list_with_text", "list_with_text", "list_with_text", top 29, ["text"], ["text", "found"], [], b_list_with_text, false, false⟩
abbrev r_read_list : Row := ⟨"read_list", "read_list", "read_list", top 31, ["text"], ["text", "found"], [], b_read_list, false, false⟩
abbrev r_l_pool : Row := ⟨"_law_pool", "_law_pool", "_law_pool", top 33, ["script", "lap"], ["script", "lap", "own", "stirred", "cell"], [], b_l_pool, false, false⟩
abbrev r_l_draw : Row := ⟨"_law_draw", "_law_draw", "_law_draw", top 34, ["pool", "many"], ["pool", "many", "figure", "held"], [], b_l_draw, false, false⟩
abbrev r_l_pick : Row := ⟨"_law_pick", "_law_pick", "_law_pick", top 35, ["pool", "some"], ["pool", "some"], [], b_l_pick, false, false⟩
abbrev r_l_same : Row := ⟨"_law_same", "_law_same", "_law_same", top 36, ["one", "other"], ["one", "other", "k"], [], b_l_same, false, false⟩
abbrev r_l_number : Row := ⟨"_law_number", "_law_number", "_law_number", top 37, ["pool", "way"], ["pool", "way"], [], b_l_number, false, false⟩
abbrev r_l_row : Row := ⟨"_law_row", "_law_row", "_law_row", top 38, ["pool", "many", "way"], ["pool", "many", "way", "lap"], [], b_l_row, false, false⟩
abbrev r_l_list : Row := ⟨"_law_list", "_law_list", "_law_list", top 39, ["pool", "many", "count", "way"], ["pool", "many", "count", "way", "packs", "lap", "kind", "good", "one", "other", "some", "k", "each"], [], b_l_list, false, false⟩
abbrev r_l_figures : Row := ⟨"_law_figures", "_law_figures", "_law_figures", top 40, ["word"], ["word", "plain", "sign"], [], b_l_figures, false, false⟩
abbrev r_l_row_text : Row := ⟨"_law_row_text", "_law_row_text", "_law_row_text", top 41, ["row"], ["row", "each"], [], b_l_row_text, false, false⟩
abbrev r_l_read_row : Row := ⟨"_law_read_row", "_law_read_row", "_law_read_row", top 42, ["text", "many"], ["text", "many", "row", "word"], [], b_l_read_row, false, false⟩
abbrev r_l_list_rows : Row := ⟨"_law_list_rows", "_law_list_rows", "_law_list_rows", top 43, ["stock"], ["stock", "pack"], [], b_l_list_rows, false, false⟩
abbrev r_l_read_list : Row := ⟨"_law_read_list", "_law_read_list", "_law_read_list", top 44, ["text"], ["text", "rows", "many", "packs", "row", "pack", "each"], [], b_l_read_list, false, false⟩
abbrev r_l_is_read : Row := ⟨"_law_is_read", "_law_is_read", "_law_is_read", top 45, ["text"], ["text", "due", "told", "e"], [], b_l_is_read, false, false⟩
abbrev r_l_turned : Row := ⟨"_law_turned", "_law_turned", "_law_turned", top 46, ["pool", "row"], ["pool", "row", "way", "at", "sign", "words", "k", "j", "some"], [], b_l_turned, false, false⟩
abbrev r_l_bent : Row := ⟨"_law_bent", "_law_bent", "_law_bent", top 47, ["pool", "text"], ["pool", "text", "rows", "way", "k", "j"], [], b_l_bent, false, false⟩
abbrev r_l_bounds_right : Row := ⟨"_law_bounds_right", "_law_bounds_right", "_law_bounds_right", top 48, ["pool"], ["pool", "many", "head", "one", "good", "some", "word", "text"], [], b_l_bounds_right, false, false⟩
abbrev r_l_right : Row := ⟨"_law_right", "_law_right", "_law_right", top 49, ["pool"], ["pool", "turn", "stock", "text", "row", "each", "bent"], [], b_l_right, false, false⟩
abbrev r_law : Row := ⟨"law", "law", "law", top 50, ["script"], ["script", "turn"], [], b_law, false, false⟩
abbrev rh_l_same : Row := ⟨"_law_same!", "_law_same", "_law_same", top 36, ["one", "other"], ["one", "other", "k"], [], bh_l_same, false, true⟩
abbrev re_InvalidText : Row := ⟨"InvalidText.__init__", "__init__", "InvalidText.__init__", inC (top 3) 0, ["self", "given"], ["self", "given"], [], .nil, false, false⟩
def rows : List Row := [r_is_whole, r_is_between, r_is_tuple_of, r_are_between, r_is_pack, r_is_list_by, r_is_figures, r_is_number_text, r_read_numbers, r_read_line, r_read_lines, r_list_with_text, r_read_list, r_l_pool, r_l_draw, r_l_pick, r_l_same, r_l_number, r_l_row, r_l_list, r_l_figures, r_l_row_text, r_l_read_row, r_l_list_rows, r_l_read_list, r_l_is_read, r_l_turned, r_l_bent, r_l_bounds_right, r_l_right, r_law]
def mrows : List Row := [rh_l_same]
def crows : List CRow := []
def heads : List (Str × List Str × List (Nat × List Str)) := [hdr "is_whole" ["value"] [], hdr "is_between" ["value", "low", "high"] [], hdr "is_tuple_of" ["value", "many"] [], hdr "are_between" ["value", "many", "low", "high"] [], hdr "is_pack" ["many", "value"] [], hdr "is_list_by" ["value"] [], hdr "is_figures" ["text"] [], hdr "is_number_text" ["text"] [], hdr "read_numbers" ["words"] [], hdr "read_line" ["line", "word"] [], hdr "read_lines" ["lines"] [], hdr "list_with_text" ["text"] [], hdr "read_list" ["text"] [], hdr "_law_pool" ["script", "lap"] [], hdr "_law_draw" ["pool", "many"] [], hdr "_law_pick" ["pool", "some"] [], hdr "_law_same" ["one", "other"] [], hdr "_law_number" ["pool", "way"] [], hdr "_law_row" ["pool", "many", "way"] [], hdr "_law_list" ["pool", "many", "count", "way"] [], hdr "_law_figures" ["word"] [], hdr "_law_row_text" ["row"] [], hdr "_law_read_row" ["text", "many"] [], hdr "_law_list_rows" ["stock"] [], hdr "_law_read_list" ["text"] [], hdr "_law_is_read" ["text"] [], hdr "_law_turned" ["pool", "row"] [], hdr "_law_bent" ["pool", "text"] [], hdr "_law_bounds_right" ["pool"] [], hdr "_law_right" ["pool"] [], hdr "law" ["script"] []]
def glob : List (Str × D) := [glv "MOST_GOODS" (.int 6), glv "MOST_PACKS" (.int 8), glv "MOST_IN_PACK" (.int 9999), glv "MANY" (.int 0), glv "PACKS" (.int 1), glv "FIGURES" (.str "0123456789"), glv "BLANK" (.str " "), glv "END" (.str "\n"), glv "MINUS" (.str "-"), glv "GOODS_WORD" (.str "goods"), glv "PACK_WORD" (.str "pack")]
def bls : List Str := ["isinstance", "bool", "int", "len", "tuple", "all", "any", "str", "abs", "divmod", "range", "max", "list", "min"]
def mus : List (Nat × Nat) := [(58, 52), (82, 11), (108, 12), (138, 37), (156, 12), (168, 11), (183, 11)]
def dks : List (Nat × Nat) := []
def ers : List (Str × Str) := [("InvalidText", "given")]
def xis : List (Str × List (Str × Bool)) := [("NotAList", [("InvalidText", false)]), ("InvalidText", [("InvalidText", true)])]
def xms : List (Str × List (Str × Bool)) := [("PackError", [("InvalidText", true)])]
def hps : List (Str × List Str) := [("_law_same", ["one", "other"])]
def pr : Pr := mkPr heads glob bls mus crows dks ers xis xms hps
theorem pr_eq : pr = mkPr (hdOf rows) glob bls mus crows dks ers xis xms hps := rfl
theorem se_InvalidText : re_InvalidText.scopeOk = true := by decide +kernel
theorem be_InvalidText : isInit "self" "given" (defBody re_InvalidText.st) = true := by decide +kernel
theorem hk_l_same : hkey "_law_same" = "_law_same!" := by decide +kernel
theorem keys : keysOk (rows ++ mrows) = true := by decide +kernel
theorem scopes : (rows ++ mrows).all Row.scopeOk = true := by decide +kernel
theorem texts : (rows ++ mrows).all (Row.bodyOk pr 60) = true := by decide +kernel
def tab : Str → Option Df := tabOf (rows ++ mrows)
theorem t_is_whole : tab "is_whole" = some ⟨1, 1, b_is_whole, false⟩ := rfl
theorem t_is_between : tab "is_between" = some ⟨3, 3, b_is_between, false⟩ := rfl
theorem t_is_tuple_of : tab "is_tuple_of" = some ⟨2, 2, b_is_tuple_of, false⟩ := rfl
theorem t_are_between : tab "are_between" = some ⟨4, 5, b_are_between, false⟩ := rfl
theorem t_is_pack : tab "is_pack" = some ⟨2, 2, b_is_pack, false⟩ := rfl
theorem t_is_list_by : tab "is_list_by" = some ⟨1, 2, b_is_list_by, false⟩ := rfl
theorem t_is_figures : tab "is_figures" = some ⟨1, 2, b_is_figures, false⟩ := rfl
theorem t_is_number_text : tab "is_number_text" = some ⟨1, 1, b_is_number_text, false⟩ := rfl
theorem t_read_numbers : tab "read_numbers" = some ⟨1, 2, b_read_numbers, false⟩ := rfl
theorem t_read_line : tab "read_line" = some ⟨2, 3, b_read_line, false⟩ := rfl
theorem t_read_lines : tab "read_lines" = some ⟨1, 5, b_read_lines, false⟩ := rfl
theorem t_list_with_text : tab "list_with_text" = some ⟨1, 2, b_list_with_text, false⟩ := rfl
theorem t_read_list : tab "read_list" = some ⟨1, 2, b_read_list, false⟩ := rfl
theorem t_l_pool : tab "_law_pool" = some ⟨2, 5, b_l_pool, false⟩ := rfl
theorem t_l_draw : tab "_law_draw" = some ⟨2, 4, b_l_draw, false⟩ := rfl
theorem t_l_pick : tab "_law_pick" = some ⟨2, 2, b_l_pick, false⟩ := rfl
theorem t_l_same : tab "_law_same" = some ⟨2, 3, b_l_same, false⟩ := rfl
theorem t_l_number : tab "_law_number" = some ⟨2, 2, b_l_number, false⟩ := rfl
theorem t_l_row : tab "_law_row" = some ⟨3, 4, b_l_row, false⟩ := rfl
theorem t_l_list : tab "_law_list" = some ⟨4, 13, b_l_list, false⟩ := rfl
theorem t_l_figures : tab "_law_figures" = some ⟨1, 3, b_l_figures, false⟩ := rfl
theorem t_l_row_text : tab "_law_row_text" = some ⟨1, 2, b_l_row_text, false⟩ := rfl
theorem t_l_read_row : tab "_law_read_row" = some ⟨2, 4, b_l_read_row, false⟩ := rfl
theorem t_l_list_rows : tab "_law_list_rows" = some ⟨1, 2, b_l_list_rows, false⟩ := rfl
theorem t_l_read_list : tab "_law_read_list" = some ⟨1, 7, b_l_read_list, false⟩ := rfl
theorem t_l_is_read : tab "_law_is_read" = some ⟨1, 4, b_l_is_read, false⟩ := rfl
theorem t_l_turned : tab "_law_turned" = some ⟨2, 9, b_l_turned, false⟩ := rfl
theorem t_l_bent : tab "_law_bent" = some ⟨2, 6, b_l_bent, false⟩ := rfl
theorem t_l_bounds_right : tab "_law_bounds_right" = some ⟨1, 8, b_l_bounds_right, false⟩ := rfl
theorem t_l_right : tab "_law_right" = some ⟨1, 7, b_l_right, false⟩ := rfl
theorem t_law : tab "law" = some ⟨1, 2, b_law, false⟩ := rfl
theorem th_l_same : tab "_law_same!" = some ⟨2, 3, bh_l_same, false⟩ := rfl
theorem g_MOST_GOODS : pr.gl "MOST_GOODS" = some (.int 6) := rfl
theorem g_MOST_PACKS : pr.gl "MOST_PACKS" = some (.int 8) := rfl
theorem g_MOST_IN_PACK : pr.gl "MOST_IN_PACK" = some (.int 9999) := rfl
theorem g_MANY : pr.gl "MANY" = some (.int 0) := rfl
theorem g_PACKS : pr.gl "PACKS" = some (.int 1) := rfl
theorem g_FIGURES : pr.gl "FIGURES" = some (.str "0123456789") := rfl
theorem g_BLANK : pr.gl "BLANK" = some (.str " ") := rfl
theorem g_END : pr.gl "END" = some (.str "\n") := rfl
theorem g_MINUS : pr.gl "MINUS" = some (.str "-") := rfl
theorem g_GOODS_WORD : pr.gl "GOODS_WORD" = some (.str "goods") := rfl
theorem g_PACK_WORD : pr.gl "PACK_WORD" = some (.str "pack") := rfl
end Pyx.K82
end
section
namespace Pyx.K82
open PySem (Str sizeLine)
open Pyx Pyx.Ty TL
/-- what the calls of the bending defs give -/
structure Low (C : Str → List D → Store → R D) (l : Nat) : Prop where
  draw : ∀ (S : Store) (m : Int), Pool S l → 0 < m → m < 1073741824 → Ok (C "_law_draw" [.ref l, .int m] S) fun d S1 => ∃ r : Nat, d = .int r ∧ (r : Int) < m ∧ Mv S l S1
  pick : ∀ (S : Store) (d : D) (ds : List D), Pool S l → Items S l d ds → ds ≠ [] → ds.length < 1073741824 → Ok (C "_law_pick" [.ref l, d] S) fun e S1 => e ∈ ds ∧ Mv S l S1
/-- a word or a line by itself -/
def Wd (B : Nat) (s : Str) : Prop := s.length ≤ B ∧ Ch (sg s)
theorem Wd.app {a b : Nat} {s t : Str} (h : Wd a s) (k : Wd b t) : Wd (a + b) (s ++ t) := ⟨by rw [len_app]; have := h.1; have := k.1; omega, by rw [sg_app]; exact Ch_app h.2 k.2⟩
theorem Wd.mono {a b : Nat} {s : Str} (h : Wd a s) (k : a ≤ b) : Wd b s := ⟨Nat.le_trans h.1 k, h.2⟩
theorem cutS_to (s : Str) (k : Nat) : sg (L2.cutS s none (some (k : Int))) = (sg s).take k := by rw [sg_cutS, cut_to]
theorem cutS_from (s : Str) (k : Nat) : sg (L2.cutS s (some (k : Int)) none) = (sg s).drop k := by rw [sg_cutS, cut_from]
theorem signs_eq : signsD (Str.ofString "  0123456789-+.packgods/\u0009\n") = (sg (Str.ofString "  0123456789-+.packgods/\u0009\n")).map sgnD := rfl
theorem signs_ch : Ch (sg (Str.ofString "  0123456789-+.packgods/\u0009\n")) := by
  have : (sg (Str.ofString "  0123456789-+.packgods/\u0009\n")).all (fun c => decide (c < 1000)) = true := by decide +kernel
  intro c m
  simpa using List.all_eq_true.mp this c m
theorem signs_len : (sg (Str.ofString "  0123456789-+.packgods/\u0009\n")).length = 26 := by decide +kernel
theorem Wd_join {y : Str} {c : Nat} {ws : List Str} {B : Nat} (e : sg y = [c]) (hc : c < 1000) (h : ∀ w ∈ ws, Ch (sg w)) (k : tot (ws.map sg) ≤ B) : Wd B (PySem.Txt.join y ws) := by
  refine ⟨?_, ?_⟩
  · rw [sg_len, sg_join, e]
    exact Nat.le_trans (len_join _ _) k
  · rw [sg_join, e]
    exact Ch_join hc fun p m => by
      obtain ⟨w, mw, rfl⟩ := List.mem_map.mp m
      exact h w mw
section
variable {C : Str → List D → Store → R D} {G : Str → Option D}
set_option hygiene false in
theorem ok_turned {l : Nat} {S : Store} (K : Low C l) (hp : Pool S l) {row : Str} (hr : Wd 200 row) : Ok (exSs C G 0 b_l_turned (([.ref l, .str row] : List D).map some ++ List.replicate (9 - 2) none) S) (leave S fun d S1 => ∃ t, d = .str t ∧ Wd (3 * row.length + 12) t ∧ Mv S l S1) := by
  simp only [b_l_turned, ssOf, List.map_cons, List.map_nil, List.cons_append, List.nil_append, List.replicate]
  have hr1 := hr.1
  have hs : ∀ (s : Str) l h (S : Store), slD false (.str s) l h S = .ok (.str (L2.cutS s l h)) S := fun _ _ _ _ => rfl
  -- way, at, sign
  refine step (fun ρ1 S1 => ∃ (w a : Nat) (c : Nat), w < 7 ∧ a ≤ row.length ∧ c < 1000 ∧ ρ1 = [some (.ref l), some (.str row), some (.int w), some (.int a), some (sgnD c), none, none, none, none] ∧ Mv S l S1) ?_ ?_
  · simp [esOf, tgsOf, Tgs.len]
    refine (K.draw S 7 hp (by decide) (by decide)).mono fun d S1 ⟨w, e1, hw, mv1⟩ => ?_
    subst e1
    simp [biD, lenD]
    refine (K.draw S1 (row.length + 1) (mv1.pool hp) (by omega) (by omega)).mono fun d S2 ⟨a, e2, ha, mv2⟩ => ?_
    subst e2
    simp [listD, dkeysD, signs_eq, sz, signs_len]
    refine (K.pick S2 _ _ ((mv1.trans mv2).pool hp) (.lst _) (by rw [ne_eq, List.map_eq_nil_iff]; intro q; have := signs_len; rw [q] at this; cases this) (by rw [List.length_map, signs_len]; decide)).mono fun d S3 ⟨m3, mv3⟩ => ?_
    obtain ⟨c, mc, rfl⟩ := List.mem_map.mp m3
    exact ⟨w, by omega, a, by omega, c, signs_ch c mc, ⟨rfl, rfl, rfl⟩, mv1.trans (mv2.trans mv3)⟩
  rintro ρ1 S1 ⟨w, a, c, hw, ha, hc, rfl, mv1⟩
  have wc : Wd 1 (⟨#[c]⟩ : Str) := ⟨Nat.le_refl 1, fun x m => by rw [List.mem_singleton.mp (show x ∈ [c] from m)]; exact hc⟩
  have t1 : ∀ k : Nat, Wd k (L2.cutS row none (some (k : Int))) := fun k => ⟨by rw [sg_len, cutS_to, List.length_take]; omega, by rw [cutS_to]; exact Ch_take k hr.2⟩
  have t2 : ∀ k : Nat, Wd (row.length - k) (L2.cutS row (some (k : Int)) none) := fun k => ⟨by rw [sg_len, cutS_from, List.length_drop, ← sg_len]; exact Nat.le_refl _, by rw [cutS_from]; exact Ch_drop k hr.2⟩
  have z1 := fun k => (t1 k).1
  have z2 := fun k => (t2 k).1
  have a1 : ((a : Int) + 1) = ((a + 1 : Nat) : Int) := by omega
  by_cases c3 : w < 3
  · have c3' : (w : Int) < 3 := by omega
    have y1 : (L2.cutS row none (some (a : Int))).length + 1 ≤ 16777216 := by have := z1 a; omega
    have y2 : (L2.cutS row none (some (a : Int))).length + 1 + (L2.cutS row (some (a : Int)) none).length ≤ 16777216 := by have := z1 a; have := z2 a; omega
    have y3 : (L2.cutS row none (some (a : Int))).length + (L2.cutS row (some ((a + 1 : Nat) : Int)) none).length ≤ 16777216 := by have := z1 a; have := z2 (a + 1); omega
    have y4 : (L2.cutS row none (some (a : Int))).length + 1 + (L2.cutS row (some ((a + 1 : Nat) : Int)) none).length ≤ 16777216 := by have := z1 a; have := z2 (a + 1); omega
    have l1 : ∀ c, (⟨#[c]⟩ : Str).length = 1 := fun c => rfl
    have v0 := (((t1 a).app wc).app (t2 a)).mono (b := 3 * row.length + 12) (by omega)
    have v1 := ((t1 a).app (t2 (a + 1))).mono (b := 3 * row.length + 12) (by omega)
    have v2 := (((t1 a).app wc).app (t2 (a + 1))).mono (b := 3 * row.length + 12) (by omega)
    simp [-Int.natCast_add, esOf, c3', hs, asI, sgnD, sz, len_app, l1, a1, y1, y2, y3, y4]
    match w, c3 with
    | 0, _ => exact ⟨_, atI_0 _ _, by rw [gc_mv mv1]; exact ⟨_, rfl, v0, mv1⟩⟩
    | 1, _ => exact ⟨_, atI_1 _ _ _, by rw [gc_mv mv1]; exact ⟨_, rfl, v1, mv1⟩⟩
    | 2, _ => exact ⟨_, atI_2 _ _ _ _, by rw [gc_mv mv1]; exact ⟨_, rfl, v2, mv1⟩⟩
  have c3' : ¬ (w : Int) < 3 := by omega
  refine step (fun ρ1 S2 => ρ1 = [some (.ref l), some (.str row), some (.int w), some (.int a), some (sgnD c), none, none, none, none] ∧ S1 = S2) ?_ ?_
  · simp [esOf, c3']
  rintro ρ1 S2 ⟨rfl, rfl⟩
  have ne := split_ne row (Str.ofString " ") sg_b plain_b
  have nm := split_num row (Str.ofString " ") sg_b plain_b
  have hm := cut_b row
  have sp : ∀ {S : Store} {Q : D → Store → Prop}, Ok (mtD .split true (.str row) [.str (Str.ofString " ")] S) Q ↔ Q (.ref S.length) (S ++ [.lst ((PySem.Txt.split row (Str.ofString " ")).map .str)]) := fun {S Q} => Ok_splitM sg_b plain_b (by omega)
  have hw2 : ∀ x ∈ PySem.Txt.split row (Str.ofString " "), Wd row.length x := fun x m => by
    have : sg x ∈ cutAt 32 (sg row) := by rw [← hm]; exact List.mem_map.mpr ⟨x, m, rfl⟩
    exact ⟨by rw [sg_len, sg_len row]; exact (cutAt_mem this).2, Ch_cut hr.2 _ this⟩
  have ht : tot ((PySem.Txt.split row (Str.ofString " ")).map sg) = row.length + 1 := by rw [hm, tot_cut, sg_len]
  generalize PySem.Txt.split row (Str.ofString " ") = ws at *
  clear hm
  have hl := mv1.len
  refine step (fun ρ1 S2 => ρ1 = [some (.ref l), some (.str row), some (.int w), some (.int a), some (sgnD c), some (.ref S.length), none, none, none] ∧ S2 = S1 ++ [.lst (ws.map .str)]) ?_ ?_
  · simp [esOf, mtTy, sp, hl]
  rintro ρ1 S2 ⟨rfl, rfl⟩
  have nw : 0 < ws.length := List.length_pos_iff.mpr ne
  have cell : ∀ {S5 : Store}, Mv S l S5 → (S5 ++ [Cell.lst (ws.map .str)])[S.length]? = some (.lst (ws.map .str)) := fun {S5} mv => by rw [← mv.len]; simp
  have bln : ∀ {S5 : Store}, Mv S l S5 → biD .len false [.ref S.length] (S5 ++ [.lst (ws.map .str)]) = .ok (.int ws.length) (S5 ++ [.lst (ws.map .str)]) := fun {S5} mv => by simp [biD, lenD, asQ, cell mv]
  refine step (fun ρ1 S2 => ∃ k j : Nat, k < ws.length ∧ j < ws.length ∧ ρ1 = [some (.ref l), some (.str row), some (.int w), some (.int a), some (sgnD c), some (.ref S.length), some (.int k), some (.int j), none] ∧ ∃ S3, S2 = S3 ++ [.lst (ws.map .str)] ∧ Mv S l S3) ?_ ?_
  · simp [esOf, tgsOf, Tgs.len, bln mv1]
    refine (K.draw _ ws.length (mv1.pool hp).app (by omega) (by omega)).mono fun d S3 ⟨k, e1, hk, mv3⟩ => ?_
    subst e1
    obtain ⟨S4, rfl, mv4⟩ := Mv.app (mv1.pool hp) mv3
    have mv5 := mv1.trans mv4
    simp [bln mv5]
    refine (K.draw _ ws.length (mv5.pool hp).app (by omega) (by omega)).mono fun d S6 ⟨j, e2, hj, mv6⟩ => ?_
    subst e2
    obtain ⟨S7, rfl, mv7⟩ := Mv.app (mv5.pool hp) mv6
    simp [sz]
    exact ⟨k, by omega, j, by omega, ⟨rfl, rfl⟩, mv5.trans mv7⟩
  rintro ρ1 S2 ⟨k, j, hk, hj, rfl, S3, rfl, mv3⟩
  have tk : tot ((ws.take k).map sg) + tot ((ws.drop k).map sg) = row.length + 1 := by rw [List.map_take, List.map_drop, tot_td, ht]
  have tk1 : tot ((ws.take k).map sg) + tot ((ws.drop (k + 1)).map sg) ≤ row.length + 1 := by rw [List.map_take, List.map_drop, ← ht]; exact tot_td1 k _
  have sj := (hw2 ws[j] (List.getElem_mem hj))
  have sk := (hw2 ws[k] (List.getElem_mem hk))
  have sj1 := sj.1
  have sk1 := sk.1
  have fin : ∀ {ws' : List Str} {ds : List D} {S5 : Store} {X : List Cell}, ds = ws'.map .str → (∀ x ∈ ws', Wd 200 x) → ws'.length ≤ 10000 → tot (ws'.map sg) ≤ 3 * row.length + 12 → Mv S l S5 → Ok (mtD .join false (.str (Str.ofString " ")) [.lst ds] (S5 ++ X)) fun d S4 => Ok (gc S d S4) fun d S1 => ∃ t, d = .str t ∧ Wd (3 * row.length + 12) t ∧ Mv S l S1 := fun {ws' ds S5 X} e h z t mv => by
    subst e
    rw [join_lst (fun x m => Nat.le_trans (h x m).1 (by decide)) len_b z, gc_mvx mv (by rfl)]
    exact ⟨_, rfl, Wd_join sg_b (by decide) (fun x m => (h x m).2) t, mv⟩
  have up : ∀ x ∈ ws, Wd 200 x := fun x m => (hw2 x m).mono hr1
  have s1 := sl_to (k := k) (cell mv3) (by omega)
  have s2 := sl_from (k := k) (cell mv3) (by omega)
  have s3 : slD false (.ref S.length) (some ((k : Int) + 1)) none (S3 ++ [.lst (ws.map .str)]) = .ok (.lst ((ws.drop (k + 1)).map .str)) (S3 ++ [.lst (ws.map .str)]) := sl_from (k := k + 1) (cell mv3) (by omega)
  have ij : L2.atI (ws.map D.str) (j : Int) = some (.str ws[j]) := by rw [atI_get (by rw [List.length_map]; exact hj), List.getElem_map]
  have ik : L2.atI (ws.map D.str) (k : Int) = some (.str ws[k]) := by rw [atI_get (by rw [List.length_map]; exact hk), List.getElem_map]
  have ixj : ∀ {Q : D → Store → Prop}, Ok (ixD (.ref S.length) (.int (j : Int)) (S3 ++ [.lst (ws.map .str)])) Q ↔ Q (.str ws[j]) (S3 ++ [.lst (ws.map .str)]) := fun {Q} => by rw [Ok_ix_ref _ (cell mv3)]; simp [ij]
  have ixk : ∀ {Q : D → Store → Prop}, Ok (ixD (.ref S.length) (.int (k : Int)) (S3 ++ [.lst (ws.map .str)])) Q ↔ Q (.str ws[k]) (S3 ++ [.lst (ws.map .str)]) := fun {Q} => by rw [Ok_ix_ref _ (cell mv3)]; simp [ik]
  have y1 : min k ws.length + (ws.length - (k + 1)) ≤ 16777216 := by omega
  have y2 : min k ws.length + 1 + (ws.length - k) ≤ 16777216 := by omega
  have y3 : min k ws.length + 1 + (ws.length - (k + 1)) ≤ 16777216 := by omega
  have y4 : min k ws.length + 1 ≤ 16777216 := by omega
  have l20 : ∀ (x : Str), x ∈ ["0", "-0", "00", "01", "-01", "+1", "1.0", "9999", "10000", "-9999", "-10000", "--1", "1-", "pack", "goods", "", "x", "1/1", "7", "6"].map Str.ofString → Wd 6 x := by
    have : (["0", "-0", "00", "01", "-01", "+1", "1.0", "9999", "10000", "-9999", "-10000", "--1", "1-", "pack", "goods", "", "x", "1/1", "7", "6"].map Str.ofString).all (fun x => decide (x.length ≤ 6) && (sg x).all fun c => decide (c < 1000)) = true := by decide +kernel
    intro x m
    have h := List.all_eq_true.mp this x m
    simp only [Bool.and_eq_true, decide_eq_true_eq, List.all_eq_true] at h
    exact ⟨h.1, h.2⟩
  by_cases w3 : w = 3
  · subst w3
    simp [-List.map_take, -List.map_drop, esOf, s1, s3, sz, y1, mtTy, asI]
    refine fin (ws' := ws.take k ++ ws.drop (k + 1)) (by simp) ?_ ?_ ?_ mv3
    · intro x m
      rcases List.mem_append.mp m with m | m
      · exact up x (List.mem_of_mem_take m)
      · exact up x (List.mem_of_mem_drop m)
    · rw [List.length_append, List.length_take, List.length_drop]; omega
    · rw [List.map_append, tot_app]; omega
  have w3' : ¬ (w : Int) = 3 := by omega
  refine step (fun ρ1 S2 => ρ1 = [some (.ref l), some (.str row), some (.int w), some (.int a), some (sgnD c), some (.ref S.length), some (.int k), some (.int j), none] ∧ S3 ++ [.lst (ws.map .str)] = S2) (by simp [esOf, w3']) ?_
  rintro ρ1 S2 ⟨rfl, rfl⟩
  by_cases w4 : w = 4
  · subst w4
    simp [-List.map_take, -List.map_drop, esOf, s1, s2, sz, y2, y4, mtTy, asI, ixj]
    refine fin (ws' := ws.take k ++ (ws[j] :: ws.drop k)) (by simp) ?_ ?_ ?_ mv3
    · intro x m
      rcases List.mem_append.mp m with m | m
      · exact up x (List.mem_of_mem_take m)
      · rcases List.mem_cons.mp m with rfl | m
        · exact up _ (List.getElem_mem hj)
        · exact up x (List.mem_of_mem_drop m)
    · rw [List.length_append, List.length_cons, List.length_take, List.length_drop]; omega
    · rw [List.map_append, tot_app, List.map_cons, tot, ← sg_len]; omega
  have w4' : ¬ (w : Int) = 4 := by omega
  refine step (fun ρ1 S2 => ρ1 = [some (.ref l), some (.str row), some (.int w), some (.int a), some (sgnD c), some (.ref S.length), some (.int k), some (.int j), none] ∧ S3 ++ [.lst (ws.map .str)] = S2) (by simp [esOf, w4']) ?_
  rintro ρ1 S2 ⟨rfl, rfl⟩
  by_cases w5 : w = 5
  · subst w5
    simp [-List.map_take, -List.map_drop, esOf, tgsOf, sz, mtTy, asI, ixj, ixk, Tgs.len]
    have st : ∀ {vs : List Str} {i : Nat} {x : Str}, i < vs.length → stoD (S3 ++ [Cell.lst (vs.map .str)]) (.ref S.length) (.int (i : Int)) (.str x) = some (S3 ++ [Cell.lst ((vs.set i x).map .str)]) := fun {vs i x} h => by
      have h2 := ixN_nat (k := vs.length) (Int.natCast_nonneg i) (by omega)
      have h3 : (S3 ++ [Cell.lst (vs.map .str)])[S.length]? = some (.lst (vs.map .str)) := by rw [← mv3.len]; simp
      simp only [stoD, h3, List.length_map, h2]
      rw [← mv3.len]
      simp [List.map_set]
    refine ⟨_, st hk, _, st (by rw [List.length_set]; exact hj), ?_⟩
    have h5 : ∀ x ∈ (ws.set k ws[j]).set j ws[k], Wd 200 x := fun x m => by
      rcases List.mem_or_eq_of_mem_set m with m | rfl
      · rcases List.mem_or_eq_of_mem_set m with m | rfl
        · exact up x m
        · exact up _ (List.getElem_mem hj)
      · exact up _ (List.getElem_mem hk)
    rw [join_ref (by rw [← mv3.len]; simp) (fun x m => Nat.le_trans (h5 x m).1 (by decide)) len_b (by rw [List.length_set, List.length_set]; omega), gc_mvx mv3 (by rfl)]
    refine ⟨_, rfl, Wd_join sg_b (by decide) (fun x m => (h5 x m).2) ?_, mv3⟩
    rw [List.map_set, List.map_set]
    have q1 := tot_set ((ws.map sg).set k (sg ws[j])) j (sg ws[k])
    have q2 := tot_set (ws.map sg) k (sg ws[j])
    rw [← sg_len] at q1 q2
    omega
  have w5' : ¬ (w : Int) = 5 := by omega
  refine step (fun ρ1 S2 => ρ1 = [some (.ref l), some (.str row), some (.int w), some (.int a), some (sgnD c), some (.ref S.length), some (.int k), some (.int j), none] ∧ S3 ++ [.lst (ws.map .str)] = S2) (by simp [esOf, w5']) ?_
  rintro ρ1 S2 ⟨rfl, rfl⟩
  simp [-List.map_take, -List.map_drop, esOf, s1, s3, sz, y3, y4, mtTy, asI]
  refine (K.pick _ _ _ (mv3.pool hp).app (.lst _) (by simp) (by simp)).mono fun d S5 ⟨m5, mv5⟩ => ?_
  obtain ⟨S6, rfl, mv6⟩ := Mv.app (mv3.pool hp) mv5
  have s3 : slD false (.ref S.length) (some ((k : Int) + 1)) none (S6 ++ [.lst (ws.map .str)]) = .ok (.lst ((ws.drop (k + 1)).map .str)) (S6 ++ [.lst (ws.map .str)]) := sl_from (k := k + 1) (cell (mv3.trans mv6)) (by omega)
  obtain ⟨x, mx, rfl⟩ : ∃ x, Wd 6 x ∧ d = .str x := by
    simp only [List.mem_cons, List.not_mem_nil, or_false] at m5
    rcases m5 with rfl | rfl | rfl | rfl | rfl | rfl | rfl | rfl | rfl | rfl | rfl | rfl | rfl | rfl | rfl | rfl | rfl | rfl | rfl | rfl <;> exact ⟨_, l20 _ (by simp), rfl⟩
  simp [-List.map_take, -List.map_drop, s3, sz, y3]
  refine fin (ws' := ws.take k ++ (x :: ws.drop (k + 1))) (by simp) ?_ ?_ ?_ (mv3.trans mv6)
  · intro y m
    rcases List.mem_append.mp m with m | m
    · exact up y (List.mem_of_mem_take m)
    · rcases List.mem_cons.mp m with rfl | m
      · exact mx.mono (by decide)
      · exact up y (List.mem_of_mem_drop m)
  · rw [List.length_append, List.length_cons, List.length_take, List.length_drop]; omega
  · have := mx.1
    rw [List.map_append, tot_app, List.map_cons, tot, ← sg_len]; omega
end
end Pyx.K82
end
section
namespace Pyx.K82
open PySem (Str sizeLine)
open Pyx Pyx.Ty TL
structure Mid (C : Str → List D → Store → R D) (l : Nat) : Prop extends Low C l where
  turned : ∀ (S : Store) (row : Str), Pool S l → Wd 200 row → Ok (C "_law_turned" [.ref l, .str row] S) fun d S1 => ∃ t, d = .str t ∧ Wd (3 * row.length + 12) t ∧ Mv S l S1
theorem TB_join {ws : List Str} {B L : Nat} (h : ∀ w ∈ ws, Wd B w) (k : tot (ws.map sg) ≤ L) : TB B L (PySem.Txt.join (Str.ofString "\n") ws) := by
  refine ⟨?_, ?_, ?_⟩
  · rw [sg_join, sg_n]
    exact Ch_join (by decide) fun p m => by
      obtain ⟨w, mw, rfl⟩ := List.mem_map.mp m
      exact (h w mw).2
  · rw [sg_join, sg_n]
    exact Nat.le_trans (len_join _ _) k
  · rw [sg_join, sg_n]
    exact Rn_join fun p m => by
      obtain ⟨w, mw, rfl⟩ := List.mem_map.mp m
      rw [← sg_len]
      exact (h w mw).1
section
variable {C : Str → List D → Store → R D} {G : Str → Option D}
theorem ok_bent {l : Nat} {S : Store} (K : Mid C l) (hp : Pool S l) {text : Str} {B L : Nat} (hr : TB B L text) (hB : B ≤ 200) (hL : L ≤ 9000) : Ok (exSs C G 0 b_l_bent (([.ref l, .str text] : List D).map some ++ List.replicate (6 - 2) none) S) (leave S fun d S1 => ∃ t, d = .str t ∧ TB (3 * B + 12) (L + 3 * B + 14) t ∧ Mv S l S1) := by
  simp only [b_l_bent, ssOf, List.map_cons, List.map_nil, List.cons_append, List.nil_append, List.replicate]
  have hs : ∀ (s : Str) l h (S : Store), slD false (.str s) l h S = .ok (.str (L2.cutS s l h)) S := fun _ _ _ _ => rfl
  have tl : text.length ≤ L := by rw [sg_len]; exact hr.len
  have ne := split_ne text (Str.ofString "\n") sg_n plain_n
  have nm := split_num text (Str.ofString "\n") sg_n plain_n
  have hm := cut_n text
  have sp : ∀ {S : Store} {Q : D → Store → Prop}, Ok (mtD .split true (.str text) [.str (Str.ofString "\n")] S) Q ↔ Q (.ref S.length) (S ++ [.lst ((PySem.Txt.split text (Str.ofString "\n")).map .str)]) := fun {S Q} => Ok_splitM sg_n plain_n (by omega)
  have hw2 : ∀ x ∈ PySem.Txt.split text (Str.ofString "\n"), Wd B x := fun x m => by
    have : sg x ∈ cutAt 10 (sg text) := by rw [← hm]; exact List.mem_map.mpr ⟨x, m, rfl⟩
    exact ⟨by rw [sg_len]; exact hr.row _ this, Ch_cut hr.ch _ this⟩
  have ht : tot ((PySem.Txt.split text (Str.ofString "\n")).map sg) ≤ L + 1 := by rw [hm, tot_cut]; have := hr.len; omega
  generalize PySem.Txt.split text (Str.ofString "\n") = ws at *
  clear hm
  refine step (fun ρ1 S2 => ρ1 = [some (.ref l), some (.str text), some (.ref S.length), none, none, none] ∧ S2 = S ++ [.lst (ws.map .str)]) ?_ ?_
  · simp [esOf, mtTy, sp]
  rintro ρ1 S2 ⟨rfl, rfl⟩
  have nw : 0 < ws.length := List.length_pos_iff.mpr ne
  have cell : ∀ {S5 : Store}, Mv S l S5 → (S5 ++ [Cell.lst (ws.map .str)])[S.length]? = some (.lst (ws.map .str)) := fun {S5} mv => by rw [← mv.len]; simp
  have bln : ∀ {S5 : Store}, Mv S l S5 → biD .len false [.ref S.length] (S5 ++ [.lst (ws.map .str)]) = .ok (.int ws.length) (S5 ++ [.lst (ws.map .str)]) := fun {S5} mv => by simp [biD, lenD, asQ, cell mv]
  refine step (fun ρ1 S2 => ∃ w k j : Nat, k < ws.length ∧ j < ws.length ∧ ρ1 = [some (.ref l), some (.str text), some (.ref S.length), some (.int w), some (.int k), some (.int j)] ∧ ∃ S3, S2 = S3 ++ [.lst (ws.map .str)] ∧ Mv S l S3) ?_ ?_
  · simp [esOf, tgsOf, Tgs.len]
    refine (K.draw _ 8 hp.app (by decide) (by decide)).mono fun d S3 ⟨w, e1, hk, mv3⟩ => ?_
    subst e1
    obtain ⟨S4, rfl, mv4⟩ := Mv.app hp mv3
    simp [bln mv4]
    refine (K.draw _ ws.length (mv4.pool hp).app (by omega) (by omega)).mono fun d S5 ⟨k, e2, hk, mv5⟩ => ?_
    subst e2
    obtain ⟨S6, rfl, mv6⟩ := Mv.app (mv4.pool hp) mv5
    have mv7 := mv4.trans mv6
    simp [bln mv7]
    refine (K.draw _ ws.length (mv7.pool hp).app (by omega) (by omega)).mono fun d S8 ⟨j, e3, hj, mv8⟩ => ?_
    subst e3
    obtain ⟨S9, rfl, mv9⟩ := Mv.app (mv7.pool hp) mv8
    simp [sz]
    exact ⟨w, k, by omega, j, by omega, ⟨rfl, rfl, rfl⟩, mv7.trans mv9⟩
  rintro ρ1 S2 ⟨w, k, j, hk, hj, rfl, S3, rfl, mv3⟩
  have tk : tot ((ws.take k).map sg) + tot ((ws.drop k).map sg) ≤ L + 1 := by rw [List.map_take, List.map_drop, tot_td]; exact ht
  have tk1 : tot ((ws.take k).map sg) + tot ((ws.drop (k + 1)).map sg) ≤ L + 1 := by rw [List.map_take, List.map_drop]; exact Nat.le_trans (tot_td1 k _) ht
  have sj := (hw2 ws[j] (List.getElem_mem hj))
  have sk := (hw2 ws[k] (List.getElem_mem hk))
  have sj1 := sj.1
  have sk1 := sk.1
  have fin : ∀ {ws' : List Str} {ds : List D} {S5 : Store} {X : List Cell}, ds = ws'.map .str → (∀ x ∈ ws', Wd (3 * B + 12) x) → ws'.length ≤ 10000 → tot (ws'.map sg) ≤ L + 3 * B + 14 → Mv S l S5 → Ok (mtD .join false (.str (Str.ofString "\n")) [.lst ds] (S5 ++ X)) fun d S4 => Ok (gc S d S4) fun d S1 => ∃ t, d = .str t ∧ TB (3 * B + 12) (L + 3 * B + 14) t ∧ Mv S l S1 := fun {ws' ds S5 X} e h z t mv => by
    subst e
    rw [join_lst (fun x m => Nat.le_trans (h x m).1 (by omega)) len_n z, gc_mvx mv (by rfl)]
    exact ⟨_, rfl, TB_join h t, mv⟩
  have up : ∀ x ∈ ws, Wd (3 * B + 12) x := fun x m => (hw2 x m).mono (by omega)
  have s1 := sl_to (k := k) (cell mv3) (by omega)
  have s2 := sl_from (k := k) (cell mv3) (by omega)
  have s3 : slD false (.ref S.length) (some ((k : Int) + 1)) none (S3 ++ [.lst (ws.map .str)]) = .ok (.lst ((ws.drop (k + 1)).map .str)) (S3 ++ [.lst (ws.map .str)]) := sl_from (k := k + 1) (cell mv3) (by omega)
  have ij : L2.atI (ws.map D.str) (j : Int) = some (.str ws[j]) := by rw [atI_get (by rw [List.length_map]; exact hj), List.getElem_map]
  have ik : L2.atI (ws.map D.str) (k : Int) = some (.str ws[k]) := by rw [atI_get (by rw [List.length_map]; exact hk), List.getElem_map]
  have ixj : ∀ {Q : D → Store → Prop}, Ok (ixD (.ref S.length) (.int (j : Int)) (S3 ++ [.lst (ws.map .str)])) Q ↔ Q (.str ws[j]) (S3 ++ [.lst (ws.map .str)]) := fun {Q} => by rw [Ok_ix_ref _ (cell mv3)]; simp [ij]
  have ixk : ∀ {Q : D → Store → Prop}, Ok (ixD (.ref S.length) (.int (k : Int)) (S3 ++ [.lst (ws.map .str)])) Q ↔ Q (.str ws[k]) (S3 ++ [.lst (ws.map .str)]) := fun {Q} => by rw [Ok_ix_ref _ (cell mv3)]; simp [ik]
  have y1 : min k ws.length + (ws.length - (k + 1)) ≤ 16777216 := by omega
  have y2 : min k ws.length + 1 + (ws.length - k) ≤ 16777216 := by omega
  have y3 : min k ws.length + 1 + (ws.length - (k + 1)) ≤ 16777216 := by omega
  have y4 : min k ws.length + 1 ≤ 16777216 := by omega
  by_cases w0 : w = 0
  · subst w0
    simp [esOf, biD, lenD, hs, asI]
    refine (K.draw _ (text.length + 1) (mv3.pool hp).app (by omega) (by omega)).mono fun d S4 ⟨a, e1, ha, mv4⟩ => ?_
    subst e1
    obtain ⟨S5, rfl, mv5⟩ := Mv.app (mv3.pool hp) mv4
    simp
    rw [gc_mvx (mv3.trans mv5) (by rfl)]
    refine ⟨_, rfl, ⟨by rw [cutS_to]; exact Ch_take a hr.ch, ?_, by rw [cutS_to]; exact Rn_mono (Rn_take a hr.row) (by omega)⟩, mv3.trans mv5⟩
    rw [cutS_to, List.length_take]
    have := hr.len
    omega
  have w0' : ¬ (w : Int) = 0 := by omega
  refine step (fun ρ1 S2 => ρ1 = [some (.ref l), some (.str text), some (.ref S.length), some (.int w), some (.int k), some (.int j)] ∧ S3 ++ [.lst (ws.map .str)] = S2) (by simp [esOf, w0', w0]) ?_
  rintro ρ1 S2 ⟨rfl, rfl⟩
  by_cases w1 : w = 1
  · subst w1
    simp [-List.map_take, -List.map_drop, esOf, s1, s3, sz, y1, mtTy, asI]
    refine fin (ws' := ws.take k ++ ws.drop (k + 1)) (by simp) ?_ ?_ ?_ mv3
    · intro x m
      rcases List.mem_append.mp m with m | m
      · exact up x (List.mem_of_mem_take m)
      · exact up x (List.mem_of_mem_drop m)
    · rw [List.length_append, List.length_take, List.length_drop]; omega
    · rw [List.map_append, tot_app]; omega
  have w1' : ¬ (w : Int) = 1 := by omega
  refine step (fun ρ1 S2 => ρ1 = [some (.ref l), some (.str text), some (.ref S.length), some (.int w), some (.int k), some (.int j)] ∧ S3 ++ [.lst (ws.map .str)] = S2) (by simp [esOf, w1']) ?_
  rintro ρ1 S2 ⟨rfl, rfl⟩
  by_cases w2 : w = 2
  · subst w2
    simp [-List.map_take, -List.map_drop, esOf, s1, s2, sz, y2, y4, mtTy, asI, ixj]
    refine fin (ws' := ws.take k ++ (ws[j] :: ws.drop k)) (by simp) ?_ ?_ ?_ mv3
    · intro x m
      rcases List.mem_append.mp m with m | m
      · exact up x (List.mem_of_mem_take m)
      · rcases List.mem_cons.mp m with rfl | m
        · exact up _ (List.getElem_mem hj)
        · exact up x (List.mem_of_mem_drop m)
    · rw [List.length_append, List.length_cons, List.length_take, List.length_drop]; omega
    · rw [List.map_append, tot_app, List.map_cons, tot, ← sg_len]; omega
  have w2' : ¬ (w : Int) = 2 := by omega
  refine step (fun ρ1 S2 => ρ1 = [some (.ref l), some (.str text), some (.ref S.length), some (.int w), some (.int k), some (.int j)] ∧ S3 ++ [.lst (ws.map .str)] = S2) (by simp [esOf, w2']) ?_
  rintro ρ1 S2 ⟨rfl, rfl⟩
  by_cases w5 : w = 3
  · subst w5
    simp [-List.map_take, -List.map_drop, esOf, tgsOf, sz, mtTy, asI, ixj, ixk, Tgs.len]
    have st : ∀ {vs : List Str} {i : Nat} {x : Str}, i < vs.length → stoD (S3 ++ [Cell.lst (vs.map .str)]) (.ref S.length) (.int (i : Int)) (.str x) = some (S3 ++ [Cell.lst ((vs.set i x).map .str)]) := fun {vs i x} h => by
      have h2 := ixN_nat (k := vs.length) (Int.natCast_nonneg i) (by omega)
      have h3 : (S3 ++ [Cell.lst (vs.map .str)])[S.length]? = some (.lst (vs.map .str)) := by rw [← mv3.len]; simp
      simp only [stoD, h3, List.length_map, h2]
      rw [← mv3.len]
      simp [List.map_set]
    refine ⟨_, st hk, _, st (by rw [List.length_set]; exact hj), ?_⟩
    have h5 : ∀ x ∈ (ws.set k ws[j]).set j ws[k], Wd (3 * B + 12) x := fun x m => by
      rcases List.mem_or_eq_of_mem_set m with m | rfl
      · rcases List.mem_or_eq_of_mem_set m with m | rfl
        · exact up x m
        · exact up _ (List.getElem_mem hj)
      · exact up _ (List.getElem_mem hk)
    rw [join_ref (by rw [← mv3.len]; simp) (fun x m => Nat.le_trans (h5 x m).1 (by omega)) len_n (by rw [List.length_set, List.length_set]; omega), gc_mvx mv3 (by rfl)]
    refine ⟨_, rfl, TB_join h5 ?_, mv3⟩
    rw [List.map_set, List.map_set]
    have q1 := tot_set ((ws.map sg).set k (sg ws[j])) j (sg ws[k])
    have q2 := tot_set (ws.map sg) k (sg ws[j])
    rw [← sg_len] at q1 q2
    omega
  have w5' : ¬ (w : Int) = 3 := by omega
  refine step (fun ρ1 S2 => ρ1 = [some (.ref l), some (.str text), some (.ref S.length), some (.int w), some (.int k), some (.int j)] ∧ S3 ++ [.lst (ws.map .str)] = S2) (by simp [esOf, w5']) ?_
  rintro ρ1 S2 ⟨rfl, rfl⟩
  simp [-List.map_take, -List.map_drop, esOf, s1, s3, sz, y3, y4, mtTy, asI, ixk]
  refine (K.turned _ ws[k] (mv3.pool hp).app (sk.mono hB)).mono fun d S5 ⟨x, e5, hx, mv5⟩ => ?_
  subst e5
  obtain ⟨S6, rfl, mv6⟩ := Mv.app (mv3.pool hp) mv5
  have s3 : slD false (.ref S.length) (some ((k : Int) + 1)) none (S6 ++ [.lst (ws.map .str)]) = .ok (.lst ((ws.drop (k + 1)).map .str)) (S6 ++ [.lst (ws.map .str)]) := sl_from (k := k + 1) (cell (mv3.trans mv6)) (by omega)
  simp [-List.map_take, -List.map_drop, s3, sz, y3, y4]
  refine fin (ws' := ws.take k ++ (x :: ws.drop (k + 1))) (by simp) ?_ ?_ ?_ (mv3.trans mv6)
  · intro y m
    rcases List.mem_append.mp m with m | m
    · exact up y (List.mem_of_mem_take m)
    · rcases List.mem_cons.mp m with rfl | m
      · exact hx.mono (by omega)
      · exact up y (List.mem_of_mem_drop m)
  · rw [List.length_append, List.length_cons, List.length_take, List.length_drop]; omega
  · have := hx.1
    rw [List.map_append, tot_app, List.map_cons, tot, ← sg_len]; omega
end
end Pyx.K82
end
section
namespace Pyx.K82
open PySem (Str sizeLine)
open Pyx Pyx.Ty TL
noncomputable abbrev cf (n : Nat) : Str → List D → Store → R D := callF tab pr.gl 0 n
theorem libV : LibV tab pr.gl := by constructor <;> rfl
theorem libR : LibR tab pr.gl := by constructor <;> rfl
theorem libL : LibL tab pr.gl := by constructor <;> rfl
theorem libN : LibN tab pr.gl := by constructor <;> rfl
theorem libLs : LibLs tab pr.gl := by constructor; rfl
theorem libF : LibF tab pr.gl := by constructor <;> rfl
theorem libFl : LibFl tab pr.gl := by constructor <;> rfl
theorem libRd : LibRd tab pr.gl := by constructor; rfl
theorem libSH : LibSH tab := by constructor; rfl
theorem draw : DrawOk tab pr.gl 0 "_law_draw" := by
  intro n S l m h m0 m1
  have hl := h.lt
  obtain ⟨⟨a, b, c⟩, hp⟩ := h
  have hp : S[l]? = some (.lst [.int a, .int b, .int c]) := hp
  rw [Ok_callF t_l_draw rfl]
  have ix : ∀ {S : Store} {Q : D → Store → Prop} {ds : List D} (i : Int), S[l]? = some (.lst ds) → (Ok (ixD (.ref l) (.int i) S) Q ↔ ∃ d, L2.atI ds i = some d ∧ Q d S) := fun {S Q ds} i h => Ok_ix_ref i h
  have i0 : ∀ x y z : D, L2.atI [x, y, z] 0 = some x := fun x y z => atI_0 _ _
  have i1 : ∀ x y z : D, L2.atI [x, y, z] 1 = some y := fun x y z => atI_1 _ _ _
  have i2 : ∀ x y z : D, L2.atI [x, y, z] 2 = some z := fun x y z => by simp [L2.atI, L2.ixN]
  have j0 : L2.ixN 3 0 = some 0 := by decide
  have j1 : L2.ixN 3 1 = some 1 := by decide
  have j2 : L2.ixN 3 2 = some 2 := by decide
  have gs : ∀ c : Cell, (S.set l c)[l]? = some c := fun c => List.getElem?_set_self hl
  have ixp : ∀ {Q : D → Store → Prop} (i : Int), Ok (ixD (.ref l) (.int i) S) Q ↔ ∃ d, L2.atI [.int a, .int b, .int c] i = some d ∧ Q d S := fun {Q} i => ix i hp
  have ixs : ∀ {Q : D → Store → Prop} (ds : List D) (i : Int), Ok (ixD (.ref l) (.int i) (S.set l (.lst ds))) Q ↔ ∃ d, L2.atI ds i = some d ∧ Q d (S.set l (.lst ds)) := fun {Q} ds i => ix i (gs _)
  have stp : ∀ (i : Int) (d : D), stoD S (.ref l) (.int i) d = (L2.ixN 3 i).map fun j => S.set l (.lst ([D.int a, .int b, .int c].set j d)) := fun i d => stoD_lst hp
  have sts : ∀ (ds : List D) (i : Int) (d : D), stoD (S.set l (.lst ds)) (.ref l) (.int i) d = (L2.ixN ds.length i).map fun j => S.set l (.lst (ds.set j d)) := fun ds i d => by rw [stoD_lst (gs _)]; simp
  have mo1 : ∀ x : Int, mulOk 70001 x = true := fun x => mulOk_l (by decide)
  by_cases hb : 0 < b
  · simp [b_l_draw, esOf, ssOf, tgsOf, ixp, ixs, stp, sts, i0, i1, i2, hb, bi_divmod, m0, m1, Tgs.len, j0, j1, j2]
    exact ⟨Int.emod_nonneg _ (by omega), Int.emod_lt_of_pos _ m0, ⟨(a, b / m, c), rfl⟩⟩
  · have md : ∀ x : Int, ∀ S, binD .mod (.int x) (.int 20011) S = .ok (.int (x % 20011)) S := fun x S => binD_mod (by decide)
    have md2 : ∀ x : Int, ∀ S, binD .mod (.int x) (.int 2147483579) S = .ok (.int (x % 2147483579)) S := fun x S => binD_mod (by decide)
    have md3 : ∀ x : Int, ∀ S, binD .mod (.int x) (.int m) S = .ok (.int (x % m)) S := fun x S => binD_mod m0
    have fd : ∀ x : Int, ∀ S, binD .fdiv (.int x) (.int 128) S = .ok (.int (x / 128)) S := fun x S => binD_fdiv (by decide)
    have r1 : 0 ≤ a % 20011 := Int.emod_nonneg _ (by decide)
    have r2 : a % 20011 < 20011 := Int.emod_lt_of_pos _ (by decide)
    have mo2 : mulOk a (a % 20011 + 30011) = true := mulOk_r ⟨by omega, by omega⟩
    simp [b_l_draw, esOf, ssOf, tgsOf, ixp, ixs, stp, sts, i0, i1, i2, hb, j0, j1, j2, bi_int_int, md, md2, md3, fd, mo1, mo2]
    exact ⟨Int.emod_nonneg _ (by omega), Int.emod_lt_of_pos _ m0, ⟨(_, b, c + 1), rfl⟩⟩
theorem ok_is_read {n : Nat} {S : Store} {text : Str} (h : TOk 640 text) : callF tab pr.gl 0 (n + 8) "_law_is_read" [.str text] S = .ok (.bl true) S := by
  apply eq_of_ok
  rw [Ok_callF t_l_is_read rfl]
  have rd : ∀ S, callF tab pr.gl 0 (n + 7) "_law_read_list" [.str text] S = .ok (optL (ownRead (sg text))) S := fun S => ok_l_read_list_any libF libFl h (n := n + 4)
  have pr' : ∀ S, callF tab pr.gl 0 (n + 7) "read_list" [.str text] S = rdR S text (ownRead (sg text)) := fun S => ok_read_list libR libV libRd h (n := n)
  have sh : ∀ S, callF tab pr.gl 0 (n + 7) "_law_same!" [.str text, .str text] S = .ok (.bl true) S := fun S => same_hot libSH text (n := n + 6)
  simp only [b_l_is_read, ssOf, esOf, List.map_cons, List.map_nil, List.cons_append, List.nil_append, List.replicate]
  refine step (fun ρ1 S1 => ρ1 = [some (.str text), some (optL (ownRead (sg text))), none, none] ∧ S1 = S) ?_ ?_
  · simp [rd]
  rintro ρ1 S1 ⟨rfl, rfl⟩
  cases e : ownRead (sg text) with
  | none =>
    rw [Ok_scons, Ok_tryx_exc (x := ⟨"InvalidText", some ("given", .str text)⟩) (S1 := S1) (by rw [evE_call1 (evE_var rfl), pr', e]; rfl) (by rfl) (by simp)]
    have isnn : isD .non .non = some true := rfl
    have lk : ∀ b : Bool, List.lookup (Str.ofString "InvalidText") [((Str.ofString "InvalidText"), b)] = some b := fun b => by cases b <;> rfl
    simp [optL, codeX, xisD, xfD, sh, isnn, lk, goneF]
  | some q =>
    have g := ownRead_good (m := q.1) (ps := q.2) e
    have sm : ∀ S, callF tab pr.gl 0 (n + 7) "_law_same" [stD q.1 q.2, stD q.1 q.2] S = .ok (.bl true) S := fun S => same_stD libL g (n := n + 3)
    rw [Ok_scons, Ok_tryx_ok (d := stD q.1 q.2) (S1 := S1) (by rw [evE_call1 (evE_var rfl), pr', e]; rfl)]
    have isn : isD (stD q.1 q.2) .non = some false := rfl
    simp [optL, tkEnd, sm, isn]
end Pyx.K82
end
section
namespace Pyx.K82
open PySem (Str sizeLine)
open Pyx Pyx.Ty TL
/-! ### lines and their lengths -/
theorem numC_ch (i : Int) : Ch (numC i) := by
  have h := numL_digits i.natAbs
  intro c m
  unfold numC at m
  split at m
  · rcases List.mem_cons.mp m with rfl | m
    · decide
    · have := h c m; omega
  · have := h c m; omega
theorem num_wd {i : Int} (h : i.natAbs < 10 ^ 5) : Wd 6 (numS i) := ⟨by rw [sg_len, sg_numS]; exact numC_len (by decide) h, by rw [sg_numS]; exact numC_ch i⟩
theorem wd_lit (s : Str) {B : Nat} (h : (decide (s.length ≤ B) && (sg s).all fun c => decide (c < 1000)) = true) : Wd B s := by
  simp only [Bool.and_eq_true, decide_eq_true_eq, List.all_eq_true] at h
  exact ⟨h.1, h.2⟩
theorem row_wd {p : List Int} (h : p.length ≤ 6) (hb : Bd p) : Wd 42 (rowT p) := by
  refine ⟨?_, ?_⟩
  · rw [rowT, sg_len, sg_join]
    have := joinL_len (sg (Str.ofString " ")) ((p.map numS).map sg) 6 (fun x m => by
      obtain ⟨s, ms, rfl⟩ := List.mem_map.mp m
      obtain ⟨i, mi, rfl⟩ := List.mem_map.mp ms
      rw [← sg_len]
      exact (num_wd (by have := hb i mi; omega)).1)
    rw [List.length_map, List.length_map] at this
    rw [sg_b] at this ⊢
    simp only [List.length_singleton] at *
    omega
  · rw [rowT, sg_join, sg_b]
    exact Ch_join (by decide) fun x m => by
      obtain ⟨s, ms, rfl⟩ := List.mem_map.mp m
      obtain ⟨i, mi, rfl⟩ := List.mem_map.mp ms
      rw [sg_numS]; exact numC_ch i
theorem head_wd {m : Int} (h1 : 1 ≤ m) (h6 : m ≤ 6) : Wd 12 (headT m) := by
  rw [headT_eq]
  exact (wd_lit (B := 6) _ (by decide +kernel)).app (num_wd (by omega))
theorem line_wd {p : List Int} (h : p.length ≤ 6) (hb : Bd p) : Wd 47 (lineT p) := by
  rw [lineT_eq]
  exact (wd_lit (B := 5) _ (by decide +kernel)).app (row_wd h hb)
theorem Wd.tok {t : Str} (h : Wd 640 t) : TOk 640 t := ⟨h.2, by have := h.1; rw [sg_len] at this; omega, Rn_len (by rw [← sg_len]; exact h.1)⟩
theorem lines_wd {m : Int} {ps : List (List Int)} (h : Good m ps) : ∀ x ∈ linesT m ps, Wd 47 x := fun x k => by
  rcases List.mem_cons.mp k with rfl | k
  · exact (head_wd h.lo h.hi).mono (by decide)
  · obtain ⟨p, mp, rfl⟩ := List.mem_map.mp k
    exact line_wd (by have := (h.row p mp).1; have := h.hi; omega) (h.row p mp).2
theorem listT_tb {m : Int} {ps : List (List Int)} (h : Good m ps) : TB 47 440 (listT m ps) := by
  have e : listT m ps = PySem.Txt.join (Str.ofString "\n") (linesT m ps ++ [Str.ofString ""]) := by
    apply sg_inj
    rw [sg_listT, sg_join, sg_n, List.map_append, List.map_singleton, sg_e, joinL_last]
  rw [e]
  refine TB_join (fun w mw => ?_) ?_
  · rcases List.mem_append.mp mw with mw | mw
    · exact lines_wd h w mw
    · rw [List.mem_singleton.mp mw]; exact wd_lit _ (by decide +kernel)
  · have key : ∀ l : List Str, (∀ x ∈ l, Wd 47 x) → tot (l.map sg) ≤ l.length * 48 := by
      intro l
      induction l with
      | nil => intro _; simp [tot]
      | cons x l ih =>
        intro hx
        have h1 := (hx x (by simp)).1
        have h2 := ih fun y my => hx y (List.mem_cons_of_mem _ my)
        rw [sg_len] at h1
        rw [List.map_cons, tot, List.length_cons]
        omega
    have h1 := key _ (lines_wd h)
    have h2 : (linesT m ps).length ≤ 9 := by
      rw [linesT, List.length_cons, List.length_map]
      have := h.len
      omega
    rw [List.map_append, tot_app, List.map_singleton, sg_e]
    simp only [tot, List.length_nil]
    omega
theorem ownRead_listT {m : Int} {ps : List (List Int)} (h : Good m ps) : ownRead (sg (listT m ps)) = some (m, ps) := by rw [← readW_own]; exact readW_listT h
/-! ### a text many times -/
theorem foldl_arr : ∀ (n : Nat) (a b : Array Nat), ((List.replicate n a).foldl (· ++ ·) b).toList = b.toList ++ (List.replicate n a.toList).flatten
  | 0, a, b => by simp
  | n + 1, a, b => by
    rw [List.replicate_succ, List.foldl_cons, foldl_arr n a (b ++ a), List.replicate_succ, List.flatten_cons, Array.toList_append, List.append_assoc]
theorem sg_mul (s : Str) (n : Nat) (h : 2 ≤ n) : sg (PySem.Txt.mul s n) = (List.replicate n (sg s)).flatten := by
  unfold PySem.Txt.mul
  rw [if_neg (by omega)]
  split
  · rename_i hc
    have h1 : ¬ ((n : Int) == 1) = true := by rw [beq_iff_eq]; omega
    have h2 : s.length = 0 := by
      rcases Bool.or_eq_true _ _ ▸ hc with hc | hc
      · exact absurd hc h1
      · simpa using hc
    rw [sg_len] at h2
    rw [List.length_eq_zero_iff.mp h2]
    simp
  · rw [sg]
    show ((List.replicate (n : Int).toNat s.cps).foldl (· ++ ·) #[]).toList = _
    rw [foldl_arr, Int.toNat_natCast]
    rfl
theorem mul_len (s : Str) (n : Nat) (h : 2 ≤ n) : (PySem.Txt.mul s n).length = n * s.length := by
  rw [sg_len, sg_mul s n h, sg_len]
  simp
theorem mul_wd {s : Str} {B : Nat} (n : Nat) (h : 2 ≤ n) (w : Wd B s) : Wd (n * B) (PySem.Txt.mul s n) := by
  refine ⟨by rw [mul_len s n h]; exact Nat.mul_le_mul_left n w.1, ?_⟩
  rw [sg_mul s n h]
  intro c m
  obtain ⟨l, ml, mc⟩ := List.mem_flatten.mp m
  rw [(List.mem_replicate.mp ml).2] at mc
  exact w.2 c mc
theorem ended_app (a b : List (List Nat)) : ended (a ++ b) = ended a ++ ended b := by simp [ended]
theorem sg_many {m : Int} {p : List Int} (n : Nat) (h : 2 ≤ n) : sg ((headT m ++ Str.ofString "\n") ++ PySem.Txt.mul (lineT p ++ Str.ofString "\n") n) = ended ((linesT m (List.replicate n p)).map sg) := by
  rw [sg_app, sg_app, sg_mul _ n h, linesT, sg_app, sg_n]
  have : ∀ n, (List.replicate n (sg (lineT p) ++ [10])).flatten = ended (List.map sg ((List.replicate n p).map lineT)) := fun n => by
    rw [List.map_replicate, List.map_replicate]
    induction n with
    | zero => rfl
    | succ n ih => rw [List.replicate_succ, List.flatten_cons, ih, List.replicate_succ, ended, ended, List.flatMap_cons]
  rw [this, List.map_cons]
  show _ = (sg (headT m) ++ [10]) ++ ended _
  rfl
theorem own_many {m : Int} {p : List Int} {n : Nat} (h : 9 ≤ n) : ownRead (ended ((linesT m (List.replicate n p)).map sg)) = none := by
  unfold ownRead
  have e : cutAt 10 (ended ((linesT m (List.replicate n p)).map sg)) = (linesT m (List.replicate n p)).map sg ++ [[]] := by
    rw [← joinL_last, cutAt_join 10 _ (by simp)]
    have : ∀ l : List (List Nat), (∀ x ∈ l, 10 ∉ x) → (l.map (cutAt 10)).flatten = l := by
      intro l
      induction l with
      | nil => intro _; rfl
      | cons x l ih => intro hx; rw [List.map_cons, List.flatten_cons, cutAt_free (hx x (by simp)), ih fun y my => hx y (List.mem_cons_of_mem _ my)]; rfl
    refine this _ fun x mx => ?_
    rcases List.mem_append.mp mx with mx | mx
    · obtain ⟨s, ms, rfl⟩ := List.mem_map.mp mx
      exact lines_free _ _ s ms
    · rw [List.mem_singleton.mp mx]; simp
  rw [e, linesT, List.map_cons, List.cons_append, ownRows_cons, if_neg]
  rintro ⟨_, h2, _⟩
  simp at h2
  omega
end Pyx.K82
end
section
namespace Pyx.K82
open PySem (Str sizeLine)
open Pyx Pyx.Ty TL
structure Top (C : Str → List D → Store → R D) (l : Nat) : Prop where
  draw : ∀ (S : Store) (m : Int), Pool S l → 0 < m → m < 1073741824 → Ok (C "_law_draw" [.ref l, .int m] S) fun d S1 => ∃ r : Nat, d = .int r ∧ (r : Int) < m ∧ Mv S l S1
  isr : ∀ text, TOk 640 text → ∀ S, C "_law_is_read" [.str text] S = .ok (.bl true) S
  read : ∀ text, TOk 640 text → ∀ S, C "_law_read_list" [.str text] S = .ok (optL (ownRead (sg text))) S
  rowt : ∀ p, RowOk p → ∀ S, C "_law_row_text" [.lst (p.map .int)] S = .ok (.str (rowT p)) S
def wdD (B : Nat) : D → Bool
  | .str s => decide (s.length ≤ B) && (sg s).all fun c => decide (c < 1000)
  | _ => false
theorem wds_of {B : Nat} {l : List D} (h : l.all (wdD B) = true) {x : D} (m : x ∈ l) : ∃ w, x = .str w ∧ Wd B w := by
  have := List.all_eq_true.mp h x m
  cases x with
  | str s => exact ⟨s, rfl, wd_lit s this⟩
  | _ => cases this
theorem Wd_last {B : Nat} {s : Str} (h : Wd B s) : Wd B (L2.cutS s none (some (-1))) := by
  have e : sg (L2.cutS s none (some (-1))) = (sg s).dropLast := by rw [sg_cutS, cut_last]
  exact ⟨Nat.le_trans (L2.cutS_length _ _ _) h.1, by rw [e]; exact fun c m => h.2 c ((List.dropLast_sublist _).subset m)⟩
theorem Wd_from {B : Nat} {s : Str} (k : Nat) (h : Wd B s) : Wd B (L2.cutS s (some (k : Int)) none) :=
  ⟨Nat.le_trans (L2.cutS_length _ _ _) h.1, by rw [cutS_from]; exact Ch_drop k h.2⟩
theorem adds {s t : Str} {S : Store} (h : s.length + t.length ≤ 100000) : binD .add (.str s) (.str t) S = .ok (.str (s ++ t)) S := by
  simp only [binD, addD]
  rw [if_pos (by rw [sz]; omega)]
theorem muls {s : Str} {S : Store} (k : Nat) (h : k ≤ 1000) (h2 : 2 ≤ k) (z : s.length ≤ 1000) : binD .mul (.str s) (.int k) S = .ok (.str (PySem.Txt.mul s k)) S := by
  have h3 : k * s.length ≤ 1000 * 1000 := Nat.mul_le_mul h z
  simp only [binD, mulD]
  rw [if_pos ⟨⟨by omega, by omega⟩, by omega, by rw [Int.toNat_natCast, Nat.mul_comm, sz]; omega, by rw [mul_len s k h2, sz]; omega⟩]
theorem rep_flat {α : Type} (n : Nat) (a : α) : (List.replicate n [a]).flatten = List.replicate n a := by
  induction n with
  | zero => rfl
  | succ n ih => rw [List.replicate_succ, List.flatten_cons, ih]; rfl
theorem tot_rep (n : Nat) (x : List Nat) : tot (List.replicate n x) = n * (x.length + 1) := by
  induction n with
  | zero => simp [tot]
  | succ n ih => rw [List.replicate_succ, tot, ih, Nat.succ_mul]; omega
section
variable {C : Str → List D → Store → R D} {G : Str → Option D}
theorem ok_bounds {l : Nat} {S : Store} (K : Top C l) (hp : Pool S l) : Ok (exSs C G 0 b_l_bounds_right (([.ref l] : List D).map some ++ List.replicate (8 - 1) none) S) (leave S fun d S1 => d = .bl true ∧ Mv S l S1) := by
  simp only [b_l_bounds_right, ssOf, List.map_cons, List.map_nil, List.cons_append, List.nil_append, List.replicate]
  have hs : ∀ (s : Str) l h (S : Store), slD false (.str s) l h S = .ok (.str (L2.cutS s l h)) S := fun _ _ _ _ => rfl
  -- many
  refine step (fun ρ1 S1 => ∃ k : Nat, 1 ≤ k ∧ k ≤ 6 ∧ ρ1 = [some (.ref l), some (.int (k : Int)), none, none, none, none, none, none] ∧ Mv S l S1) ?_ ?_
  · simp [esOf]
    refine (K.draw S 6 hp (by decide) (by decide)).mono fun d S1 ⟨r, e1, hr, mv1⟩ => ?_
    subst e1
    simp
    exact ⟨r + 1, by omega, by omega, by omega, mv1⟩
  rintro ρ1 S1 ⟨k, k1, k6, rfl, mv1⟩
  -- head, one
  refine step (fun ρ1 S2 => ∃ p : List Int, p.length = k ∧ Bd p ∧ ρ1 = [some (.ref l), some (.int (k : Int)), some (.str (headT k ++ Str.ofString "\n")), some (.str (lineT p ++ Str.ofString "\n")), none, none, none, none] ∧ Mv S l S2) ?_ ?_
  · have nk : (k : Int).natAbs < 10 ^ 60 := by
      have p60 : (10 : Nat) ^ 60 = 1000000000000000000000000000000000000000000000000000000000000 := by decide +kernel
      rw [p60]; omega
    have nl := num_len nk
    have a1 : ∀ S, binD .add (.str (Str.ofString "goods ")) (.str (numS k)) S = .ok (.str (headT k)) S := fun S => by rw [adds (by rw [len_goodsb]; omega), headT_eq]
    have hw := (head_wd (m := k) (by omega) (by omega)).1
    have a2 : ∀ S, binD .add (.str (headT k)) (.str (Str.ofString "\n")) S = .ok (.str (headT k ++ Str.ofString "\n")) S := fun S => adds (by rw [len_n]; omega)
    simp [-Ok_adds, esOf, tgsOf, Tgs.len, bi_str nk, a1, a2]
    simp [Ok_comp, srcRng_nat (m := k) (Nat.le_trans k6 (by decide))]
    refine Ok_comp_one (fun ys S3 => ∃ p : List Int, ys = p.map .int ∧ Bd p ∧ Mv S l S3) ⟨[], rfl, by simp [Bd], mv1⟩ ?_ ?_
    · rintro x mx ys S3 ⟨p, rfl, hb, mv⟩
      simp [wipeE]
      refine (K.draw S3 9 (mv.pool hp) (by decide) (by decide)).mono fun e S4 ⟨i, e1, i1, mv4⟩ => ?_
      subst e1
      simp
      refine ⟨p ++ [(i : Int) - 4], by simp, fun x mx => ?_, mv.trans mv4⟩
      rcases List.mem_append.mp mx with mx | mx
      · exact hb x mx
      · rw [List.mem_singleton.mp mx]; omega
    rintro ys S3 hl ⟨p, rfl, hb, mv2⟩
    rw [rangeD_len, List.length_map] at hl
    have zl : p.length ≤ 16777216 := by omega
    have rp : RowOk p := ⟨by omega, fun x mx => by
      have p60 : (10 : Nat) ^ 60 = 1000000000000000000000000000000000000000000000000000000000000 := by decide +kernel
      have := hb x mx
      rw [p60]; omega⟩
    have rw1 := (row_wd (p := p) (by omega) hb).1
    have lw := (line_wd (p := p) (by omega) hb).1
    have a3 : ∀ S, binD .add (.str (Str.ofString "pack ")) (.str (rowT p)) S = .ok (.str (lineT p)) S := fun S => by rw [adds (by rw [len_packb]; omega), lineT_eq]
    have a4 : ∀ S, binD .add (.str (lineT p)) (.str (Str.ofString "\n")) S = .ok (.str (lineT p ++ Str.ofString "\n")) S := fun S => adds (by rw [len_n]; omega)
    simp [-Ok_adds, K.rowt p rp, a3, a4, sz, zl]
    exact ⟨p, hl, hb, rfl, mv2⟩
  rintro ρ1 S2 ⟨p, pl, pb, rfl, mv2⟩
  have g0 : Good k [] := ⟨by omega, by omega, by simp, by simp⟩
  have g8 : Good k (List.replicate 8 p) := ⟨by omega, by omega, by simp, fun q mq => by rw [List.eq_of_mem_replicate mq]; exact ⟨by omega, pb⟩⟩
  have r0 : ownRead (sg (headT k ++ Str.ofString "\n")) = some ((k : Int), []) := by
    rw [← ownRead_listT g0, sg_listT]
    congr 1
    rw [sg_app, sg_n]
    simp [linesT, ended]
  have r8 : ownRead (sg ((headT k ++ Str.ofString "\n") ++ PySem.Txt.mul (lineT p ++ Str.ofString "\n") (8 : Nat))) = some ((k : Int), List.replicate 8 p) := by
    rw [sg_many 8 (by decide), ← sg_listT, ownRead_listT g8]
  have r9 : ownRead (sg ((headT k ++ Str.ofString "\n") ++ PySem.Txt.mul (lineT p ++ Str.ofString "\n") (9 : Nat))) = none := by
    rw [sg_many 9 (by decide), own_many (by decide)]
  have nn : Wd 1 (Str.ofString "\n") := wd_lit _ (by decide +kernel)
  have hh : Wd 13 (headT k ++ Str.ofString "\n") := (head_wd (m := k) (by omega) (by omega)).app nn
  have oo : Wd 48 (lineT p ++ Str.ofString "\n") := (line_wd (by omega) pb).app nn
  generalize headT k ++ Str.ofString "\n" = h at *
  generalize lineT p ++ Str.ofString "\n" = o at *
  have m8 := mul_wd 8 (by decide) oo
  have m9 := mul_wd 9 (by decide) oo
  have e8 : ∀ S, binD .mul (.str o) (.int 8) S = .ok (.str (PySem.Txt.mul o (8 : Nat))) S := fun S => muls 8 (by decide) (by decide) (by have := oo.1; omega)
  have e9 : ∀ S, binD .mul (.str o) (.int 9) S = .ok (.str (PySem.Txt.mul o (9 : Nat))) S := fun S => muls 9 (by decide) (by decide) (by have := oo.1; omega)
  generalize PySem.Txt.mul o (8 : Nat) = o8 at *
  generalize PySem.Txt.mul o (9 : Nat) = o9 at *
  have hl := Wd_last hh
  have ol := Wd_last oo
  have o4 := Wd_from 4 oo
  have o5 := Wd_from 5 oo
  have s4 : ∀ (s : Str), L2.cutS s (some 4) none = L2.cutS s (some ((4 : Nat) : Int)) none := fun _ => rfl
  have s5 : ∀ (s : Str), L2.cutS s (some 5) none = L2.cutS s (some ((5 : Nat) : Int)) none := fun _ => rfl
  rw [← s4] at o4
  rw [← s5] at o5
  generalize eh : L2.cutS h none (some (-1)) = h' at *
  generalize eo : L2.cutS o none (some (-1)) = o' at *
  generalize eo4 : L2.cutS o (some 4) none = p4 at *
  generalize eo5 : L2.cutS o (some 5) none = p5 at *
  have len := mv2.len
  -- the list
  refine step (fun ρ1 S3 => ∃ ys : List Str, ys.length = 9 ∧ (∀ y ∈ ys, Wd 640 y) ∧ ρ1 = [some (.ref l), some (.int (k : Int)), some (.str h), some (.str o), none, some (.ref S.length), none, none] ∧ S3 = S2 ++ [.lst (((h ++ o8) :: (h ++ o9) :: ys).map .str)]) ?_ ?_
  · have l1 := hh.1
    have l2 := oo.1
    have l3 := hl.1
    have l4 := ol.1
    have l5 := m8.1
    have l6 := m9.1
    have l7 := len_n
    simp (disch := first | ((try simp only [len_app]); omega) | simp) [-Ok_adds, esOf, e8, e9, hs, asI, eh, eo, adds, sz]
    refine ⟨[h, h', Str.ofString "\n" ++ h, h ++ Str.ofString "\n", h ++ o ++ h, o ++ h, o, h ++ o', h ++ o ++ Str.ofString "\n" ++ o], rfl, ?_, len, rfl⟩
    intro y my
    simp only [List.mem_cons, List.not_mem_nil, or_false] at my
    rcases my with rfl | rfl | rfl | rfl | rfl | rfl | rfl | rfl | rfl
    · exact hh.mono (by decide)
    · exact hl.mono (by decide)
    · exact (nn.app hh).mono (by decide)
    · exact (hh.app nn).mono (by decide)
    · exact ((hh.app oo).app hh).mono (by decide)
    · exact (oo.app hh).mono (by decide)
    · exact oo.mono (by decide)
    · exact (hh.app ol).mono (by decide)
    · exact (((hh.app oo).app nn).app oo).mono (by decide)
  rintro ρ1 S3 ⟨ys, yl, hy, rfl, rfl⟩
  have w8 : Wd 640 (h ++ o8) := (hh.app m8).mono (by decide)
  have w9 : Wd 640 (h ++ o9) := (hh.app m9).mono (by decide)
  generalize h ++ o8 = t8 at *
  generalize h ++ o9 = t9 at *
  have cell : ∀ {S5 : Store} {zs : List Str}, Mv S l S5 → (S5 ++ [Cell.lst (zs.map .str)])[S.length]? = some (.lst (zs.map .str)) := fun {S5 zs} mv => by rw [← mv.len]; simp
  have setc : ∀ {zs us : List Str}, (S2 ++ [Cell.lst (zs.map .str)]).set S.length (.lst (us.map .str)) = S2 ++ [Cell.lst (us.map .str)] := fun {zs us} => by rw [← len]; simp
  have app : ∀ {zs : List Str} {x : Str} {Q : D → Store → Prop}, zs.length ≤ 1000 → (Ok (mtD .append false (.ref S.length) [.str x] (S2 ++ [Cell.lst (zs.map .str)])) Q ↔ Q .non (S2 ++ [Cell.lst ((zs ++ [x]).map .str)])) := fun {zs x Q} hz => by
    have z : zs.length < 16777216 := by omega
    have e : (zs ++ [x]).map D.str = zs.map D.str ++ [D.str x] := by simp
    simp only [mtD, appendD, lstAt, cell mv2, List.length_map, sz, z, if_true, Ok_ok]
    rw [← e, setc]
  have mtt : ∀ {zs : List Str}, mtTy .append (.ref S.length) (S2 ++ [Cell.lst (zs.map .str)]) = true := fun {zs} => by simp only [mtTy, lstAt, cell mv2]; rfl
  -- the words
  refine step (fun ρ1 S3 => ∃ (o6 : Option D) (ys : List Str), ys.length = 22 ∧ (∀ y ∈ ys, Wd 640 y) ∧ ρ1 = [some (.ref l), some (.int (k : Int)), some (.str h), some (.str o), none, some (.ref S.length), o6, none] ∧ S3 = S2 ++ [.lst ((t8 :: t9 :: ys).map .str)]) ?_ ?_
  · simp only [Ok_for, Ok_sval, esOf, Ok_lst, Ok_econs, Ok_con, Ok_enil, Ok_mkL, sz]
    refine ⟨by simp, ?_⟩
    rw [if_neg (by decide)]
    simp only [srcVal, exO_some]
    refine Ok_for_inv (fun i ρ S3 => ∃ (o6 : Option D) (zs : List Str), zs.length = 9 + i ∧ (∀ y ∈ zs, Wd 640 y) ∧ ρ = [some (.ref l), some (.int (k : Int)), some (.str h), some (.str o), none, some (.ref S.length), o6, none] ∧ S3 = S2 ++ [.lst ((t8 :: t9 :: zs).map .str)]) ⟨none, ys, yl, hy, rfl, rfl⟩ (fun _ _ _ _ _ => trivial) ?_ ?_
    · rintro i x e ρ S3 ⟨o6, zs, zl, hz, rfl, rfl⟩
      have hi : i < 13 := (List.getElem?_eq_some_iff.mp e).1
      obtain ⟨w, rfl, hw⟩ := wds_of (B := 6) (by decide +kernel) (List.mem_of_getElem? e)
      clear e
      have ml : ∀ S, binD .mul (.lst [.str (Str.ofString "5")]) (.int ((k : Int) - 1)) S = .ok (.lst (List.replicate (k - 1) (.str (Str.ofString "5")))) S := fun S => by
        have ek : ((k : Int) - 1).toNat = k - 1 := by omega
        simp only [binD, mulD, ek]
        rw [if_pos ⟨by omega, by omega, by rw [List.length_singleton, sz]; omega⟩, rep_flat]
      have w5 : Wd 1 (Str.ofString "5") := wd_lit _ (by decide +kernel)
      have hws : ∀ x ∈ List.replicate (k - 1) (Str.ofString "5") ++ [w], Wd 6 x := fun x m => by
        rcases List.mem_append.mp m with m | m
        · rw [List.eq_of_mem_replicate m]; exact w5.mono (by decide)
        · rw [List.mem_singleton.mp m]; exact hw
      have jn : ∀ {S : Store} {Q : D → Store → Prop}, Ok (mtD .join false (.str (Str.ofString " ")) [.lst (List.replicate (k - 1) (.str (Str.ofString "5")) ++ [.str w])] S) Q ↔ Q (.str (PySem.Txt.join (Str.ofString " ") (List.replicate (k - 1) (Str.ofString "5") ++ [w]))) S := fun {S Q} => by
        have e : List.replicate (k - 1) (D.str (Str.ofString "5")) ++ [.str w] = (List.replicate (k - 1) (Str.ofString "5") ++ [w]).map .str := by simp
        rw [e]
        exact join_lst (fun x m => Nat.le_trans (hws x m).1 (by decide)) len_b (by simp; omega)
      have wj : Wd 100 (PySem.Txt.join (Str.ofString " ") (List.replicate (k - 1) (Str.ofString "5") ++ [w])) := Wd_join sg_b (by decide) (fun x m => (hws x m).2) (by
        have h1 := hw.1
        have h2 := w5.1
        rw [sg_len] at h1 h2
        rw [List.map_append, List.map_replicate, tot_app, tot_rep, List.map_singleton]
        have h3 : (k - 1) * ((sg (Str.ofString "5")).length + 1) ≤ 5 * 2 := Nat.mul_le_mul (by omega) (by omega)
        simp only [tot]
        omega)
      generalize PySem.Txt.join (Str.ofString " ") (List.replicate (k - 1) (Str.ofString "5") ++ [w]) = j at *
      have pk : Wd 5 (Str.ofString "pack ") := wd_lit _ (by decide +kernel)
      have wt := (((hh.app pk).app wj).app nn).mono (b := 640) (by decide)
      have l1 := hh.1
      have l2 := pk.1
      have l3 := wj.1
      have l4 := nn.1
      have zk : k - 1 + 1 ≤ 16777216 := by omega
      have mtj : ∀ (s : Str) (S : Store), mtTy .join (.str s) S = true := fun _ _ => rfl
      have a1 : ∀ S, binD .add (.str h) (.str (Str.ofString "pack ")) S = .ok (.str (h ++ Str.ofString "pack ")) S := fun S => adds (by omega)
      have a2 : ∀ S, binD .add (.str (h ++ Str.ofString "pack ")) (.str j) S = .ok (.str (h ++ Str.ofString "pack " ++ j)) S := fun S => adds (by rw [len_app]; omega)
      have a3 : ∀ S, binD .add (.str (h ++ Str.ofString "pack " ++ j)) (.str (Str.ofString "\n")) S = .ok (.str (h ++ Str.ofString "pack " ++ j ++ Str.ofString "\n")) S := fun S => adds (by rw [len_app, len_app]; omega)
      have mtt' := @mtt (t8 :: t9 :: zs)
      have app' := @app (t8 :: t9 :: zs) (h ++ Str.ofString "pack " ++ j ++ Str.ofString "\n")
      simp only [List.map_cons, List.cons_append, List.length_cons] at mtt' app'
      have z2 : zs.length + 1 + 1 ≤ 1000 := by omega
      simp [-Ok_adds, esOf, ssOf, mtt', app', ml, jn, zk, mtj, a1, a2, a3, sz, z2]
      refine ⟨_, zs ++ [h ++ Str.ofString "pack " ++ j ++ Str.ofString "\n"], by rw [List.length_append, zl]; rfl, fun y my => ?_, rfl, by simp⟩
      rcases List.mem_append.mp my with my | my
      · exact hz y my
      · rw [List.mem_singleton.mp my]; exact wt
    · rintro ρ S3 ⟨o6, zs, zl, hz, rfl, rfl⟩
      exact ⟨_, rfl, o6, zs, zl, hz, rfl, rfl⟩
  rintro ρ1 S3 ⟨o6, zs, zl, hz, rfl, rfl⟩
  clear hy yl
  -- the goods
  refine step (fun ρ1 S3 => ∃ (o6 : Option D) (ys : List Str), ys.length = 32 ∧ (∀ y ∈ ys, Wd 640 y) ∧ ρ1 = [some (.ref l), some (.int (k : Int)), some (.str h), some (.str o), none, some (.ref S.length), o6, none] ∧ S3 = S2 ++ [.lst ((t8 :: t9 :: ys).map .str)]) ?_ ?_
  · simp only [Ok_for, Ok_sval, esOf, Ok_lst, Ok_econs, Ok_con, Ok_enil, Ok_mkL, sz]
    refine ⟨by simp, ?_⟩
    rw [if_neg (by decide)]
    simp only [srcVal, exO_some]
    refine Ok_for_inv (fun i ρ S3 => ∃ (o6 : Option D) (zs : List Str), zs.length = 22 + i ∧ (∀ y ∈ zs, Wd 640 y) ∧ ρ = [some (.ref l), some (.int (k : Int)), some (.str h), some (.str o), none, some (.ref S.length), o6, none] ∧ S3 = S2 ++ [.lst ((t8 :: t9 :: zs).map .str)]) ⟨o6, zs, zl, hz, rfl, rfl⟩ (fun _ _ _ _ _ => trivial) ?_ ?_
    · rintro i x e ρ S3 ⟨o6, zs, zl, hz, rfl, rfl⟩
      have hi : i < 10 := (List.getElem?_eq_some_iff.mp e).1
      obtain ⟨w, rfl, hw⟩ := wds_of (B := 6) (by decide +kernel) (List.mem_of_getElem? e)
      clear e
      have gw : Wd 6 (Str.ofString "goods ") := wd_lit _ (by decide +kernel)
      have wt := ((gw.app hw).app nn).mono (b := 640) (by decide)
      have l1 := hw.1
      have l2 := gw.1
      have l4 := nn.1
      have a1 : ∀ S, binD .add (.str (Str.ofString "goods ")) (.str w) S = .ok (.str (Str.ofString "goods " ++ w)) S := fun S => adds (by omega)
      have a2 : ∀ S, binD .add (.str (Str.ofString "goods " ++ w)) (.str (Str.ofString "\n")) S = .ok (.str (Str.ofString "goods " ++ w ++ Str.ofString "\n")) S := fun S => adds (by rw [len_app]; omega)
      have mtt' := @mtt (t8 :: t9 :: zs)
      have app' := @app (t8 :: t9 :: zs) (Str.ofString "goods " ++ w ++ Str.ofString "\n")
      simp only [List.map_cons, List.cons_append, List.length_cons] at mtt' app'
      have z2 : zs.length + 1 + 1 ≤ 1000 := by omega
      simp [-Ok_adds, esOf, ssOf, mtt', app', a1, a2, sz, z2]
      refine ⟨_, zs ++ [Str.ofString "goods " ++ w ++ Str.ofString "\n"], by rw [List.length_append, zl]; rfl, fun y my => ?_, rfl, by simp⟩
      rcases List.mem_append.mp my with my | my
      · exact hz y my
      · rw [List.mem_singleton.mp my]; exact wt
    · rintro ρ S3 ⟨o6, zs, zl, hz, rfl, rfl⟩
      exact ⟨_, rfl, o6, zs, zl, hz, rfl, rfl⟩
  clear hz zl
  rintro ρ1 S3 ⟨o6, zs, zl, hz, rfl, rfl⟩
  -- seven more
  refine step (fun ρ1 S3 => ∃ (ys : List Str), ys.length = 39 ∧ (∀ y ∈ ys, Wd 640 y) ∧ ρ1 = [some (.ref l), some (.int (k : Int)), some (.str h), some (.str o), none, some (.lst ((t8 :: t9 :: ys).map .str)), o6, none] ∧ S3 = S2 ++ [.lst ((t8 :: t9 :: zs).map .str)]) ?_ ?_
  · have l1 := hh.1
    have l2 := oo.1
    have l3 := ol.1
    have l4 := o4.1
    have l5 := o5.1
    have w1 : Wd 5 (Str.ofString "pack\n") := wd_lit _ (by decide +kernel)
    have w2 : Wd 6 (Str.ofString "pack \n") := wd_lit _ (by decide +kernel)
    have w3 : Wd 4 (Str.ofString "Pack") := wd_lit _ (by decide +kernel)
    have w4 : Wd 6 (Str.ofString "pack  ") := wd_lit _ (by decide +kernel)
    have w5 : Wd 1 (Str.ofString " ") := wd_lit _ (by decide +kernel)
    have w6 : Wd 2 (Str.ofString " \n") := wd_lit _ (by decide +kernel)
    have w7 : Wd 5 (Str.ofString "packs") := wd_lit _ (by decide +kernel)
    have v1 := w1.1
    have v2 := w2.1
    have v3 := w3.1
    have v4 := w4.1
    have v5 := w5.1
    have v6 := w6.1
    have v7 := w7.1
    have adr : ∀ es : List D, es.length ≤ 100 → binD .add (.ref S.length) (.lst es) (S2 ++ [.lst ((t8 :: t9 :: zs).map .str)]) = .ok (.lst ((t8 :: t9 :: zs).map .str ++ es)) (S2 ++ [.lst ((t8 :: t9 :: zs).map .str)]) := fun es z => by
      simp only [binD, addD, asL, cell mv2]
      rw [if_pos (by rw [List.length_map, List.length_cons, List.length_cons, sz]; omega)]
    simp only [List.map_cons] at adr
    simp (disch := first | ((try simp only [len_app]); omega) | simp) [-Ok_adds, esOf, hs, asI, eo4, eo5, eo, adds, sz, adr]
    refine ⟨zs ++ [h ++ Str.ofString "pack\n", h ++ Str.ofString "pack \n", h ++ Str.ofString "Pack" ++ p4, h ++ Str.ofString "pack  " ++ p5, h ++ Str.ofString " " ++ o, h ++ o' ++ Str.ofString " \n", h ++ Str.ofString "packs" ++ p4], by rw [List.length_append, zl]; rfl, ?_, by simp⟩
    intro y my
    rcases List.mem_append.mp my with my | my
    · exact hz y my
    simp only [List.mem_cons, List.not_mem_nil, or_false] at my
    rcases my with rfl | rfl | rfl | rfl | rfl | rfl | rfl
    · exact (hh.app w1).mono (by decide)
    · exact (hh.app w2).mono (by decide)
    · exact ((hh.app w3).app o4).mono (by decide)
    · exact ((hh.app w4).app o5).mono (by decide)
    · exact ((hh.app w5).app oo).mono (by decide)
    · exact ((hh.app ol).app w6).mono (by decide)
    · exact ((hh.app w7).app o4).mono (by decide)
  rintro ρ1 S3 ⟨ys, yl, hy, rfl, rfl⟩
  have q0 := K.read h (hh.mono (by decide) : Wd 640 h).tok
  have q8 := K.read t8 w8.tok
  have q9 := K.read t9 w9.tok
  rw [r0] at q0
  rw [r8] at q8
  rw [r9] at q9
  have isn : ∀ m ps, isD (stD m ps) .non = some false := fun _ _ => rfl
  have isnn : isD .non .non = some true := rfl
  refine step (fun ρ1 S4 => ρ1 = [some (.ref l), some (.int (k : Int)), some (.str h), some (.str o), none, some (.lst ((t8 :: t9 :: ys).map .str)), o6, none] ∧ S2 ++ [.lst ((t8 :: t9 :: zs).map .str)] = S4) ?_ ?_
  · simp [esOf, ssOf, atI_0, atI_1, q0, q8, q9, optL, isn, isnn]
  rintro ρ1 S4 ⟨rfl, rfl⟩
  have key : ∀ {S : Store} {Q : D → Store → Prop}, Ok (evE C G (.comp false [7] (.var 7) (.var 7) (.val (.var 5)) (.cons (.not (.call "_law_is_read" (.cons (.var 7) .nil))) .nil)) [some (.ref l), some (.int (k : Int)), some (.str h), some (.str o), none, some (.lst ((t8 :: t9 :: ys).map .str)), o6, none] S) Q ↔ Q (.lst []) S := fun {S Q} => by
    rw [Ok_filter1 (xs := (t8 :: t9 :: ys).map .str) (fun _ => false) (by simp) (by simp) fun x kx => by
      obtain ⟨t, mt, rfl⟩ := List.mem_map.mp kx
      have ht : Wd 640 t := by
        rcases List.mem_cons.mp mt with rfl | mt
        · exact w8
        · rcases List.mem_cons.mp mt with rfl | mt
          · exact w9
          · exact hy t mt
      simp [wipeE, K.isr t ht.tok]]
    have e9 : ((t8 :: t9 :: ys).map D.str).filter (fun _ => false) = [] := List.filter_eq_nil_iff.mpr (by simp)
    rw [e9]
    simp [sz]
  simp only [List.map_cons] at key ⊢
  simp [esOf, key, eq_nil, sz]
  rw [gc_mvx mv2 (by rfl)]
  exact ⟨rfl, mv2⟩
end
end Pyx.K82
end
section
namespace Pyx.K82
open PySem (Str sizeLine)
open Pyx Pyx.Ty TL
structure Rg (C : Str → List D → Store → R D) (l : Nat) : Prop where
  draw : ∀ (S : Store) (m : Int), Pool S l → 0 < m → m < 1073741824 → Ok (C "_law_draw" [.ref l, .int m] S) fun d S1 => ∃ r : Nat, d = .int r ∧ (r : Int) < m ∧ Mv S l S1
  isr : ∀ text, TOk 640 text → ∀ S, C "_law_is_read" [.str text] S = .ok (.bl true) S
  read : ∀ text, TOk 640 text → ∀ S, C "_law_read_list" [.str text] S = .ok (optL (ownRead (sg text))) S
  list : ∀ (S : Store) (k : Nat) (way : Int), Pool S l → 1 ≤ k → k ≤ 6 → Ok (C "_law_list" [.ref l, .int k, .int 8, .int way] S) fun e S1 => ∃ ps, e = stD k ps ∧ Drawn k 8 ps ∧ Mv S l S1
  rows : ∀ (m : Int) (ps : List (List Int)), Good m ps → ∀ S, C "_law_list_rows" [stD m ps] S = .ok (.lst ((linesT m ps).map .str)) S
  bent : ∀ (S : Store) (text : Str) (B L : Nat), Pool S l → TB B L text → B ≤ 200 → L ≤ 9000 → Ok (C "_law_bent" [.ref l, .str text] S) fun d S1 => ∃ t, d = .str t ∧ TB (3 * B + 12) (L + 3 * B + 14) t ∧ Mv S l S1
  bounds : ∀ (S : Store), Pool S l → Ok (C "_law_bounds_right" [.ref l] S) fun d S1 => d = .bl true ∧ Mv S l S1
theorem drawn_good {k : Nat} {ps : List (List Int)} (h : Drawn k 8 ps) (h1 : 1 ≤ k) (h2 : k ≤ 6) : Good (k : Int) ps := ⟨by omega, by omega, h.len, fun p mp => ⟨by rw [(h.row p mp).1], (h.row p mp).2⟩⟩
theorem eqD_st (S : Store) (m m' : Int) (ps qs : List (List Int)) : eqD S (stD m ps) (stD m' qs) = some (decide (m = m' ∧ ps = qs)) := by
  have h : ∀ (m : Int) (ps : List (List Int)), flatIs 2 [.int m, .tup (ps.map pD)] = true := fun m ps => by simp [flatIs, flatI, flat_pDs]
  unfold stD
  rw [eqD_tup (k := 2) (h m ps) (h m' qs) (by decide)]
  simp only [D.eqs, D.eq, eqs_pDs, Bool.and_true]
  congr 1
  rw [Bool.eq_iff_iff]; simp
theorem join_list {S1 : Store} {Q : D → Store → Prop} {m : Int} {ps : List (List Int)} (h : Good m ps) : Ok (mtD .join false (.str (Str.ofString "")) [.lst (((linesT m ps).map (· ++ Str.ofString "\n")).map .str)] S1) Q ↔ Q (.str (listT m ps)) S1 :=
  Ok_join (k := 1001) (fun x k => by
    obtain ⟨s, ms, rfl⟩ := List.mem_map.mp k
    have := lines_len h.ok s ms
    rw [len_app, len_n]; omega) (by
    rw [len_e, List.length_map, linesT, List.length_cons, List.length_map]
    have := h.len
    exact Nat.le_trans (Nat.mul_le_mul_right 1001 (Nat.succ_le_succ this)) (by decide))
def noneD : D → Bool
  | .str s => (decide (s.length ≤ 640) && (sg s).all fun c => decide (c < 1000)) && decide (ownRead (sg s) = none)
  | _ => false
theorem nones_of {l : List D} (h : l.all noneD = true) {x : D} (m : x ∈ l) : ∃ w, x = .str w ∧ Wd 640 w ∧ ownRead (sg w) = none := by
  have := List.all_eq_true.mp h x m
  cases x with
  | str s =>
    rw [noneD, Bool.and_eq_true, decide_eq_true_eq] at this
    exact ⟨s, rfl, wd_lit s this.1, this.2⟩
  | _ => cases this
section
variable {C : Str → List D → Store → R D} {G : Str → Option D}
theorem ok_right {l : Nat} {S : Store} (K : Rg C l) (hp : Pool S l) : Ok (exSs C G 0 b_l_right (([.ref l] : List D).map some ++ List.replicate (7 - 1) none) S) (leave S fun d S1 => d = .bl true ∧ Mv S l S1) := by
  simp only [b_l_right, ssOf, List.map_cons, List.map_nil, List.cons_append, List.nil_append, List.replicate]
  have isn : ∀ m ps, isD (stD m ps) .non = some false := fun _ _ => rfl
  have isnn : isD .non .non = some true := rfl
  refine step (fun ρ1 S1 => ∃ o1 o2 o3 o4 o5 o6, ρ1 = [some (.ref l), o1, o2, o3, o4, o5, o6] ∧ Mv S l S1) ?_ ?_
  · have s3 : srcRng [.int 3] = some (rangeD 0 3) := srcRng_nat (m := 3) (by decide)
    simp only [Ok_for, esOf, Ok_srng, Ok_econs, Ok_con, Ok_enil, s3, exO_some]
    refine Ok_for_inv (fun i ρ S1 => ∃ o1 o2 o3 o4 o5 o6, ρ = [some (.ref l), o1, o2, o3, o4, o5, o6] ∧ Mv S l S1) ⟨_, _, _, _, _, _, rfl, Mv.refl hp⟩ (fun _ _ _ _ _ => trivial) ?_ ?_
    · rintro i x e ρ S1 ⟨o1, o2, o3, o4, o5, o6, rfl, mv⟩
      obtain ⟨j, mj, rfl⟩ := List.mem_map.mp (List.mem_of_getElem? e)
      have hj := List.mem_range.mp mj
      have hpool := mv.pool hp
      simp only [Ok_bind, Ok_tvar]
      refine ⟨by simp, ?_⟩
      simp only [List.set_cons_succ, List.set_cons_zero]
      -- stock
      refine step (fun ρ1 S2 => ∃ (k : Nat) (ps : List (List Int)), Good k ps ∧ ρ1 = [some (.ref l), some (.int (0 + (j : Int))), some (stD k ps), o3, o4, o5, o6] ∧ Mv S l S2) ?_ ?_
      · obtain ⟨d, ed, md⟩ := atI_nat (xs := [D.int 1, .int 3, .int 6]) (i := (j : Int)) (by omega) (by simp; omega)
        obtain ⟨k, k1, k6, rfl⟩ : ∃ k : Nat, 1 ≤ k ∧ k ≤ 6 ∧ d = .int (k : Int) := by
          simp only [List.mem_cons, List.not_mem_nil, or_false] at md
          rcases md with rfl | rfl | rfl
          · exact ⟨1, by decide, by decide, rfl⟩
          · exact ⟨3, by decide, by decide, rfl⟩
          · exact ⟨6, by decide, by decide, rfl⟩
        simp [sz, esOf, ed]
        refine (K.draw _ 3 hpool (by decide) (by decide)).mono fun d S3 ⟨r, e1, _, mv3⟩ => ?_
        subst e1
        refine (K.list _ k r (mv3.pool hpool) k1 k6).mono fun d S4 ⟨ps, e4, dr, mv4⟩ => ?_
        subst e4
        exact ⟨k, ps, drawn_good dr k1 k6, rfl, mv.trans (mv3.trans mv4)⟩
      rintro ρ1 S2 ⟨k, ps, gd, rfl, mv2⟩
      generalize D.int (0 + (j : Int)) = v1
      have tb := listT_tb gd
      -- text
      refine step (fun ρ1 S3 => ρ1 = [some (.ref l), some v1, some (stD k ps), some (.str (listT k ps)), o4, o5, o6] ∧ S2 = S3) ?_ ?_
      · have rows := K.rows _ _ gd
        have key : ∀ {S : Store} {Q : D → Store → Prop}, Ok (evE C G (.comp false [4] (.bin .add (.var 4) (.con (.str (Str.ofString "\n")))) (.var 4) (.val (.call "_law_list_rows" (.cons (.var 2) .nil))) .nil) [some (.ref l), some v1, some (stD k ps), o3, o4, o5, o6] S) Q ↔ Q (.lst (((linesT k ps).map (· ++ Str.ofString "\n")).map .str)) S := fun {S Q} => by
          rw [Ok_map1 (xs := (linesT k ps).map .str) (fun x => .str (strOf x ++ Str.ofString "\n")) (by simp [rows]) (by simp) fun x kx => by
            obtain ⟨s, ms, rfl⟩ := List.mem_map.mp kx
            have := lines_len gd.ok s ms
            have z5 : s.length + 1 ≤ 16777216 := by omega
            simp [sz, wipeE, len_n, z5, strOf]]
          have zl : ((linesT k ps).map D.str).length ≤ sizeLine := by
            rw [List.length_map, linesT, List.length_cons, List.length_map, sz]
            have := gd.len
            omega
          simp only [zl, true_and, List.map_map]
          rfl
        simp [-List.map_map, esOf, key, join_list gd, mtTy]
      rintro ρ1 S3 ⟨rfl, rfl⟩
      have t1 := tb.ok (by decide) (by decide)
      have i1 := K.isr _ t1
      have d1 := K.read _ t1
      rw [ownRead_listT gd] at d1
      have ee : ∀ S, eqD S (stD k ps) (stD k ps) = some true := fun S => by rw [eqD_st]; simp
      refine step (fun ρ1 S3 => ρ1 = [some (.ref l), some v1, some (stD k ps), some (.str (listT k ps)), o4, o5, o6] ∧ S2 = S3) ?_ ?_
      · simp [esOf, ssOf, i1, d1, optL, ee]
      rintro ρ1 S3 ⟨rfl, rfl⟩
      generalize listT (k : Int) ps = text at *
      generalize stD (k : Int) ps = v2 at *
      -- bent
      refine step (fun ρ1 S3 => ∃ o5 o6, ρ1 = [some (.ref l), some v1, some v2, some (.str text), o4, o5, o6] ∧ Mv S l S3) ?_ ?_
      · have s18 : srcRng [.int 18] = some (rangeD 0 18) := srcRng_nat (m := 18) (by decide)
        simp only [Ok_for, esOf, Ok_srng, Ok_econs, Ok_con, Ok_enil, s18, exO_some]
        refine Ok_for_inv (fun i ρ S3 => ∃ o5 o6, ρ = [some (.ref l), some v1, some v2, some (.str text), o4, o5, o6] ∧ Mv S l S3) ⟨o5, o6, rfl, mv2⟩ (fun _ _ _ _ _ => trivial) ?_ ?_
        · rintro i x e ρ S3 ⟨o5, o6, rfl, mv3⟩
          simp only [Ok_bind, Ok_tvar]
          refine ⟨by simp, ?_⟩
          simp only [List.set_cons_succ, List.set_cons_zero]
          refine step (fun ρ1 S4 => ∃ t, TB 153 600 t ∧ ρ1 = [some (.ref l), some v1, some v2, some (.str text), o4, some x, some (.str t)] ∧ Mv S l S4) ?_ ?_
          · simp [esOf]
            refine (K.bent _ text 47 440 (mv3.pool hp) tb (by decide) (by decide)).mono fun d S4 ⟨t, e4, tb4, mv4⟩ => ?_
            subst e4
            exact ⟨t, tb4.mono (by decide) (by decide), rfl, mv3.trans mv4⟩
          rintro ρ1 S4 ⟨t, tb4, rfl, mv4⟩
          have i2 := K.isr t (tb4.ok (by decide) (by decide))
          simp [esOf, ssOf, i2]
          refine (K.bent _ t 153 600 (mv4.pool hp) tb4 (by decide) (by decide)).mono fun d S5 ⟨t2, e5, tb5, mv5⟩ => ?_
          subst e5
          have i3 := K.isr t2 (tb5.ok (by decide) (by decide))
          simp [i3]
          exact mv4.trans mv5
        · rintro ρ S3 ⟨o5, o6, rfl, mv3⟩
          exact ⟨_, rfl, o5, o6, rfl, mv3⟩
      rintro ρ1 S3 ⟨p5, p6, rfl, mv3⟩
      simp
      exact mv3
    · rintro ρ S1 ⟨o1, o2, o3, o4, o5, o6, rfl, mv⟩
      exact ⟨_, rfl, _, _, _, _, _, _, rfl, mv⟩
  rintro ρ1 S1 ⟨o1, o2, o3, o4, o5, o6, rfl, mv⟩
  refine step (fun ρ1 S1 => ∃ o3, ρ1 = [some (.ref l), o1, o2, o3, o4, o5, o6] ∧ Mv S l S1) ?_ ?_
  · simp only [Ok_for, Ok_sval, esOf, Ok_lst, Ok_econs, Ok_con, Ok_enil, Ok_mkL, sz]
    refine ⟨by simp, ?_⟩
    rw [if_neg (by decide)]
    simp only [srcVal, exO_some]
    refine Ok_for_inv (fun i ρ S1 => ∃ o3, ρ = [some (.ref l), o1, o2, o3, o4, o5, o6] ∧ Mv S l S1) ⟨o3, rfl, mv⟩ (fun _ _ _ _ _ => trivial) ?_ ?_
    · rintro i x e ρ S2 ⟨o3, rfl, mv2⟩
      obtain ⟨w, rfl, hw, ew⟩ := nones_of (by decide +kernel) (List.mem_of_getElem? e)
      clear e
      have i1 := K.isr w hw.tok
      have d1 := K.read w hw.tok
      rw [ew] at d1
      simp [esOf, ssOf, i1, d1, optL, isnn]
      exact mv2
    · rintro ρ S1 ⟨o3, rfl, mv⟩
      exact ⟨_, rfl, o3, rfl, mv⟩
  rintro ρ1 S1 ⟨o3, rfl, mv⟩
  simp [esOf]
  refine (K.bounds S1 (mv.pool hp)).mono fun d S2 ⟨e, mv2⟩ => ?_
  subst e
  rw [gc_mv (mv.trans mv2)]
  exact ⟨rfl, mv.trans mv2⟩
end
theorem ok_pool (n : Nat) (ns : List Int) (hn : ns.length ≤ 63) (S0 : Store) {t : Int} (t0 : 0 ≤ t) (t1 : t < 3) : Ok (cf (n + 1) "_law_pool" [.fz (ns.map .int), .int t] S0) fun d S => d = .ref S0.length ∧ Pool S S0.length := by
  rw [cf, Ok_callF t_l_pool rfl]
  have md2 : ∀ x : Int, ∀ S, binD .mod (.int x) (.int 2147483579) S = .ok (.int (x % 2147483579)) S := fun x S => binD_mod (by decide)
  have mo1 : ∀ x : Int, mulOk 70001 x = true := fun x => mulOk_l (by decide)
  have mo2 : ∀ x : Int, mulOk 5087 x = true := fun x => mulOk_l (by decide)
  have mo3 : ∀ x : Int, mulOk x 48271 = true := fun x => mulOk_r (by decide)
  have mo4 : ∀ x : Int, mulOk x 1013 = true := fun x => mulOk_r (by decide)
  have pw : ∀ S, binD .pow (.int 10) (.int 18) S = .ok (.int 1000000000000000000) S := fun S => by
    simp only [binD, powD]
    rw [if_pos (by decide)]; rfl
  have sl : ∀ S, slD false (.fz (ns.map .int)) none (some 63) S = .ok (.lst ((ns.take 63).map .int)) S := fun S => by
    simp only [slD, asQ, mkL]
    rw [show cut (ns.map D.int) none (some 63) = (ns.map D.int).take 63 from cut_to _ 63, ← List.map_take, if_pos (by rw [List.length_map, List.length_take, sz]; omega)]; rfl
  have gcr : ∀ c : Cell, gc S0 (.ref S0.length) (S0 ++ [c]) = .ok (.ref S0.length) (S0 ++ [c]) := fun c => by
    unfold gc
    rw [if_neg]
    intro h
    have := h.1
    simp [D.bnd] at this
  have main : ∀ own : Int, Ok (exSs (callF tab pr.gl 0 n) pr.gl 0 (ssOf [(.for (.var 4) (.val (.sl false (.var 0) .none (.some (.con (.int 63))))) (ssOf [(.asg (.var 3) (.bin .mod (.bi .int false (esOf [(.bin .add (.bin .add (.bin .mul (.var 3) (.con (.int 48271))) (.bin .mod (.bi .int false (esOf [(.var 4)])) (.con (.int 2147483579)))) (.con (.int 1412)))])) (.con (.int 2147483579))))])), (.ret (.lst true (esOf [(.bin .mod (.bi .int false (esOf [(.bin .add (.var 3) (.bin .mul (.var 2) (.con (.int 1013))))])) (.con (.int 2147483579))), (.ite (.or (.cmp .lt (.var 2) (.con (.int 0))) (.cmp .ge (.var 2) (.bin .pow (.con (.int 10)) (.con (.int 18))))) (.bi .abs false (esOf [(.var 2)])) (.con (.int 0))), (.con (.int 0))])))])
      [some (.fz (ns.map .int)), some (.int t), some (.int own), some (.int (825578 + 5087 * t)), none] S0) (leave S0 fun d S => d = .ref S0.length ∧ Pool S S0.length) := fun own => by
    simp [ssOf, esOf, Ok_for, asI, sl]
    refine Ok_for_inv (fun i ρ S1 => ∃ st o4, ρ = [some (.fz (ns.map .int)), some (.int t), some (.int own), some (.int st), o4] ∧ S1 = S0) ⟨_, _, rfl, rfl⟩ (fun _ _ _ _ _ => trivial) ?_ ?_
    · rintro i x e ρ S1 ⟨st, o4, rfl, rfl⟩
      obtain ⟨y, ey, rfl⟩ := List.mem_map.mp (List.mem_of_mem_take (List.mem_of_getElem? e))
      simp [bi_int_int, mo3, md2]
    · rintro ρ S1 ⟨st, o4, rfl, rfl⟩
      have fin : ∀ (S : Store) (a b : Int), Pool (S ++ [Cell.lst [.int a, .int b, .int 0]]) S.length := fun S a b => ⟨(a, b, 0), by simp [PL]⟩
      by_cases c1 : own < 0
      · simp [bi_int_int, mo4, md2, c1, bi_abs, sz, gcr, fin]
      · by_cases c2 : (1000000000000000000 : Int) ≤ own
        · simp [bi_int_int, mo4, md2, c1, c2, pw, bi_abs, sz, gcr, fin]
        · simp [bi_int_int, mo4, md2, c1, c2, pw, sz, gcr, fin]
  simp only [b_l_pool]
  rw [ssOf, Ok_scons]
  by_cases c : t < ns.length
  · obtain ⟨d, e1, md⟩ := atI_nat (xs := ns.map D.int) t0 (by rw [List.length_map]; exact c)
    obtain ⟨own, mo, rfl⟩ := List.mem_map.mp md
    have := main own
    simp [esOf, tgsOf, c, e1, bi_int_int, mo2, Tgs.len, sz]
    exact this
  · have := main (70001 * t + 3494)
    simp [esOf, tgsOf, c, bi_int_int, mo1, mo2, Tgs.len, sz]
    exact this

theorem low (n l : Nat) : Low (callF tab pr.gl 0 (n + 2)) l where
  draw := fun S m hp h0 h1 => (K82.draw (n + 1) S l m hp h0 h1).mono fun d S1 ⟨r, e, r0, r1, mv⟩ => ⟨r.toNat, by rw [e, Int.toNat_of_nonneg r0], by rw [Int.toNat_of_nonneg r0]; exact r1, mv⟩
  pick := fun S d ds hp it h0 h1 => ok_pick K82.draw libL (n := n) hp it h0 h1
theorem mid (n l : Nat) : Mid (callF tab pr.gl 0 (n + 3)) l where
  draw := (low (n + 1) l).draw
  pick := (low (n + 1) l).pick
  turned := fun S row hp hr => by
    rw [Ok_callF t_l_turned rfl]
    exact ok_turned (low n l) hp hr
theorem row_text_lst {n : Nat} {S : Store} {p : List Int} (h : RowOk p) : callF tab pr.gl 0 (n + 1) "_law_row_text" [.lst (p.map .int)] S = .ok (.str (rowT p)) S := by
  apply eq_of_ok
  rw [Ok_callF libF.t_l_row_text rfl]
  have zl : (p.map D.int).length ≤ sizeLine := by rw [List.length_map, sz]; have := h.len; omega
  have key : ∀ {S : Store} {Q : D → Store → Prop}, Ok (evE (callF tab pr.gl 0 n) pr.gl (.comp false [1] (.bi .str false (.cons (.var 1) .nil)) (.var 1) (.val (.var 0)) .nil) [some (.lst (p.map .int)), none] S) Q ↔ Q (.lst ((p.map numS).map .str)) S := fun {S Q} => by
    rw [Ok_map1 (xs := p.map .int) (fun x => .str (numS (intOf x))) (by simp) (by simp) fun x k => by
      obtain ⟨i, mi, rfl⟩ := List.mem_map.mp k
      simp [wipeE, bi_str (h.num i mi), intOf]]
    have e : List.map (fun x => D.str (numS (intOf x))) (p.map .int) = (p.map numS).map .str := by
      rw [List.map_map, List.map_map]; rfl
    rw [e]
    simp only [zl, true_and]
    rfl
  have hj : ∀ {S : Store} {Q : D → Store → Prop}, Ok (mtD .join false (.str (Str.ofString " ")) [.lst ((p.map numS).map .str)] S) Q ↔ Q (.str (rowT p)) S := fun {S Q} => Ok_join (k := 61) (fun x m => by
    obtain ⟨i, mi, rfl⟩ := List.mem_map.mp m
    exact num_len (h.num i mi)) (by
    rw [len_b, List.length_map, sz]
    have := h.len
    have := Nat.mul_le_mul_right 62 this
    omega)
  simp [-List.map_map, Ty.b_l_row_text, esOf, ssOf, mtTy, key, hj]
theorem topC (n l : Nat) : Top (callF tab pr.gl 0 (n + 9)) l where
  draw := (low (n + 7) l).draw
  isr := fun text h S => ok_is_read (n := n + 1) h
  read := fun text h S => ok_l_read_list_any libF libFl h (n := n + 6)
  rowt := fun p h S => row_text_lst (n := n + 8) h
theorem rg (n l : Nat) : Rg (callF tab pr.gl 0 (n + 10)) l where
  draw := (low (n + 8) l).draw
  isr := fun text h S => ok_is_read (n := n + 2) h
  read := fun text h S => ok_l_read_list_any libF libFl h (n := n + 7)
  list := fun S k way hp k1 k2 => ok_list K82.draw libL libN libLs (n := n + 5) (way := way) (m := k) (k := 8) hp k1 (by omega) (by decide)
  rows := fun m ps g S => ok_l_list_rows libF libFl g.ok (n := n + 8)
  bent := fun S text B L hp hr hB hL => by
    rw [Ok_callF t_l_bent rfl]
    exact ok_bent (mid (n + 6) l) hp hr hB hL
  bounds := fun S hp => by
    rw [Ok_callF t_l_bounds_right rfl]
    exact ok_bounds (topC n l) hp
theorem right_ok {n l : Nat} {S : Store} (hp : Pool S l) : Ok (callF tab pr.gl 0 (n + 11) "_law_right" [.ref l] S) fun d S1 => d = .bl true ∧ Mv S l S1 := by
  rw [Ok_callF t_l_right rfl]
  exact ok_right (rg n l) hp
section
variable {C : Str → List D → Store → R D} {G : Str → Option D}
theorem ok_law {ns : List Int} (hn : ns.length ≤ 63) (hp : ∀ (S : Store) (t : Int), 0 ≤ t → t < 3 → Ok (C "_law_pool" [.fz (ns.map .int), .int t] S) fun d S1 => d = .ref S.length ∧ Pool S1 S.length)
    (hr : ∀ S l, Pool S l → Ok (C "_law_right" [.ref l] S) fun d S1 => d = .bl true ∧ Mv S l S1) :
    Ok (exSs C G 0 b_law (([.fz (ns.map .int)] : List D).map some ++ List.replicate (2 - 1) none) []) (leave [] fun d _ => d = .bl true) := by
  simp only [b_law, ssOf, List.map_cons, List.map_nil, List.cons_append, List.nil_append, List.replicate]
  have bm : ∀ (a b : Int) (S : Store), biD .max false [.int a, .int b] S = .ok (.int (if b > a then b else a)) S := fun a b S => rfl
  have bn : ∀ (a b : Int) (S : Store), biD .min false [.int a, .int b] S = .ok (.int (if b < a then b else a)) S := fun a b S => rfl
  have fr : ∀ t : Nat, t ≤ 3 → srcRng [.int (t : Int)] = some (rangeD 0 t) := fun t ht => srcRng_nat (by omega)
  obtain ⟨t, ht, et⟩ : ∃ t : Nat, t ≤ 3 ∧ (if 2 < if (3 : Int) < ns.length then 3 else (ns.length : Int) then if (3 : Int) < ns.length then 3 else (ns.length : Int) else 2) = (t : Int) := by
    by_cases c1 : (3 : Int) < ns.length
    · exact ⟨3, by omega, by simp [c1]⟩
    · by_cases c2 : (2 : Int) < ns.length
      · exact ⟨ns.length, by omega, by simp [c1, c2]⟩
      · exact ⟨2, by omega, by simp [c1, c2]⟩
  refine step (fun ρ1 S1 => True) ?_ (fun ρ1 S1 _ => by
    have g : ∀ S1, gc [] (.bl true) S1 = .ok (.bl true) (S1.take 0) ∨ gc [] (.bl true) S1 = .ok (.bl true) S1 := fun S1 => by
      unfold gc
      split
      · exact .inl rfl
      · exact .inr rfl
    simp
    rcases g S1 with e | e <;> rw [e] <;> rfl)
  simp only [Ok_for, esOf, Ok_srng, Ok_econs, Ok_bi, Ok_var, Ok_con, Ok_enil]
  simp [bm, bn]
  rw [et, fr t ht]
  simp only [exO_some]
  refine Ok_for_inv (fun i ρ S1 => ∃ o, ρ = [some (.fz (ns.map .int)), o]) ⟨none, rfl⟩ (fun _ _ _ _ _ => trivial) ?_ ?_
  · rintro i x e ρ S1 ⟨o, rfl⟩
    obtain ⟨j, mj, rfl⟩ := List.mem_map.mp (List.mem_of_getElem? e)
    have hj := List.mem_range.mp mj
    simp
    refine (hp S1 (j : Int) (by omega) (by omega)).mono fun d S2 ⟨e1, p1⟩ => ?_
    subst e1
    refine (hr S2 _ p1).mono fun d S3 ⟨e2, mv⟩ => ?_
    subst e2
    simp
  · rintro ρ S1 ⟨o, rfl⟩
    exact ⟨_, rfl⟩
end
theorem law_true (ns : List Int) (hl : ns.length ≤ 63) : ∃ S, callF tab pr.gl 0 60 "law" [.fz (ns.map .int)] [] = .ok (.bl true) S := by
  have h : Ok (callF tab pr.gl 0 60 "law" [.fz (ns.map .int)] []) fun d _ => d = .bl true := by
    rw [Ok_callF t_law rfl]
    exact ok_law hl (fun S t t0 t1 => ok_pool 58 ns hl S t0 t1) fun S l hp => right_ok (n := 48) hp
  obtain ⟨a, S1, e, rfl⟩ := h.get
  exact ⟨S1, e⟩
end Pyx.K82
end
section
open PySem PySem.W PyProof.Rows in
set_option maxRecDepth 100000 in
set_option maxHeartbeats 0 in
theorem PySem.Challenge.cw_packtags_k82_whole_texts_of_lists_bent_holds : PySem.Challenge.rw_packtags_k82_whole_texts_of_lists_bent.Holds := by
  w_on; o_law; k_head; (case hw => w_witness2)
  k_fill
  refine Pyx.walk (l := PySem.Challenge.rw_packtags_k82_whole_texts_of_lists_bent) (P := Pyx.K82.pr) (T := Pyx.K82.tab) (W := 0) (m := 60) (f := "law") (x := "script") rfl rfl ⟨by decide, by decide, by decide⟩ (fun w h Y => PySem.W.kIn_of Y) rfl rfl ?F (fun ns hl => Pyx.K82.law_true ns hl)
  case F =>
    intro w mg h X G
    refine' Pyx.Prog.of (k := 60) X G Pyx.K82.pr Pyx.K82.pr_eq Pyx.K82.keys Pyx.K82.scopes Pyx.K82.texts ?sh ?hcl ?hb ?hg ?her ?hxi ?hxm ?hhh
    (case sh =>
      intro r m
      rcases List.mem_cons.mp m with rfl | m
      · refine' And.intro rfl (Pyx.Shown.mk' X G ⟨rfl, rfl⟩ (fun _ _ _ _ _ _ us hl => match us, hl with | [_], _ => rfl) ?kb ?a ?l ?c ?k)
        (case kb =>
          intro kV doc pm an cdv ct p m pl e
          cases m)
        (case a => k_is)
        (case l => k_is)
        (case c => k_is)
        (case k => k_is)
      rcases List.mem_cons.mp m with rfl | m
      · refine' And.intro rfl (Pyx.Shown.mk' X G ⟨rfl, rfl⟩ (fun _ _ _ _ _ _ us hl => match us, hl with | [_, _, _], _ => rfl) ?kb ?a ?l ?c ?k)
        (case kb =>
          intro kV doc pm an cdv ct p m pl e
          cases m)
        (case a => k_is)
        (case l => k_is)
        (case c => k_is)
        (case k => k_is)
      rcases List.mem_cons.mp m with rfl | m
      · refine' And.intro rfl (Pyx.Shown.mk' X G ⟨rfl, rfl⟩ (fun _ _ _ _ _ _ us hl => match us, hl with | [_, _], _ => rfl) ?kb ?a ?l ?c ?k)
        (case kb =>
          intro kV doc pm an cdv ct p m pl e
          cases m)
        (case a => k_is)
        (case l => k_is)
        (case c => k_is)
        (case k => k_is)
      rcases List.mem_cons.mp m with rfl | m
      · refine' And.intro rfl (Pyx.Shown.mk' X G ⟨rfl, rfl⟩ (fun _ _ _ _ _ _ us hl => match us, hl with | [_, _, _, _], _ => rfl) ?kb ?a ?l ?c ?k)
        (case kb =>
          intro kV doc pm an cdv ct p m pl e
          cases m)
        (case a => k_is)
        (case l => k_is)
        (case c => k_is)
        (case k => k_is)
      rcases List.mem_cons.mp m with rfl | m
      · refine' And.intro rfl (Pyx.Shown.mk' X G ⟨rfl, rfl⟩ (fun _ _ _ _ _ _ us hl => match us, hl with | [_, _], _ => rfl) ?kb ?a ?l ?c ?k)
        (case kb =>
          intro kV doc pm an cdv ct p m pl e
          cases m)
        (case a => k_is)
        (case l => k_is)
        (case c => k_is)
        (case k => k_is)
      rcases List.mem_cons.mp m with rfl | m
      · refine' And.intro rfl (Pyx.Shown.mk' X G ⟨rfl, rfl⟩ (fun _ _ _ _ _ _ us hl => match us, hl with | [_], _ => rfl) ?kb ?a ?l ?c ?k)
        (case kb =>
          intro kV doc pm an cdv ct p m pl e
          cases m)
        (case a => k_is)
        (case l => k_is)
        (case c => k_is)
        (case k => k_is)
      rcases List.mem_cons.mp m with rfl | m
      · refine' And.intro rfl (Pyx.Shown.mk' X G ⟨rfl, rfl⟩ (fun _ _ _ _ _ _ us hl => match us, hl with | [_], _ => rfl) ?kb ?a ?l ?c ?k)
        (case kb =>
          intro kV doc pm an cdv ct p m pl e
          cases m)
        (case a => k_is)
        (case l => k_is)
        (case c => k_is)
        (case k => k_is)
      rcases List.mem_cons.mp m with rfl | m
      · refine' And.intro rfl (Pyx.Shown.mk' X G ⟨rfl, rfl⟩ (fun _ _ _ _ _ _ us hl => match us, hl with | [_], _ => rfl) ?kb ?a ?l ?c ?k)
        (case kb =>
          intro kV doc pm an cdv ct p m pl e
          cases m)
        (case a => k_is)
        (case l => k_is)
        (case c => k_is)
        (case k => k_is)
      rcases List.mem_cons.mp m with rfl | m
      · refine' And.intro rfl (Pyx.Shown.mk' X G ⟨rfl, rfl⟩ (fun _ _ _ _ _ _ us hl => match us, hl with | [_], _ => rfl) ?kb ?a ?l ?c ?k)
        (case kb =>
          intro kV doc pm an cdv ct p m pl e
          cases m)
        (case a => k_is)
        (case l => k_is)
        (case c => k_is)
        (case k => k_is)
      rcases List.mem_cons.mp m with rfl | m
      · refine' And.intro rfl (Pyx.Shown.mk' X G ⟨rfl, rfl⟩ (fun _ _ _ _ _ _ us hl => match us, hl with | [_, _], _ => rfl) ?kb ?a ?l ?c ?k)
        (case kb =>
          intro kV doc pm an cdv ct p m pl e
          cases m)
        (case a => k_is)
        (case l => k_is)
        (case c => k_is)
        (case k => k_is)
      rcases List.mem_cons.mp m with rfl | m
      · refine' And.intro rfl (Pyx.Shown.mk' X G ⟨rfl, rfl⟩ (fun _ _ _ _ _ _ us hl => match us, hl with | [_], _ => rfl) ?kb ?a ?l ?c ?k)
        (case kb =>
          intro kV doc pm an cdv ct p m pl e
          cases m)
        (case a => k_is)
        (case l => k_is)
        (case c => k_is)
        (case k => k_is)
      rcases List.mem_cons.mp m with rfl | m
      · refine' And.intro rfl (Pyx.Shown.mk' X G ⟨rfl, rfl⟩ (fun _ _ _ _ _ _ us hl => match us, hl with | [_], _ => rfl) ?kb ?a ?l ?c ?k)
        (case kb =>
          intro kV doc pm an cdv ct p m pl e
          cases m)
        (case a => k_is)
        (case l => k_is)
        (case c => k_is)
        (case k => k_is)
      rcases List.mem_cons.mp m with rfl | m
      · refine' And.intro rfl (Pyx.Shown.mk' X G ⟨rfl, rfl⟩ (fun _ _ _ _ _ _ us hl => match us, hl with | [_], _ => rfl) ?kb ?a ?l ?c ?k)
        (case kb =>
          intro kV doc pm an cdv ct p m pl e
          cases m)
        (case a => k_is)
        (case l => k_is)
        (case c => k_is)
        (case k => k_is)
      rcases List.mem_cons.mp m with rfl | m
      · refine' And.intro rfl (Pyx.Shown.mk' X G ⟨rfl, rfl⟩ (fun _ _ _ _ _ _ us hl => match us, hl with | [_, _], _ => rfl) ?kb ?a ?l ?c ?k)
        (case kb =>
          intro kV doc pm an cdv ct p m pl e
          cases m)
        (case a => k_is)
        (case l => k_is)
        (case c => k_is)
        (case k => k_is)
      rcases List.mem_cons.mp m with rfl | m
      · refine' And.intro rfl (Pyx.Shown.mk' X G ⟨rfl, rfl⟩ (fun _ _ _ _ _ _ us hl => match us, hl with | [_, _], _ => rfl) ?kb ?a ?l ?c ?k)
        (case kb =>
          intro kV doc pm an cdv ct p m pl e
          cases m)
        (case a => k_is)
        (case l => k_is)
        (case c => k_is)
        (case k => k_is)
      rcases List.mem_cons.mp m with rfl | m
      · refine' And.intro rfl (Pyx.Shown.mk' X G ⟨rfl, rfl⟩ (fun _ _ _ _ _ _ us hl => match us, hl with | [_, _], _ => rfl) ?kb ?a ?l ?c ?k)
        (case kb =>
          intro kV doc pm an cdv ct p m pl e
          cases m)
        (case a => k_is)
        (case l => k_is)
        (case c => k_is)
        (case k => k_is)
      rcases List.mem_cons.mp m with rfl | m
      · refine' And.intro rfl (Pyx.Shown.mk' X G ⟨rfl, rfl⟩ (fun _ _ _ _ _ _ us hl => match us, hl with | [_, _], _ => rfl) ?kb ?a ?l ?c ?k)
        (case kb =>
          intro kV doc pm an cdv ct p m pl e
          cases m)
        (case a => k_is)
        (case l => k_is)
        (case c => k_is)
        (case k => k_is)
      rcases List.mem_cons.mp m with rfl | m
      · refine' And.intro rfl (Pyx.Shown.mk' X G ⟨rfl, rfl⟩ (fun _ _ _ _ _ _ us hl => match us, hl with | [_, _], _ => rfl) ?kb ?a ?l ?c ?k)
        (case kb =>
          intro kV doc pm an cdv ct p m pl e
          cases m)
        (case a => k_is)
        (case l => k_is)
        (case c => k_is)
        (case k => k_is)
      rcases List.mem_cons.mp m with rfl | m
      · refine' And.intro rfl (Pyx.Shown.mk' X G ⟨rfl, rfl⟩ (fun _ _ _ _ _ _ us hl => match us, hl with | [_, _, _], _ => rfl) ?kb ?a ?l ?c ?k)
        (case kb =>
          intro kV doc pm an cdv ct p m pl e
          cases m)
        (case a => k_is)
        (case l => k_is)
        (case c => k_is)
        (case k => k_is)
      rcases List.mem_cons.mp m with rfl | m
      · refine' And.intro rfl (Pyx.Shown.mk' X G ⟨rfl, rfl⟩ (fun _ _ _ _ _ _ us hl => match us, hl with | [_, _, _, _], _ => rfl) ?kb ?a ?l ?c ?k)
        (case kb =>
          intro kV doc pm an cdv ct p m pl e
          cases m)
        (case a => k_is)
        (case l => k_is)
        (case c => k_is)
        (case k => k_is)
      rcases List.mem_cons.mp m with rfl | m
      · refine' And.intro rfl (Pyx.Shown.mk' X G ⟨rfl, rfl⟩ (fun _ _ _ _ _ _ us hl => match us, hl with | [_], _ => rfl) ?kb ?a ?l ?c ?k)
        (case kb =>
          intro kV doc pm an cdv ct p m pl e
          cases m)
        (case a => k_is)
        (case l => k_is)
        (case c => k_is)
        (case k => k_is)
      rcases List.mem_cons.mp m with rfl | m
      · refine' And.intro rfl (Pyx.Shown.mk' X G ⟨rfl, rfl⟩ (fun _ _ _ _ _ _ us hl => match us, hl with | [_], _ => rfl) ?kb ?a ?l ?c ?k)
        (case kb =>
          intro kV doc pm an cdv ct p m pl e
          cases m)
        (case a => k_is)
        (case l => k_is)
        (case c => k_is)
        (case k => k_is)
      rcases List.mem_cons.mp m with rfl | m
      · refine' And.intro rfl (Pyx.Shown.mk' X G ⟨rfl, rfl⟩ (fun _ _ _ _ _ _ us hl => match us, hl with | [_, _], _ => rfl) ?kb ?a ?l ?c ?k)
        (case kb =>
          intro kV doc pm an cdv ct p m pl e
          cases m)
        (case a => k_is)
        (case l => k_is)
        (case c => k_is)
        (case k => k_is)
      rcases List.mem_cons.mp m with rfl | m
      · refine' And.intro rfl (Pyx.Shown.mk' X G ⟨rfl, rfl⟩ (fun _ _ _ _ _ _ us hl => match us, hl with | [_], _ => rfl) ?kb ?a ?l ?c ?k)
        (case kb =>
          intro kV doc pm an cdv ct p m pl e
          cases m)
        (case a => k_is)
        (case l => k_is)
        (case c => k_is)
        (case k => k_is)
      rcases List.mem_cons.mp m with rfl | m
      · refine' And.intro rfl (Pyx.Shown.mk' X G ⟨rfl, rfl⟩ (fun _ _ _ _ _ _ us hl => match us, hl with | [_], _ => rfl) ?kb ?a ?l ?c ?k)
        (case kb =>
          intro kV doc pm an cdv ct p m pl e
          cases m)
        (case a => k_is)
        (case l => k_is)
        (case c => k_is)
        (case k => k_is)
      rcases List.mem_cons.mp m with rfl | m
      · refine' And.intro rfl (Pyx.Shown.mk' X G ⟨rfl, rfl⟩ (fun _ _ _ _ _ _ us hl => match us, hl with | [_], _ => rfl) ?kb ?a ?l ?c ?k)
        (case kb =>
          intro kV doc pm an cdv ct p m pl e
          cases m)
        (case a => k_is)
        (case l => k_is)
        (case c => k_is)
        (case k => k_is)
      rcases List.mem_cons.mp m with rfl | m
      · refine' And.intro rfl (Pyx.Shown.mk' X G ⟨rfl, rfl⟩ (fun _ _ _ _ _ _ us hl => match us, hl with | [_, _], _ => rfl) ?kb ?a ?l ?c ?k)
        (case kb =>
          intro kV doc pm an cdv ct p m pl e
          cases m)
        (case a => k_is)
        (case l => k_is)
        (case c => k_is)
        (case k => k_is)
      rcases List.mem_cons.mp m with rfl | m
      · refine' And.intro rfl (Pyx.Shown.mk' X G ⟨rfl, rfl⟩ (fun _ _ _ _ _ _ us hl => match us, hl with | [_, _], _ => rfl) ?kb ?a ?l ?c ?k)
        (case kb =>
          intro kV doc pm an cdv ct p m pl e
          cases m)
        (case a => k_is)
        (case l => k_is)
        (case c => k_is)
        (case k => k_is)
      rcases List.mem_cons.mp m with rfl | m
      · refine' And.intro rfl (Pyx.Shown.mk' X G ⟨rfl, rfl⟩ (fun _ _ _ _ _ _ us hl => match us, hl with | [_], _ => rfl) ?kb ?a ?l ?c ?k)
        (case kb =>
          intro kV doc pm an cdv ct p m pl e
          cases m)
        (case a => k_is)
        (case l => k_is)
        (case c => k_is)
        (case k => k_is)
      rcases List.mem_cons.mp m with rfl | m
      · refine' And.intro rfl (Pyx.Shown.mk' X G ⟨rfl, rfl⟩ (fun _ _ _ _ _ _ us hl => match us, hl with | [_], _ => rfl) ?kb ?a ?l ?c ?k)
        (case kb =>
          intro kV doc pm an cdv ct p m pl e
          cases m)
        (case a => k_is)
        (case l => k_is)
        (case c => k_is)
        (case k => k_is)
      rcases List.mem_cons.mp m with rfl | m
      · refine' And.intro rfl (Pyx.Shown.mk' X G ⟨rfl, rfl⟩ (fun _ _ _ _ _ _ us hl => match us, hl with | [_], _ => rfl) ?kb ?a ?l ?c ?k)
        (case kb =>
          intro kV doc pm an cdv ct p m pl e
          cases m)
        (case a => k_is)
        (case l => k_is)
        (case c => k_is)
        (case k => k_is)
      cases m)
    (case hcl =>
      intro c m
      cases m)
    (case hb =>
      intro x m
      rcases List.mem_cons.mp m with rfl | m
      · k_is
      rcases List.mem_cons.mp m with rfl | m
      · k_is
      rcases List.mem_cons.mp m with rfl | m
      · k_is
      rcases List.mem_cons.mp m with rfl | m
      · k_is
      rcases List.mem_cons.mp m with rfl | m
      · k_is
      rcases List.mem_cons.mp m with rfl | m
      · k_is
      rcases List.mem_cons.mp m with rfl | m
      · k_is
      rcases List.mem_cons.mp m with rfl | m
      · k_is
      rcases List.mem_cons.mp m with rfl | m
      · k_is
      rcases List.mem_cons.mp m with rfl | m
      · k_is
      rcases List.mem_cons.mp m with rfl | m
      · k_is
      rcases List.mem_cons.mp m with rfl | m
      · k_is
      rcases List.mem_cons.mp m with rfl | m
      · k_is
      rcases List.mem_cons.mp m with rfl | m
      · k_is
      cases m)
    (case hg =>
      intro p m
      rcases List.mem_cons.mp m with rfl | m
      · refine' Pyx.con_int ?a
        (case a => k_is)
      rcases List.mem_cons.mp m with rfl | m
      · refine' Pyx.con_int ?a
        (case a => k_is)
      rcases List.mem_cons.mp m with rfl | m
      · refine' Pyx.con_int ?a
        (case a => k_is)
      rcases List.mem_cons.mp m with rfl | m
      · refine' Pyx.con_int ?a
        (case a => k_is)
      rcases List.mem_cons.mp m with rfl | m
      · refine' Pyx.con_int ?a
        (case a => k_is)
      rcases List.mem_cons.mp m with rfl | m
      · refine' Pyx.con_str ?a (by decide)
        (case a => k_is)
      rcases List.mem_cons.mp m with rfl | m
      · refine' Pyx.con_str ?a (by decide)
        (case a => k_is)
      rcases List.mem_cons.mp m with rfl | m
      · refine' Pyx.con_str ?a (by decide)
        (case a => k_is)
      rcases List.mem_cons.mp m with rfl | m
      · refine' Pyx.con_str ?a (by decide)
        (case a => k_is)
      rcases List.mem_cons.mp m with rfl | m
      · refine' Pyx.con_str ?a (by decide)
        (case a => k_is)
      rcases List.mem_cons.mp m with rfl | m
      · refine' Pyx.con_str ?a (by decide)
        (case a => k_is)
      cases m)
    (case her =>
      intro p m
      rcases List.mem_cons.mp m with rfl | m
      · refine' Pyx.err_of (r := Pyx.K82.re_InvalidText) X G ?a ?lk ?rv ?sa ?ex ?ty ?kp ?ini ?tI ?hno ?ga ?gg ?hd (Pyx.ShownM.mk' (fun _ _ _ _ _ _ us hl => match us, hl with | [_, _], _ => rfl) ?l ?c ?k) rfl rfl Pyx.K82.se_InvalidText Pyx.K82.be_InvalidText (by decide) (by decide)
        (case a => k_is)
        (case lk => k_is)
        (case rv => decide)
        (case sa => k_is)
        (case ex => k_is)
        (case ty => k_is)
        (case kp => k_is)
        (case ini => k_is)
        (case tI => k_is)
        (case hno => k_is)
        (case ga => k_is)
        (case gg => k_is)
        (case hd => k_is)
        (case l => k_is)
        (case c => k_is)
        (case k => k_is)
      cases m)
    (case hxi =>
      intro p m
      rcases List.mem_cons.mp m with rfl | m
      · refine' Pyx.xi_own X G ?a ?l
        (case a => k_is)
        (case l =>
          intro p m
          rcases List.mem_cons.mp m with rfl | m
          · refine' Pyx.xi_at ?a (Pyx.exc_of ?ga ?gg ?ex ?hd ?ha ?hn ?ht ?hm) ?hdc ?htc ?h4 ?ne
            (case a => k_is)
            (case ga => k_is)
            (case gg => k_is)
            (case ex => k_is)
            (case hd => k_is)
            (case ha => k_is)
            (case hn => k_is)
            (case ht => k_is)
            (case hm => k_is)
            (case hdc => k_is)
            (case htc => k_is)
            (case h4 => k_is)
            (case ne => decide)
          cases m)
      rcases List.mem_cons.mp m with rfl | m
      · refine' Pyx.xi_own X G ?a ?l
        (case a => k_is)
        (case l =>
          intro p m
          rcases List.mem_cons.mp m with rfl | m
          · refine' Pyx.xi_at ?a (Pyx.exc_of ?ga ?gg ?ex ?hd ?ha ?hn ?ht ?hm) ?hdc ?htc ?h4 ?ne
            (case a => k_is)
            (case ga => k_is)
            (case gg => k_is)
            (case ex => k_is)
            (case hd => k_is)
            (case ha => k_is)
            (case hn => k_is)
            (case ht => k_is)
            (case hm => k_is)
            (case hdc => k_is)
            (case htc => k_is)
            (case h4 => k_is)
            (case ne => decide)
          cases m)
      cases m)
    (case hxm =>
      intro p m
      rcases List.mem_cons.mp m with rfl | m
      · refine' Pyx.xm_own X G ?a ?l
        (case a => k_is)
        (case l =>
          intro p m
          rcases List.mem_cons.mp m with rfl | m
          · refine' Pyx.xm_at ?a ?h1 ?hd ?ht ?h4
            (case a => k_is)
            (case h1 => k_is)
            (case hd => k_is)
            (case ht => k_is)
            (case h4 => k_is)
          cases m)
      cases m)
    (case hhh =>
      intro p m
      rcases List.mem_cons.mp m with rfl | m
      · refine' Pyx.hot_of X G Pyx.K82.rh_l_same (List.mem_of_getElem? (i := 0) rfl) rfl Pyx.K82.hk_l_same.symm rfl rfl rfl (Pyx.ShownM.mk' (fun _ _ _ _ _ _ us hl => match us, hl with | [_, _], _ => rfl) ?l ?c ?k) ?a
        (case a => k_is)
        (case l => k_is)
        (case c => k_is)
        (case k => k_is)
      cases m)
end
