import PyProof.Rows.All
import Wide.All
import OpenK.AllK
import Wide.FinOn
import HandS.ForMost
import HandS.TupAny
import HandS.Wide
import HandS.IsInst
import HandS.Zip
import HandS.Gcd
import HandS.TupLe
import HandS.Style
import HandS.Flow
import HandS.Comp
import HandS.Ends
import PySem.Challenge.RW_packtags_k81_whole_texts_of_lists
set_option Elab.async false
set_option linter.all false
set_option maxRecDepth 100000
set_option maxHeartbeats 4000000
section
/-! Values, stores, a small syntax and what it computes: plain Lean, no heap in sight. -/
namespace Pyx
open PySem (Str sizeLine)

/-- a value: tuples and lists that never change stand inline, what changes stands in the store -/
inductive D where
  | non
  | bl (b : Bool)
  | int (i : Int)
  | str (s : Str)
  | tup (ds : List D)
  | lst (ds : List D)
  | fz (ds : List D)
  | ref (l : Nat)
  deriving Inhabited

inductive Cell where
  | lst (ds : List D)
  | ins (c : Nat) (fs : List (Str × D))
  deriving Inhabited

abbrev Store := List Cell
abbrev Env := List (Option D)

structure Exc where
  cls : Nat
  val : Option D

inductive R (α : Type) where
  | ok (a : α) (S : Store)
  | exc (x : Exc) (S : Store)
  | stuck

def R.bind {α β : Type} (r : R α) (f : α → Store → R β) : R β :=
  match r with
  | .ok a S => f a S
  | .exc x S => .exc x S
  | .stuck => .stuck

@[simp] theorem R.bind_ok {α β : Type} (a : α) (S : Store) (f : α → Store → R β) : (R.ok a S).bind f = f a S := rfl
@[simp] theorem R.bind_exc {α β : Type} (x : Exc) (S : Store) (f : α → Store → R β) : (R.exc x S : R α).bind f = .exc x S := rfl
@[simp] theorem R.bind_stuck {α β : Type} (f : α → Store → R β) : (R.stuck : R α).bind f = .stuck := rfl

/-- an answer where there is one -/
def give {α : Type} (S : Store) : Option α → R α
  | some a => .ok a S
  | none => .stuck
@[simp] theorem give_some {α : Type} (S : Store) (a : α) : give S (some a) = .ok a S := rfl
@[simp] theorem give_none {α : Type} (S : Store) : give S (none : Option α) = .stuck := rfl

/-! ### looking at values -/
mutual
def D.pure : D → Bool
  | .non => true
  | .bl _ => true
  | .int _ => true
  | .str _ => true
  | .tup ds => D.pures ds
  | .lst ds => D.pures ds
  | .fz ds => D.pures ds
  | .ref _ => false
def D.pures : List D → Bool
  | [] => true
  | d :: ds => d.pure && D.pures ds
end
mutual
def D.bnd (n : Nat) : D → Bool
  | .non => true
  | .bl _ => true
  | .int _ => true
  | .str _ => true
  | .tup ds => D.bnds n ds
  | .lst ds => D.bnds n ds
  | .fz ds => D.bnds n ds
  | .ref l => decide (l < n)
def D.bnds (n : Nat) : List D → Bool
  | [] => true
  | d :: ds => d.bnd n && D.bnds n ds
end
def Cell.bnd (n : Nat) : Cell → Bool
  | .lst ds => D.bnds n ds
  | .ins _ fs => fs.all fun p => p.2.bnd n

/-- the items of a list that may be read in every way -/
def asL (S : Store) : D → Option (List D)
  | .lst ds => some ds
  | .ref l => match S[l]? with
    | some (.lst ds) => some ds
    | _ => none
  | _ => none
/-- the items of a list or tuple -/
def asQ (S : Store) : D → Option (List D)
  | .tup ds => some ds
  | .lst ds => some ds
  | .fz ds => some ds
  | .ref l => match S[l]? with
    | some (.lst ds) => some ds
    | _ => none
  | _ => none
def asI : D → Option Int
  | .int i => some i
  | _ => none
def asB : D → Option Bool
  | .bl b => some b
  | _ => none
def asS : D → Option Str
  | .str s => some s
  | _ => none
def intsOf : List D → Option (List Int)
  | [] => some []
  | .int i :: ds => (intsOf ds).map (i :: ·)
  | _ :: _ => none
def boolsOf : List D → Option (List Bool)
  | [] => some []
  | .bl i :: ds => (boolsOf ds).map (i :: ·)
  | _ :: _ => none
def strsOf : List D → Option (List Str)
  | [] => some []
  | .str i :: ds => (strsOf ds).map (i :: ·)
  | _ :: _ => none

mutual
def D.eq : D → D → Bool
  | .non, .non => true
  | .bl a, .bl b => a == b
  | .bl a, .int j => (if a then 1 else 0) == j
  | .int i, .bl b => i == (if b then 1 else 0)
  | .int i, .int j => i == j
  | .str x, .str y => x == y
  | .lst xs, .lst ys => D.eqs xs ys
  | .lst xs, .fz ys => D.eqs xs ys
  | .fz xs, .lst ys => D.eqs xs ys
  | .fz xs, .fz ys => D.eqs xs ys
  | .tup xs, .tup ys => D.eqs xs ys
  | _, _ => false
def D.eqs : List D → List D → Bool
  | [], [] => true
  | x :: xs, y :: ys => x.eq y && D.eqs xs ys
  | _, _ => false
end
mutual
def D.depth : D → Nat
  | .tup ds => D.depths ds + 1
  | .lst ds => D.depths ds + 1
  | .fz ds => D.depths ds + 1
  | _ => 0
def D.depths : List D → Nat
  | [] => 0
  | d :: ds => max d.depth (D.depths ds)
end
mutual
def D.sok : D → Bool
  | .str s => PySem.PyData.strOk s
  | .tup ds => D.soks ds
  | .lst ds => D.soks ds
  | .fz ds => D.soks ds
  | _ => true
def D.soks : List D → Bool
  | [] => true
  | d :: ds => d.sok && D.soks ds
end
/-- a value that can be compared: pure, or a list of pure things in the store -/
def flatL (S : Store) : D → Option D
  | .ref l => match S[l]? with
    | some (.lst ds) => if D.pures ds then some (.lst ds) else none
    | _ => none
  | d => if d.pure then some d else none

def truth (S : Store) : D → Option Bool
  | .non => some false
  | .bl b => some b
  | .int i => some (i != 0)
  | .str s => some ((s.length : Int) != 0)
  | .tup ds => some (!ds.isEmpty)
  | .lst ds => some (!ds.isEmpty)
  | .fz ds => some (!ds.isEmpty)
  | .ref l => match S[l]? with
    | some (.lst ds) => some (!ds.isEmpty)
    | _ => none

/-! ### making -/
/-- a new list: in the store where m says so, else inline -/
def mkL (m : Bool) (ds : List D) (S : Store) : R D :=
  if ds.length ≤ sizeLine then (if m then .ok (.ref S.length) (S ++ [.lst ds]) else .ok (.lst ds) S) else .stuck
def mkT (ds : List D) (S : Store) : R D :=
  if ds.length ≤ sizeLine then .ok (.tup ds) S else .stuck
def mkS (s : Str) (S : Store) : R D :=
  if s.length ≤ sizeLine then .ok (.str s) S else .stuck

/-! ### operators -/
inductive BOp where
  | add | sub | mul | fdiv | mod | pow
  deriving DecidableEq
/-- a product that the machine makes -/
def mulOk (i j : Int) : Bool := decide (-(2 ^ 64) < i ∧ i < 2 ^ 64) || decide (-(2 ^ 64) < j ∧ j < 2 ^ 64) || decide (i.natAbs.log2 + j.natAbs.log2 < 1000000)
def addD (d e : D) (S : Store) : R D :=
  match d, e with
  | .int i, .int j => .ok (.int (i + j)) S
  | .str s, .str t => if s.length + t.length ≤ sizeLine then .ok (.str (s ++ t)) S else .stuck
  | .tup xs, .tup ys => if xs.length + ys.length ≤ sizeLine then .ok (.tup (xs ++ ys)) S else .stuck
  | d, e => match asL S d, asL S e with
    | some xs, some ys => if xs.length + ys.length ≤ sizeLine then .ok (.lst (xs ++ ys)) S else .stuck
    | _, _ => .stuck
def subD (d e : D) (S : Store) : R D :=
  match d, e with
  | .int i, .int j => .ok (.int (i - j)) S
  | _, _ => .stuck
def mulD (d e : D) (S : Store) : R D :=
  match d, e with
  | .int i, .int j => if mulOk i j then .ok (.int (i * j)) S else .stuck
  | _, _ => .stuck
def fdivD (d e : D) (S : Store) : R D :=
  match d, e with
  | .int i, .int j => if 0 < j ∧ j.natAbs.log2 < 9000 then .ok (.int (i / j)) S else if j < 0 ∧ j.natAbs < 1073741824 then .ok (.int (i.fdiv j)) S else .stuck
  | _, _ => .stuck
def modD (d e : D) (S : Store) : R D :=
  match d, e with
  | .int i, .int j => if 0 < j then .ok (.int (i % j)) S else if j < 0 then .ok (.int (i.fmod j)) S else .stuck
  | _, _ => .stuck
def powD (d e : D) (S : Store) : R D :=
  match d, e with
  | .int i, .int j => if 0 ≤ j ∧ j ≤ 1000000 ∧ i.natAbs < 2 ^ 64 then .ok (.int (i ^ j.toNat)) S else .stuck
  | _, _ => .stuck
def binD (o : BOp) (d e : D) (S : Store) : R D :=
  match o with
  | .add => addD d e S
  | .sub => subD d e S
  | .mul => mulD d e S
  | .fdiv => fdivD d e S
  | .mod => modD d e S
  | .pow => powD d e S

inductive COp where
  | eq | ne | lt | le | gt | ge | is | isnot | isin | notin
  deriving DecidableEq
def eqD (S : Store) : D → D → Option Bool
  | .str x, .str y => some (x == y)
  | d, e => match flatL S d, flatL S e with
    | some x, some y => if x.depth ≤ 64 ∧ y.depth ≤ 64 ∧ x.sok = true ∧ y.sok = true then some (x.eq y) else none
    | _, _ => none
def D.flat : D → Bool
  | .non => true
  | .bl _ => true
  | .int _ => true
  | .str _ => true
  | _ => false
/-- x in a sequence, or a text in a text -/
def inD (S : Store) : D → D → Option Bool
  | .str s, .str t => match s.cps.toList with
    | [c] => some (decide (c ∈ t.cps.toList))
    | _ => some (!(PySem.Builtin.Str.occurrences t s 0 t.length 1).isEmpty)
  | d, e => match asQ S e with
    | some ds => if d.flat && ds.all D.flat then some (ds.any fun y => y.eq d) else none
    | none => none
def blR (S : Store) : Option Bool → R D
  | some b => .ok (.bl b) S
  | none => .stuck
def ordD (p : Int → Int → Bool) (d e : D) : Option Bool :=
  match d, e with
  | .int i, .int j => some (p i j)
  | _, _ => none
def isD (d e : D) : Option Bool :=
  match d, e with
  | .non, .non => some true
  | .bl _, .non => some false
  | .int _, .non => some false
  | .str _, .non => some false
  | .tup _, .non => some false
  | .lst _, .non => some false
  | .fz _, .non => some false
  | .ref _, .non => some false
  | .bl a, .bl b => some (a == b)
  | _, _ => none
def cmpB (o : COp) (d e : D) (S : Store) : Option Bool :=
  match o with
  | .eq => eqD S d e
  | .ne => (eqD S d e).map (!·)
  | .lt => ordD (fun i j => decide (i < j)) d e
  | .le => ordD (fun i j => decide (i ≤ j)) d e
  | .gt => ordD (fun i j => decide (j < i)) d e
  | .ge => ordD (fun i j => decide (j ≤ i)) d e
  | .is => isD d e
  | .isnot => (isD d e).map (!·)
  | .isin => inD S d e
  | .notin => (inD S d e).map (!·)
def cmpD (o : COp) (d e : D) (S : Store) : R D := blR S (cmpB o d e S)

/-! ### items and slices -/
def ixD (d e : D) (S : Store) : R D :=
  match e with
  | .int i => (match d with
    | .str s => (match L2.atI s.cps.toList i with
      | some c => .ok (.str ⟨#[c]⟩) S
      | none => .stuck)
    | d => match asQ S d with
      | some ds => give S (L2.atI ds i)
      | none => .stuck)
  | _ => .stuck
def cut {α : Type} (xs : List α) (lo hi : Option Int) : List α := (xs.drop (HT.sIx xs.length 0 lo)).take (HT.sIx xs.length xs.length hi - HT.sIx xs.length 0 lo)
def slD (m : Bool) (d : D) (l h : Option Int) (S : Store) : R D :=
  match d with
  | .str s => .ok (.str (L2.cutS s l h)) S
  | .tup ds => .ok (.tup (cut ds l h)) S
  | d => match asQ S d with
    | some ds => mkL m (cut ds l h) S
    | none => .stuck
end Pyx
end
section
/-! The small syntax and its reckoning. -/
namespace Pyx
open PySem (Str sizeLine)

inductive Ty where
  | int | bool | str | tuple | list | dict
  deriving DecidableEq
/-- built-in functions -/
inductive Bi where
  | len | abs | max | min | sum | all | any | int | str | tuple | list | divmod | gcd | sorted
  deriving DecidableEq
/-- methods of built-in types -/
inductive Mt where
  | append | extend | pop | split | join | startswith | endswith | index
  deriving DecidableEq

mutual
inductive E where
  | never
  | var (i : Nat)
  | con (d : D)
  | glob (x : Str)
  | tup (es : Es)
  | lst (m : Bool) (es : Es)
  | bin (o : BOp) (a b : E)
  | neg (a : E)
  | not (a : E)
  | and (a b : E)
  | or (a b : E)
  | cmp (o : COp) (a b : E)
  | cmp2 (o p : COp) (a b c : E)
  | ite (c a b : E)
  | ix (a i : E)
  | sl (m : Bool) (a : E) (lo hi : Ob)
  | rev (a : E)
  | call (f : Str) (es : Es)
  | callk (f : Str) (es : Es) (ks : List Nat) (kes : Es)
  | bi (b : Bi) (m : Bool) (es : Es)
  | isin (a : E) (ts : List Ty)
  | mt (t : Mt) (m : Bool) (a : E) (es : Es)
  | comp (m : Bool) (own : List Nat) (e : E) (t : Tg) (s : Src) (cs : Es)
  | comp2 (m : Bool) (own : List Nat) (e : E) (t : Tg) (s : Src) (cs : Es) (own1 : List Nat) (t1 : Tg) (s1 : Src) (cs1 : Es)
inductive Es where
  | nil
  | cons (e : E) (es : Es)
inductive Ob where
  | none
  | some (e : E)
inductive Tg where
  | var (i : Nat)
  | sub (o i : E)
  | tup (ts : Tgs)
inductive Tgs where
  | nil
  | cons (t : Tg) (ts : Tgs)
inductive Src where
  | val (e : E)
  | rng (es : Es)
  | enum (e : E)
  | zip (a b : E)
end

mutual
inductive S where
  | never
  | asg (t : Tg) (e : E)
  | expr (e : E)
  | ret (e : E)
  | retN
  | ite (c : E) (a b : Ss)
  | for (t : Tg) (s : Src) (b : Ss)
  | while (c : E) (b : Ss)
  | pass
  | brk
  | cont
inductive Ss where
  | nil
  | cons (s : S) (ss : Ss)
end

def Tgs.len : Tgs → Nat
  | .nil => 0
  | .cons _ ts => ts.len + 1
/-! ### built-ins by values -/
def isTy (d : D) (S : Store) (t : Ty) : Option Bool :=
  match d with
  | .ref l => (match S[l]? with
    | some (.lst _) => some (decide (t = .list))
    | _ => none)
  | .non => some false
  | .bl _ => some (decide (t = .int) || decide (t = .bool))
  | .int _ => some (decide (t = .int))
  | .str _ => some (decide (t = .str))
  | .tup _ => some (decide (t = .tuple))
  | .lst _ => some (decide (t = .list))
  | .fz _ => some (decide (t = .list))
def isTys (d : D) (S : Store) : List Ty → Option Bool
  | [] => some false
  | t :: ts => (isTy d S t).bind fun a => (isTys d S ts).map fun b => a || b
def maxI : List Int → Option Int
  | [] => none
  | i :: is => match maxI is with
    | none => some i
    | some j => some (if j > i then j else i)
def minI : List Int → Option Int
  | [] => none
  | i :: is => match minI is with
    | none => some i
    | some j => some (if j < i then j else i)

def lenD (S : Store) : D → R D
  | .str s => .ok (.int s.length) S
  | d => match asQ S d with
    | some ds => .ok (.int ds.length) S
    | none => .stuck
def intR (S : Store) : Option Int → R D
  | some i => .ok (.int i) S
  | none => .stuck
def intsD (S : Store) (d : D) : Option (List Int) := (asL S d).bind intsOf
def boolsD (S : Store) (d : D) : Option (List Bool) := (asL S d).bind boolsOf
def absD : D → Option Int
  | .int i => some (if i < 0 then -i else i)
  | _ => none
def maxD (S : Store) : List D → Option Int
  | [.int i, .int j] => some (if j > i then j else i)
  | [d] => (intsD S d).bind maxI
  | _ => none
def minD (S : Store) : List D → Option Int
  | [.int i, .int j] => some (if j < i then j else i)
  | [d] => (intsD S d).bind minI
  | _ => none
def intD : D → Option Int
  | .int i => some i
  | .bl b => some (if b then 1 else 0)
  | .str s => match PySem.intText? s with
    | some n => if s.length ≤ 640 then some n else none
    | none => none
  | _ => none
def strD (S : Store) : D → R D
  | .int i => if i.natAbs.log2 < 1920 then .ok (.str (toString i)) S else .stuck
  | _ => .stuck
def tupD (S : Store) : D → R D
  | .tup ds => .ok (.tup ds) S
  | d => match asQ S d with
    | some ds => .ok (.tup ds) S
    | none => .stuck
def listD (m : Bool) (S : Store) (d : D) : R D :=
  match asQ S d with
  | some ds => mkL m ds S
  | none => .stuck
def divmodD (S : Store) : D → D → R D
  | .int i, .int j => if 0 < j ∧ j < 1073741824 then .ok (.tup [.int (i / j), .int (i % j)]) S else .stuck
  | _, _ => .stuck
def gcdD : D → D → Option Int
  | .int i, .int j => some ((Nat.gcd i.natAbs j.natAbs : Nat) : Int)
  | _, _ => none
def biD (b : Bi) (m : Bool) (ds : List D) (S : Store) : R D :=
  match b with
  | .max => intR S (maxD S ds)
  | .min => intR S (minD S ds)
  | .len => (match ds with | [d] => lenD S d | _ => .stuck)
  | .abs => (match ds with | [d] => intR S (absD d) | _ => .stuck)
  | .sum => (match ds with | [d] => intR S ((intsD S d).map List.sum) | _ => .stuck)
  | .all => (match ds with | [d] => blR S ((boolsD S d).map fun bs => bs.all id) | _ => .stuck)
  | .any => (match ds with | [d] => blR S ((boolsD S d).map fun bs => bs.any id) | _ => .stuck)
  | .int => (match ds with | [d] => intR S (intD d) | _ => .stuck)
  | .str => (match ds with | [d] => strD S d | _ => .stuck)
  | .tuple => (match ds with | [d] => tupD S d | _ => .stuck)
  | .list => (match ds with | [d] => listD m S d | _ => .stuck)
  | .divmod => (match ds with | [d, e] => divmodD S d e | _ => .stuck)
  | .gcd => (match ds with | [d, e] => intR S (gcdD d e) | _ => .stuck)
  | .sorted => .stuck

def lstAt (S : Store) : D → Option (Nat × List D)
  | .ref l => (match S[l]? with
    | some (.lst ds) => some (l, ds)
    | _ => none)
  | _ => none
def appendD (d e : D) (S : Store) : R D :=
  match lstAt S d with
  | some (l, ds) => if ds.length < sizeLine then .ok .non (S.set l (.lst (ds ++ [e]))) else .stuck
  | none => .stuck
def extendD (d e : D) (S : Store) : R D :=
  match lstAt S d, asL S e with
  | some (l, ds), some es => if ds.length + es.length ≤ sizeLine then .ok .non (S.set l (.lst (ds ++ es))) else .stuck
  | _, _ => .stuck
def splitD (m : Bool) (d e : D) (S : Store) : R D :=
  match d, e with
  | .str s, .str t => if (t.length == 0) = false ∧ s.length + 2 ≤ sizeLine ∧ ((PySem.Txt.split s t).all fun z => decide (z.length ≤ sizeLine)) = true then mkL m ((PySem.Txt.split s t).map .str) S else .stuck
  | _, _ => .stuck
def joinD (d e : D) (S : Store) : R D :=
  match d, (asQ S e).bind strsOf with
  | .str s, some ys => if (ys.map (·.length)).sum + ys.length * s.length ≤ sizeLine ∧ (PySem.Txt.join s ys).length ≤ sizeLine then .ok (.str (PySem.Txt.join s ys)) S else .stuck
  | _, _ => .stuck
def startsD (d e : D) : Option Bool :=
  match d, e with
  | .str s, .str t => some (PySem.Txt.startswith s t)
  | _, _ => none
def endsD (d e : D) : Option Bool :=
  match d, e with
  | .str s, .str t => some (PySem.Txt.endswith s t)
  | _, _ => none
def mtD (t : Mt) (m : Bool) (d : D) (es : List D) (S : Store) : R D :=
  match t, es with
  | .append, [e] => appendD d e S
  | .extend, [e] => extendD d e S
  | .split, [e] => splitD m d e S
  | .join, [e] => joinD d e S
  | .startswith, [e] => blR S (startsD d e)
  | .endswith, [e] => blR S (endsD d e)
  | _, _ => .stuck

/-- is the receiver of the method's type -/
def mtTy (t : Mt) (d : D) (S : Store) : Bool :=
  match t, d with
  | .append, d => (lstAt S d).isSome
  | .extend, d => (lstAt S d).isSome
  | .pop, d => (lstAt S d).isSome
  | .index, d => (asL S d).isSome
  | .split, .str _ => true
  | .join, .str _ => true
  | .startswith, .str _ => true
  | .endswith, .str _ => true
  | _, _ => false

/-! ### the reckoning -/
abbrev Guard := Option (Nat × List D)
def Guard.ok (g : Guard) (S : Store) : Prop := match g with
  | none => True
  | some (l, ds) => S[l]? = some (.lst ds)
@[simp] theorem Guard.ok_none (S : Store) : Guard.ok none S = True := rfl
@[simp] theorem Guard.ok_some (S : Store) (l : Nat) (ds : List D) : Guard.ok (some (l, ds)) S = (S[l]? = some (.lst ds)) := rfl

inductive Fl where
  | nx (ρ : Env)
  | rt (d : D)
  | bk (ρ : Env)
  | ct (ρ : Env)

open Classical in
/-- what a comprehension makes of the items -/
noncomputable def compGo (g : Guard) (f : D → Store → R (List D)) : List D → Store → R (List D)
  | [], S => if g.ok S then .ok [] S else .stuck
  | x :: xs, S => if g.ok S then (f x S).bind fun ys S1 => (compGo g f xs S1).bind fun zs S2 => .ok (ys ++ zs) S2 else .stuck
open Classical in
noncomputable def forGo (g : Guard) (f : D → Env → Store → R Fl) : List D → Env → Store → R Fl
  | [], ρ, S => if g.ok S then .ok (.nx ρ) S else .stuck
  | x :: xs, ρ, S => if g.ok S then (f x ρ S).bind fun fl S1 => (match fl with
      | .nx ρ1 => forGo g f xs ρ1 S1
      | .ct ρ1 => forGo g f xs ρ1 S1
      | .bk ρ1 => .ok (.nx ρ1) S1
      | .rt d => .ok (.rt d) S1) else .stuck
def whileGo (c : Env → Store → R Bool) (f : Env → Store → R Fl) : Nat → Env → Store → R Fl
  | 0, _, _ => .stuck
  | n + 1, ρ, S => (c ρ S).bind fun b S1 => if b then (f ρ S1).bind fun fl S2 => (match fl with
      | .nx ρ1 => whileGo c f n ρ1 S2
      | .ct ρ1 => whileGo c f n ρ1 S2
      | .bk ρ1 => .ok (.nx ρ1) S2
      | .rt d => .ok (.rt d) S2) else .ok (.nx ρ) S1

def srcVal (S : Store) (d : D) : Option (List D × Guard) :=
  match d with
  | .tup ds => some (ds, none)
  | .lst ds => some (ds, none)
  | .fz ds => some (ds, none)
  | .str s => some (s.cps.toList.map fun c => .str ⟨#[c]⟩, none)
  | .ref l => match S[l]? with
    | some (.lst ds) => some (ds, some (l, ds))
    | _ => none
  | _ => none
def smallI (i : Int) : Bool := decide (-(2 ^ 62) ≤ i ∧ i < 2 ^ 62)
def rangeD (lo : Int) (n : Nat) : List D := (List.range n).map fun i => .int (lo + (i : Nat))
def enumFrom (n : Nat) : List D → List D
  | [] => []
  | d :: ds => .tup [.int n, d] :: enumFrom (n + 1) ds
def srcRng : List D → Option (List D)
  | [.int j] => if smallI j = true ∧ j.toNat ≤ sizeLine then some (rangeD 0 j.toNat) else none
  | [.int i, .int j] => if smallI i = true ∧ smallI j = true ∧ (j - i).toNat ≤ sizeLine then some (rangeD i (j - i).toNat) else none
  | _ => none
def srcEnum (S : Store) (d : D) : Option (List D × Guard) :=
  match d with
  | .tup _ => none
  | .str _ => none
  | d => (srcVal S d).map fun p => (enumFrom 0 p.1, p.2)
def wipeE (ρ : Env) : List Nat → Env
  | [] => ρ
  | v :: vs => (wipeE ρ vs).set v none
def condS (S : Store) (d : D) : R Bool := give S (truth S d)

section
variable (C : Str → List D → Store → R D) (G : Str → Option D) (W : Nat)
mutual
noncomputable def evE : E → Env → Store → R D
  | .never, _, _ => .stuck
  | .var i, ρ, S => give S (ρ[i]?.join)
  | .con d, _, S => .ok d S
  | .glob x, _, S => give S (G x)
  | .tup es, ρ, S => (evEs es ρ S).bind mkT
  | .lst m es, ρ, S => (evEs es ρ S).bind (mkL m)
  | .bin o a b, ρ, S => (evE a ρ S).bind fun x S1 => (evE b ρ S1).bind fun y S2 => binD o x y S2
  | .neg a, ρ, S => (evE a ρ S).bind fun x S1 => match x with
    | .int i => .ok (.int (-i)) S1
    | _ => .stuck
  | .not a, ρ, S => (evE a ρ S).bind fun x S1 => (condS S1 x).bind fun b S2 => .ok (.bl (!b)) S2
  | .and a b, ρ, S => (evE a ρ S).bind fun x S1 => (condS S1 x).bind fun c S2 => if c then evE b ρ S2 else .ok x S2
  | .or a b, ρ, S => (evE a ρ S).bind fun x S1 => (condS S1 x).bind fun c S2 => if c then .ok x S2 else evE b ρ S2
  | .cmp o a b, ρ, S => (evE a ρ S).bind fun x S1 => (evE b ρ S1).bind fun y S2 => cmpD o x y S2
  | .cmp2 o p a b c, ρ, S => (evE a ρ S).bind fun x S1 => (evE b ρ S1).bind fun y S2 => (give S2 (cmpB o x y S2)).bind fun r S3 => if r then (evE c ρ S3).bind fun z S4 => cmpD p y z S4 else .ok (.bl false) S3
  | .ite c a b, ρ, S => (evE c ρ S).bind fun x S1 => (condS S1 x).bind fun k S2 => if k then evE a ρ S2 else evE b ρ S2
  | .ix a i, ρ, S => (evE a ρ S).bind fun x S1 => (evE i ρ S1).bind fun y S2 => ixD x y S2
  | .sl m a lo hi, ρ, S => (evE a ρ S).bind fun x S1 => (evO lo ρ S1).bind fun l S2 => (evO hi ρ S2).bind fun h S3 => slD m x l h S3
  | .rev a, ρ, S => (evE a ρ S).bind fun x S1 => match x with
    | .tup ds => mkT ds.reverse S1
    | _ => .stuck
  | .call f es, ρ, S => (evEs es ρ S).bind fun ds S1 => C f ds S1
  | .callk f es ks kes, ρ, S => (evEs es ρ S).bind fun ds S1 => (evEs kes ρ S1).bind fun ws S2 => (give S2 (ks.mapM fun i => (ds ++ ws)[i]?)).bind fun us S3 => C f us S3
  | .bi b m es, ρ, S => (evEs es ρ S).bind fun ds S1 => biD b m ds S1
  | .isin a ts, ρ, S => (evE a ρ S).bind fun x S1 => (give S1 (isTys x S1 ts)).bind fun b S2 => .ok (.bl b) S2
  | .mt t m a es, ρ, S => (evE a ρ S).bind fun x S1 => if mtTy t x S1 then (evEs es ρ S1).bind fun ds S2 => mtD t m x ds S2 else .stuck
  | .comp m own e t s cs, ρ, S => (evSrc s ρ S).bind fun p S1 =>
      (compGo p.2 (fun x S2 => (asgT t x (wipeE ρ own) S2).bind fun ρ1 S3 => (evCs cs ρ1 S3).bind fun b S4 =>
        if b then (evE e ρ1 S4).bind fun y S5 => .ok [y] S5 else .ok [] S4) p.1 S1).bind (mkL m)
  | .comp2 m own e t s cs own1 t1 s1 cs1, ρ, S => (evSrc s ρ S).bind fun p S1 =>
      (compGo p.2 (fun x S2 => (asgT t x (wipeE ρ own) S2).bind fun ρ1 S3 => (evCs cs ρ1 S3).bind fun b S4 =>
        if b then (evSrc s1 ρ1 S4).bind fun p1 S5 =>
          compGo p1.2 (fun x1 S6 => (asgT t1 x1 (wipeE ρ1 own1) S6).bind fun ρ2 S7 => (evCs cs1 ρ2 S7).bind fun b1 S8 =>
            if b1 then (evE e ρ2 S8).bind fun y S9 => .ok [y] S9 else .ok [] S8) p1.1 S5
        else .ok [] S4) p.1 S1).bind (mkL m)
noncomputable def evEs : Es → Env → Store → R (List D)
  | .nil, _, S => .ok [] S
  | .cons e es, ρ, S => (evE e ρ S).bind fun d S1 => (evEs es ρ S1).bind fun ds S2 => .ok (d :: ds) S2
noncomputable def evO : Ob → Env → Store → R (Option Int)
  | .none, _, S => .ok none S
  | .some e, ρ, S => (evE e ρ S).bind fun d S1 => (give S1 (asI d)).bind fun i S2 => .ok (some i) S2
/-- the tests of a clause -/
noncomputable def evCs : Es → Env → Store → R Bool
  | .nil, _, S => .ok true S
  | .cons e es, ρ, S => (evE e ρ S).bind fun d S1 => (condS S1 d).bind fun b S2 => if b then evCs es ρ S2 else .ok false S2
noncomputable def evSrc : Src → Env → Store → R (List D × Guard)
  | .val e, ρ, S => (evE e ρ S).bind fun d S1 => give S1 (srcVal S1 d)
  | .rng es, ρ, S => (evEs es ρ S).bind fun ds S1 => give S1 ((srcRng ds).map fun is => (is, none))
  | .enum e, ρ, S => (evE e ρ S).bind fun d S1 => give S1 (srcEnum S1 d)
  | .zip a b, ρ, S => (evE a ρ S).bind fun d S1 => (evE b ρ S1).bind fun e S2 => match d, e with
    | .tup xs, .tup ys => .ok (List.zipWith (fun x y => .tup [x, y]) xs ys, none) S2
    | .lst xs, .lst ys => .ok (List.zipWith (fun x y => .tup [x, y]) xs ys, none) S2
    | _, _ => .stuck
noncomputable def asgT : Tg → D → Env → Store → R Env
  | .var i, d, ρ, S => if i < ρ.length then .ok (ρ.set i (some d)) S else .stuck
  | .sub o i, d, ρ, S => (evE o ρ S).bind fun x S1 => (evE i ρ S1).bind fun y S2 => match x, y with
    | .ref l, .int k => (match S2[l]? with
      | some (.lst ds) => (match L2.ixN ds.length k with
        | some j => .ok ρ (S2.set l (.lst (ds.set j d)))
        | none => .stuck)
      | _ => .stuck)
    | _, _ => .stuck
  | .tup ts, d, ρ, S => match d with
    | .tup ds => if ds.length = ts.len then asgTs ts ds ρ S else .stuck
    | _ => .stuck
noncomputable def asgTs : Tgs → List D → Env → Store → R Env
  | .nil, [], ρ, S => .ok ρ S
  | .cons t ts, d :: ds, ρ, S => (asgT t d ρ S).bind fun ρ1 S1 => asgTs ts ds ρ1 S1
  | _, _, _, _ => .stuck
end
mutual
noncomputable def exS : S → Env → Store → R Fl
  | .never, _, _ => .stuck
  | .asg t e, ρ, S => (evE C G e ρ S).bind fun d S1 => (asgT C G t d ρ S1).bind fun ρ1 S2 => .ok (.nx ρ1) S2
  | .expr e, ρ, S => (evE C G e ρ S).bind fun _ S1 => .ok (.nx ρ) S1
  | .ret e, ρ, S => (evE C G e ρ S).bind fun d S1 => .ok (.rt d) S1
  | .retN, _, S => .ok (.rt .non) S
  | .ite c a b, ρ, S => (evE C G c ρ S).bind fun x S1 => (condS S1 x).bind fun k S2 => if k then exSs a ρ S2 else exSs b ρ S2
  | .for t s b, ρ, S => (evSrc C G s ρ S).bind fun p S1 => forGo p.2 (fun x ρ1 S2 => (asgT C G t x ρ1 S2).bind fun ρ2 S3 => exSs b ρ2 S3) p.1 ρ S1
  | .while c b, ρ, S => whileGo (fun ρ1 S1 => (evE C G c ρ1 S1).bind fun x S2 => condS S2 x) (fun ρ1 S1 => exSs b ρ1 S1) W ρ S
  | .pass, ρ, S => .ok (.nx ρ) S
  | .brk, ρ, S => .ok (.bk ρ) S
  | .cont, ρ, S => .ok (.ct ρ) S
noncomputable def exSs : Ss → Env → Store → R Fl
  | .nil, ρ, S => .ok (.nx ρ) S
  | .cons s ss, ρ, S => (exS s ρ S).bind fun fl S1 => match fl with
    | .nx ρ1 => exSs ss ρ1 S1
    | fl => .ok fl S1
end
end

/-! ### defs -/
structure Df where
  np : Nat
  nl : Nat
  body : Ss
/-- what was made in a call and is not handed back goes -/
def closed (S : Store) (d : D) (S' : Store) : Prop :=
  d.bnd S.length = true ∧ S.length ≤ S'.length ∧ ∀ (i : Nat) (c : Cell), i < S.length → S'[i]? = some c → S[i]? = some c ∨ c.bnd S.length = true
open Classical in
noncomputable def gc (S : Store) (d : D) (S' : Store) : R D :=
  if closed S d S' then .ok d (S'.take S.length) else .ok d S'
noncomputable def callF (T : Str → Option Df) (G : Str → Option D) (W : Nat) : Nat → Str → List D → Store → R D
  | 0, _, _, _ => .stuck
  | n + 1, f, ds, S => match T f with
    | some fd => if ds.length = fd.np then (exSs (callF T G W n) G W fd.body (ds.map some ++ List.replicate (fd.nl - fd.np) none) S).bind fun fl S1 => (match fl with
        | .rt d => gc S d S1
        | .nx _ => gc S .non S1
        | _ => .stuck) else .stuck
    | none => .stuck
end Pyx
end
section
/-! How values and stores lie in the abstract heap. -/
namespace Pyx
open PySem L2

/-- the places of the store's cells, and places that nothing points to -/
structure Bk where
  b : List Addr
  z : List Addr
section
variable (K : PySem.W.Frag)
/-- a tuple, a list of the written part -/
def KT (a : Addr) (xs : List V) : Prop := ∃ (o : Obj) (its : Array Value) (n : Nat), K.lookup a = some o ∧ o.cls = .type "tuple" ∧ o.data = .seq its n ∧ its.size ≤ sizeLine ∧ Vals xs its.toList
def KL (a : Addr) (xs : List V) : Prop := ∃ (o : Obj) (its : Array Value) (n : Nat), K.lookup a = some o ∧ o.cls = .type "list" ∧ o.dict = none ∧ o.data = .seq its n ∧ its.size ≤ sizeLine ∧ Vals xs its.toList
/-- a tuple at a, not in the store -/
def TpAt (β : Bk) (H : Hp) (a : Addr) (vs : List V) : Prop := (a ∉ β.b ∧ Rd H a (.tup vs)) ∨ KT K a vs
def FzAt (β : Bk) (H : Hp) (a : Addr) (vs : List V) : Prop := (a ∉ β.b ∧ ∃ o, H a = some (.frz o (.lst vs))) ∨ KL K a vs
mutual
def Rep (β : Bk) (H : Hp) : D → V → Prop
  | .non, v => v = .non
  | .bl b, v => v = .bl b
  | .int i, v => v = .int i
  | .str s, v => v = .str s ∧ s.length ≤ sizeLine
  | .tup ds, v => ∃ a vs, v = .ref a ∧ TpAt K β H a vs ∧ ds.length ≤ sizeLine ∧ Reps β H ds vs
  | .lst ds, v => ∃ a vs, v = .ref a ∧ (a ∉ β.b ∧ a ∉ β.z ∧ H a = some (.lst vs)) ∧ ds.length ≤ sizeLine ∧ Reps β H ds vs
  | .fz ds, v => ∃ a vs, v = .ref a ∧ FzAt K β H a vs ∧ ds.length ≤ sizeLine ∧ Reps β H ds vs
  | .ref l, v => ∃ a, β.b[l]? = some a ∧ v = .ref a
def Reps (β : Bk) (H : Hp) : List D → List V → Prop
  | [], vs => vs = []
  | d :: ds, vs => ∃ v vr, vs = v :: vr ∧ Rep β H d v ∧ Reps β H ds vr
end
def CRep (β : Bk) (H : Hp) : Cell → Addr → Prop
  | .lst ds, a => ∃ vs, H a = some (.lst vs) ∧ ds.length ≤ sizeLine ∧ Reps K β H ds vs
  | .ins _ _, _ => False
structure SRel (β : Bk) (H : Hp) (S : Store) : Prop where
  len : β.b.length = S.length
  nd : β.b.Nodup
  cell : ∀ (l : Nat) (c : Cell), S[l]? = some c → ∃ a, β.b[l]? = some a ∧ CRep K β H c a
  out : ∀ a ∈ β.z, a ∉ β.b ∧ ∃ o, H a = some o
/-- what may have come: new places, nothing else but what the store holds -/
structure Ext (β : Bk) (H : Hp) (β' : Bk) (H' : Hp) : Prop where
  pre : ∃ new, β'.b = β.b ++ new
  hid : ∀ a ∈ β.z, a ∈ β'.z
  hnew : ∀ a ∈ β'.z, a ∉ β.z → a ∉ β.b → H a = none
  stay : ∀ a o, a ∉ β.b → H a = some o → H' a = some o
  new : ∀ a, a ∈ β'.b → a ∉ β.b → H a = none
structure ERel (β : Bk) (H : Hp) (ρ : Env) (σ : St) : Prop where
  len : ρ.length = σ.length
  at_ : ∀ (i : Nat) (d : D), ρ[i]? = some (some d) → ∃ v, σ[i]? = some (some v) ∧ Rep K β H d v
end
section
variable {K : PySem.W.Frag} {β β' β'' : Bk} {H H' H'' : Hp} {S : Store}
theorem Ext.refl : Ext β H β H := ⟨⟨[], by simp⟩, fun _ m => m, fun _ m n _ => absurd m n, fun _ _ _ h => h, fun _ h n => absurd h n⟩
theorem Ext.mem (x : Ext β H β' H') {a : Addr} (h : a ∈ β.b) : a ∈ β'.b := by
  obtain ⟨n, e⟩ := x.pre; rw [e]; exact List.mem_append_left _ h
theorem Ext.get (x : Ext β H β' H') {l : Nat} {a : Addr} (h : β.b[l]? = some a) : β'.b[l]? = some a := by
  obtain ⟨n, e⟩ := x.pre
  rw [e, List.getElem?_append_left (List.getElem?_eq_some_iff.mp h).1]; exact h
theorem Ext.out (x : Ext β H β' H') {a : Addr} {o : HO} (n : a ∉ β.b) (h : H a = some o) : a ∉ β'.b := fun m => by
  rw [x.new a m n] at h; cases h
theorem Ext.outZ (x : Ext β H β' H') {a : Addr} {o : HO} (n : a ∉ β.z) (nb : a ∉ β.b) (h : H a = some o) : a ∉ β'.z := fun m => by
  rw [x.hnew a m n nb] at h; cases h
theorem Ext.trans (x : Ext β H β' H') (y : Ext β' H' β'' H'') : Ext β H β'' H'' := by
  refine ⟨?_, fun a m => y.hid a (x.hid a m), fun a m n nb => ?_, fun a o n h => y.stay a o (x.out n h) (x.stay a o n h), fun a m n => ?_⟩
  · obtain ⟨u, e⟩ := x.pre
    obtain ⟨w, e2⟩ := y.pre
    exact ⟨u ++ w, by rw [e2, e, List.append_assoc]⟩
  · by_cases h : a ∈ β'.z
    · exact x.hnew a h n nb
    · by_cases h2 : a ∈ β'.b
      · exact x.new a h2 nb
      · have e := y.hnew a m h h2
        cases q : H a with
        | none => rfl
        | some o => rw [x.stay a o nb q] at e; cases e
  · by_cases h : a ∈ β'.b
    · exact x.new a h n
    · have e := y.new a m h
      cases q : H a with
      | none => rfl
      | some o => rw [x.stay a o n q] at e; cases e
theorem TpAt.ext (x : Ext β H β' H') {a : Addr} {vs : List V} (h : TpAt K β H a vs) : TpAt K β' H' a vs := by
  rcases h with ⟨n, h⟩ | h
  · rcases h with h | ⟨o, h⟩
    · exact .inl ⟨x.out n h, .inl (x.stay _ _ n h)⟩
    · exact .inl ⟨x.out n h, .inr ⟨o, x.stay _ _ n h⟩⟩
  · exact .inr h
theorem FzAt.ext (x : Ext β H β' H') {a : Addr} {vs : List V} (h : FzAt K β H a vs) : FzAt K β' H' a vs := by
  rcases h with ⟨n, o, h⟩ | h
  · exact .inl ⟨x.out n h, o, x.stay _ _ n h⟩
  · exact .inr h
theorem TpAt.sq {a : Addr} {vs : List V} (h : TpAt K β H a vs) : SqT K H a vs := by
  rcases h with ⟨_, h⟩ | h
  · exact .inl h
  · exact .inr h
theorem FzAt.sq {a : Addr} {vs : List V} (h : FzAt K β H a vs) : SqL K H a vs := by
  rcases h with ⟨_, o, h⟩ | h
  · exact .inl (.inr ⟨o, h⟩)
  · exact .inr h
mutual
theorem Rep.ext (x : Ext β H β' H') : ∀ {d : D} {v : V}, Rep K β H d v → Rep K β' H' d v
  | .non, _, h => by simpa [Rep] using h
  | .bl _, _, h => by simpa [Rep] using h
  | .int _, _, h => by simpa [Rep] using h
  | .str _, _, h => by simpa [Rep] using h
  | .tup ds, _, h => by
    simp only [Rep] at h ⊢
    obtain ⟨a, vs, e, t, z, r⟩ := h
    exact ⟨a, vs, e, t.ext x, z, Reps.ext x r⟩
  | .lst ds, _, h => by
    simp only [Rep] at h ⊢
    obtain ⟨a, vs, e, ⟨n, n2, t⟩, z, r⟩ := h
    exact ⟨a, vs, e, ⟨x.out n t, x.outZ n2 n t, x.stay _ _ n t⟩, z, Reps.ext x r⟩
  | .fz ds, _, h => by
    simp only [Rep] at h ⊢
    obtain ⟨a, vs, e, t, z, r⟩ := h
    exact ⟨a, vs, e, t.ext x, z, Reps.ext x r⟩
  | .ref l, _, h => by
    simp only [Rep] at h ⊢
    obtain ⟨a, g, e⟩ := h
    exact ⟨a, x.get g, e⟩
theorem Reps.ext (x : Ext β H β' H') : ∀ {ds : List D} {vs : List V}, Reps K β H ds vs → Reps K β' H' ds vs
  | [], _, h => by simpa [Reps] using h
  | d :: ds, _, h => by
    simp only [Reps] at h ⊢
    obtain ⟨v, vr, e, r, t⟩ := h
    exact ⟨v, vr, e, Rep.ext x r, Reps.ext x t⟩
end
theorem ERel.ext (x : Ext β H β' H') {ρ : Env} {σ : St} (h : ERel K β H ρ σ) : ERel K β' H' ρ σ :=
  ⟨h.len, fun i d e => let ⟨v, g, r⟩ := h.at_ i d e; ⟨v, g, r.ext x⟩⟩
theorem Reps.length : ∀ {ds : List D} {vs : List V}, Reps K β H ds vs → ds.length = vs.length
  | [], _, h => by simp only [Reps] at h; subst h; rfl
  | d :: ds, _, h => by
    simp only [Reps] at h
    obtain ⟨v, vr, rfl, _, t⟩ := h
    simp [Reps.length t]
theorem Reps.get : ∀ {ds : List D} {vs : List V} {i : Nat} {d : D}, Reps K β H ds vs → ds[i]? = some d → ∃ v, vs[i]? = some v ∧ Rep K β H d v
  | [], _, i, d, _, e => by simp at e
  | d :: ds, _, i, e, h, g => by
    simp only [Reps] at h
    obtain ⟨v, vr, rfl, r, t⟩ := h
    cases i with
    | zero => simp at g; subst g; exact ⟨v, rfl, r⟩
    | succ i => simpa using Reps.get t (by simpa using g)
theorem Reps.getV : ∀ {ds : List D} {vs : List V} {i : Nat} {v : V}, Reps K β H ds vs → vs[i]? = some v → ∃ d, ds[i]? = some d ∧ Rep K β H d v
  | [], _, i, d, h, e => by simp only [Reps] at h; subst h; simp at e
  | d :: ds, _, i, e, h, g => by
    simp only [Reps] at h
    obtain ⟨v, vr, rfl, r, t⟩ := h
    cases i with
    | zero => simp at g; subst g; exact ⟨d, rfl, r⟩
    | succ i => simpa using Reps.getV t (by simpa using g)
theorem Reps.append : ∀ {ds es : List D} {vs ws : List V}, Reps K β H ds vs → Reps K β H es ws → Reps K β H (ds ++ es) (vs ++ ws)
  | [], _, _, _, h, g => by simp only [Reps] at h; subst h; exact g
  | d :: ds, es, _, ws, h, g => by
    simp only [Reps] at h
    obtain ⟨v, vr, rfl, r, t⟩ := h
    simp only [List.cons_append, Reps]
    exact ⟨v, vr ++ ws, rfl, r, Reps.append t g⟩
theorem Reps.take : ∀ {ds : List D} {vs : List V} (n : Nat), Reps K β H ds vs → Reps K β H (ds.take n) (vs.take n)
  | _, _, 0, _ => by simp [Reps]
  | [], _, n + 1, h => by simp only [Reps] at h; subst h; simp [Reps]
  | d :: ds, _, n + 1, h => by
    simp only [Reps] at h
    obtain ⟨v, vr, rfl, r, t⟩ := h
    simp only [List.take_succ_cons, Reps]
    exact ⟨v, _, rfl, r, Reps.take n t⟩
theorem Reps.drop : ∀ {ds : List D} {vs : List V} (n : Nat), Reps K β H ds vs → Reps K β H (ds.drop n) (vs.drop n)
  | _, _, 0, h => by simpa using h
  | [], _, n + 1, h => by simp only [Reps] at h; subst h; simp [Reps]
  | d :: ds, _, n + 1, h => by
    simp only [Reps] at h
    obtain ⟨v, vr, rfl, r, t⟩ := h
    simpa using Reps.drop n t
theorem Reps.set : ∀ {ds : List D} {vs : List V} {d : D} {v : V} (n : Nat), Reps K β H ds vs → Rep K β H d v → Reps K β H (ds.set n d) (vs.set n v)
  | [], _, _, _, n, h, _ => by simp only [Reps] at h; subst h; simp [Reps]
  | d :: ds, _, e, w, n, h, g => by
    simp only [Reps] at h
    obtain ⟨v, vr, rfl, r, t⟩ := h
    cases n with
    | zero => simp only [List.set_cons_zero, Reps]; exact ⟨w, vr, rfl, g, t⟩
    | succ n => simp only [List.set_cons_succ, Reps]; exact ⟨v, _, rfl, r, Reps.set n t g⟩
theorem Reps.one {d : D} {v : V} (h : Rep K β H d v) : Reps K β H [d] [v] := by simp only [Reps]; exact ⟨v, [], rfl, h, rfl⟩
theorem Reps.nil : Reps K β H [] [] := by simp [Reps]
theorem Reps.cons {d : D} {v : V} {ds : List D} {vs : List V} (h : Rep K β H d v) (t : Reps K β H ds vs) : Reps K β H (d :: ds) (v :: vs) := by simp only [Reps]; exact ⟨v, vs, rfl, h, t⟩
theorem Reps.uncons {d : D} {ds : List D} {vs : List V} (h : Reps K β H (d :: ds) vs) : ∃ v vr, vs = v :: vr ∧ Rep K β H d v ∧ Reps K β H ds vr := by simpa only [Reps] using h
theorem Reps.unnil {vs : List V} (h : Reps K β H [] vs) : vs = [] := by simpa only [Reps] using h

theorem SRel.mem (r : SRel K β H S) {a : Addr} (h : a ∈ β.b) : ∃ o, H a = some o := by
  obtain ⟨l, hl⟩ := List.mem_iff_getElem?.mp h
  have hs : l < S.length := by rw [← r.len]; exact (List.getElem?_eq_some_iff.mp hl).1
  obtain ⟨a', g, c⟩ := r.cell l S[l] (by simp [hs])
  rw [hl] at g; cases g
  cases e : S[l] with
  | lst ds => rw [e] at c; obtain ⟨vs, q, _⟩ := c; exact ⟨_, q⟩
  | ins _ _ => rw [e] at c; exact False.elim c
theorem SRel.fresh (r : SRel K β H S) {p : Addr} (h : H p = none) : p ∉ β.b := fun m => by
  obtain ⟨o, e⟩ := r.mem m; rw [h] at e; cases e
theorem SRel.freshZ (r : SRel K β H S) {p : Addr} (h : H p = none) : p ∉ β.z := fun m => by
  obtain ⟨_, o, e⟩ := r.out p m; rw [h] at e; cases e
theorem CRep.ext (x : Ext β H β' H') {c : Cell} {a : Addr} (h : CRep K β H c a) (k : ∀ o, H a = some o → H' a = some o) : CRep K β' H' c a := by
  cases c with
  | lst ds =>
    obtain ⟨vs, q1, z, q2⟩ := h
    exact ⟨vs, k _ q1, z, q2.ext x⟩
  | ins _ _ => exact h
/-- a new object beside the store -/
theorem SRel.laid (r : SRel K β H S) {p : Addr} (h : H p = none) (o : HO) : Ext β H β (upd H p o) ∧ SRel K β (upd H p o) S ∧ p ∉ β.b ∧ p ∉ β.z := by
  have n := r.fresh h
  have k : ∀ {a : Addr} {u : HO}, H a = some u → upd H p o a = some u := fun {a u} e => by rw [upd_ne (ne_of_none e h)]; exact e
  have x : Ext β H β (upd H p o) := ⟨⟨[], by simp⟩, fun _ m => m, fun _ m n _ => absurd m n, fun a u _ e => k e, fun _ m k => absurd m k⟩
  refine ⟨x, ⟨r.len, r.nd, fun l c e => ?_, fun a m => ?_⟩, n, r.freshZ h⟩
  · obtain ⟨a, g, q⟩ := r.cell l c e
    exact ⟨a, g, q.ext x fun _ e => k e⟩
  · obtain ⟨h1, u, h2⟩ := r.out a m
    exact ⟨h1, u, k h2⟩
/-- a new list in the store -/
theorem SRel.push (r : SRel K β H S) {p : Addr} (h : H p = none) {ds : List D} {vs : List V} (z : ds.length ≤ sizeLine) (d : Reps K β H ds vs) :
    Ext β H ⟨β.b ++ [p], β.z⟩ (upd H p (.lst vs)) ∧ SRel K ⟨β.b ++ [p], β.z⟩ (upd H p (.lst vs)) (S ++ [.lst ds]) := by
  have n := r.fresh h
  have k : ∀ {a : Addr} {u : HO}, H a = some u → upd H p (.lst vs) a = some u := fun {a u} e => by rw [upd_ne (ne_of_none e h)]; exact e
  have x : Ext β H ⟨β.b ++ [p], β.z⟩ (upd H p (.lst vs)) := ⟨⟨[p], rfl⟩, fun _ m => m, fun _ m n _ => absurd m n, fun a u _ e => k e, fun a m k => by
    rcases List.mem_append.mp m with m | m
    · exact absurd m k
    · rw [List.mem_singleton.mp m]; exact h⟩
  refine ⟨x, ⟨by simp [r.len], List.nodup_append.mpr ⟨r.nd, by simp, by intro a ha b hb e; rw [List.mem_singleton.mp hb] at e; subst e; exact n ha⟩, fun l c e => ?_, fun a m => ?_⟩⟩
  · by_cases hl : l < S.length
    · rw [List.getElem?_append_left hl] at e
      obtain ⟨a, g, q⟩ := r.cell l c e
      exact ⟨a, by show (β.b ++ [p])[l]? = some a; rw [List.getElem?_append_left (by rw [r.len]; exact hl)]; exact g, q.ext x fun _ e => k e⟩
    · have hl2 : l = S.length := by
        have := (List.getElem?_eq_some_iff.mp e).1
        simp at this; omega
      subst hl2
      simp at e; subst e
      exact ⟨p, by rw [← r.len]; simp, vs, upd_same, z, d.ext x⟩
  · obtain ⟨h1, u, h2⟩ := r.out a m
    refine ⟨fun q => ?_, u, k h2⟩
    rcases List.mem_append.mp q with q | q
    · exact h1 q
    · rw [List.mem_singleton.mp q, h] at h2; cases h2
/-- a list of the store is written -/
theorem SRel.write (r : SRel K β H S) {l : Nat} {a : Addr} (g : β.b[l]? = some a) {ds : List D} {vs : List V} (z : ds.length ≤ sizeLine) (d : Reps K β H ds vs) :
    Ext β H β (upd H a (.lst vs)) ∧ SRel K β (upd H a (.lst vs)) (S.set l (.lst ds)) := by
  have m : a ∈ β.b := List.mem_of_getElem? g
  have x : Ext β H β (upd H a (.lst vs)) := ⟨⟨[], by simp⟩, fun _ m => m, fun _ m n _ => absurd m n, fun b u k e => by rw [upd_ne (show b ≠ a from fun q => k (by rw [q]; exact m))]; exact e, fun _ m k => absurd m k⟩
  refine ⟨x, ⟨by simp [r.len], r.nd, fun k c e => ?_, fun b mb => ?_⟩⟩
  · by_cases hk : l = k
    · subst hk
      have hl : l < S.length := by rw [← r.len]; exact (List.getElem?_eq_some_iff.mp g).1
      rw [List.getElem?_set_self hl] at e
      cases e
      exact ⟨a, g, vs, upd_same, z, d.ext x⟩
    · rw [List.getElem?_set_ne hk] at e
      obtain ⟨b, gb, q⟩ := r.cell k c e
      have nab : b ≠ a := fun q => by
        subst q
        exact hk ((List.getElem?_inj (List.getElem?_eq_some_iff.mp g).1 r.nd).mp (g.trans gb.symm))
      exact ⟨b, gb, q.ext x fun _ e => by rw [upd_ne nab]; exact e⟩
  · obtain ⟨h1, u, h2⟩ := r.out b mb
    exact ⟨h1, u, by rw [upd_ne (show b ≠ a from fun q => h1 (by rw [q]; exact m))]; exact h2⟩
/-! ### a place hidden, shown again, written while it is hidden -/
abbrev Bk.hide (β : Bk) (p : Addr) : Bk := ⟨β.b, p :: β.z⟩
theorem Ext.hide {p : Addr} {o : HO} (h : H p = none) : Ext β H (β.hide p) (upd H p o) :=
  ⟨⟨[], by simp⟩, fun a m => List.mem_cons_of_mem _ m, fun a m n _ => (List.mem_cons.mp m).elim (fun e => by rw [e]; exact h) fun q => absurd q n, fun a u _ e => by rw [upd_ne (ne_of_none e h)]; exact e, fun _ m k => absurd m k⟩
theorem SRel.hide {p : Addr} {o : HO} (r : SRel K β H S) (h : H p = none) : SRel K (β.hide p) (upd H p o) S := by
  refine ⟨r.len, r.nd, fun l c e => ?_, fun a m => ?_⟩
  · obtain ⟨a, g, q⟩ := r.cell l c e
    exact ⟨a, g, q.ext (Ext.hide h) fun _ e => by rw [upd_ne (ne_of_none e h)]; exact e⟩
  · rcases List.mem_cons.mp m with rfl | m
    · exact ⟨r.fresh h, o, upd_same⟩
    · obtain ⟨h1, u, h2⟩ := r.out a m
      exact ⟨h1, u, by rw [upd_ne (ne_of_none h2 h)]; exact h2⟩
mutual
theorem Rep.less {b z z' : List Addr} (k : ∀ a ∈ z', a ∈ z) : ∀ {d : D} {v : V}, Rep K ⟨b, z⟩ H d v → Rep K ⟨b, z'⟩ H d v
  | .non, _, r => by simpa [Rep] using r
  | .bl _, _, r => by simpa [Rep] using r
  | .int _, _, r => by simpa [Rep] using r
  | .str _, _, r => by simpa [Rep] using r
  | .tup ds, _, r => by
    simp only [Rep] at r ⊢
    obtain ⟨a, vs, e, t, q, r⟩ := r
    exact ⟨a, vs, e, t, q, Reps.less k r⟩
  | .lst ds, _, r => by
    simp only [Rep] at r ⊢
    obtain ⟨a, vs, e, ⟨n, n2, t⟩, q, r⟩ := r
    exact ⟨a, vs, e, ⟨n, fun m => n2 (k a m), t⟩, q, Reps.less k r⟩
  | .fz ds, _, r => by
    simp only [Rep] at r ⊢
    obtain ⟨a, vs, e, t, q, r⟩ := r
    exact ⟨a, vs, e, t, q, Reps.less k r⟩
  | .ref l, _, r => by simpa [Rep] using r
theorem Reps.less {b z z' : List Addr} (k : ∀ a ∈ z', a ∈ z) : ∀ {ds : List D} {vs : List V}, Reps K ⟨b, z⟩ H ds vs → Reps K ⟨b, z'⟩ H ds vs
  | [], _, r => by simpa [Reps] using r
  | d :: ds, _, r => by
    simp only [Reps] at r ⊢
    obtain ⟨v, vr, e, r, t⟩ := r
    exact ⟨v, vr, e, Rep.less k r, Reps.less k t⟩
end
theorem SRel.less {b z z' : List Addr} (k : ∀ a ∈ z', a ∈ z) (r : SRel K ⟨b, z⟩ H S) : SRel K ⟨b, z'⟩ H S :=
  ⟨r.len, r.nd, fun l c e => by
    obtain ⟨a, g, q⟩ := r.cell l c e
    refine ⟨a, g, ?_⟩
    cases c with
    | lst ds =>
      obtain ⟨vs, q1, z, q2⟩ := q
      exact ⟨vs, q1, z, q2.less k⟩
    | ins _ _ => exact q, fun a m => r.out a (k a m)⟩
mutual
theorem Rep.poke {p : Addr} {xs ys : List V} (h : H p = some (.lst xs)) (np : p ∈ β.z) : ∀ {d : D} {v : V}, Rep K β H d v → Rep K β (upd H p (.lst ys)) d v
  | .non, _, r => by simpa [Rep] using r
  | .bl _, _, r => by simpa [Rep] using r
  | .int _, _, r => by simpa [Rep] using r
  | .str _, _, r => by simpa [Rep] using r
  | .tup ds, _, r => by
    simp only [Rep] at r ⊢
    obtain ⟨a, vs, e, t, z, r⟩ := r
    refine ⟨a, vs, e, ?_, z, Reps.poke h np r⟩
    rcases t with ⟨n, t | ⟨u, t⟩⟩ | t
    · exact .inl ⟨n, .inl (by rw [upd_ne (ne_of t h (by intro q; cases q))]; exact t)⟩
    · exact .inl ⟨n, .inr ⟨u, by rw [upd_ne (ne_of t h (by intro q; cases q))]; exact t⟩⟩
    · exact .inr t
  | .lst ds, _, r => by
    simp only [Rep] at r ⊢
    obtain ⟨a, vs, e, ⟨n, n2, t⟩, z, r⟩ := r
    have ne : a ≠ p := fun q => n2 (by rw [q]; exact np)
    exact ⟨a, vs, e, ⟨n, n2, by rw [upd_ne ne]; exact t⟩, z, Reps.poke h np r⟩
  | .fz ds, _, r => by
    simp only [Rep] at r ⊢
    obtain ⟨a, vs, e, t, z, r⟩ := r
    refine ⟨a, vs, e, ?_, z, Reps.poke h np r⟩
    rcases t with ⟨n, u, t⟩ | t
    · exact .inl ⟨n, u, by rw [upd_ne (ne_of t h (by intro q; cases q))]; exact t⟩
    · exact .inr t
  | .ref l, _, r => by simpa [Rep] using r
theorem Reps.poke {p : Addr} {xs ys : List V} (h : H p = some (.lst xs)) (np : p ∈ β.z) : ∀ {ds : List D} {vs : List V}, Reps K β H ds vs → Reps K β (upd H p (.lst ys)) ds vs
  | [], _, r => by simpa [Reps] using r
  | d :: ds, _, r => by
    simp only [Reps] at r ⊢
    obtain ⟨v, vr, e, r, t⟩ := r
    exact ⟨v, vr, e, Rep.poke h np r, Reps.poke h np t⟩
end
theorem SRel.poke {p : Addr} {xs ys : List V} (r : SRel K β H S) (h : H p = some (.lst xs)) (m : p ∈ β.z) : SRel K β (upd H p (.lst ys)) S := by
  have np : p ∉ β.b := (r.out p m).1
  refine ⟨r.len, r.nd, fun l c e => ?_, fun a m => ?_⟩
  · obtain ⟨a, g, q⟩ := r.cell l c e
    refine ⟨a, g, ?_⟩
    have ne : a ≠ p := fun q => np (by rw [← q]; exact List.mem_of_getElem? g)
    cases c with
    | lst ds =>
      obtain ⟨vs, q1, z, q2⟩ := q
      exact ⟨vs, by rw [upd_ne ne]; exact q1, z, q2.poke h m⟩
    | ins _ _ => exact q
  · obtain ⟨h1, u, h2⟩ := r.out a m
    by_cases e : a = p
    · subst e; exact ⟨h1, _, upd_same⟩
    · exact ⟨h1, u, by rw [upd_ne e]; exact h2⟩
mutual
theorem Rep.move {b z z' : List Addr} {p : Addr} {xs : List V} (m : p ∈ z) (k : ∀ a ∈ z', a ∈ z) (h : H p = some (.lst xs)) : ∀ {d : D} {v : V}, Rep K ⟨b, z⟩ H d v → Rep K ⟨b ++ [p], z'⟩ H d v
  | .non, _, r => by simpa [Rep] using r
  | .bl _, _, r => by simpa [Rep] using r
  | .int _, _, r => by simpa [Rep] using r
  | .str _, _, r => by simpa [Rep] using r
  | .tup ds, _, r => by
    simp only [Rep] at r ⊢
    obtain ⟨a, vs, e, t, q, r⟩ := r
    refine ⟨a, vs, e, ?_, q, Reps.move m k h r⟩
    rcases t with ⟨n, t⟩ | t
    · refine .inl ⟨fun q => ?_, t⟩
      rcases List.mem_append.mp q with q | q
      · exact n q
      · rw [List.mem_singleton.mp q] at t
        rcases t with t | ⟨o, t⟩ <;> (rw [h] at t; cases t)
    · exact .inr t
  | .lst ds, _, r => by
    simp only [Rep] at r ⊢
    obtain ⟨a, vs, e, ⟨n, n2, t⟩, q, r⟩ := r
    refine ⟨a, vs, e, ⟨fun q => ?_, fun q => n2 (k a q), t⟩, q, Reps.move m k h r⟩
    rcases List.mem_append.mp q with q | q
    · exact n q
    · rw [List.mem_singleton.mp q] at n2; exact n2 m
  | .fz ds, _, r => by
    simp only [Rep] at r ⊢
    obtain ⟨a, vs, e, t, q, r⟩ := r
    refine ⟨a, vs, e, ?_, q, Reps.move m k h r⟩
    rcases t with ⟨n, o, t⟩ | t
    · refine .inl ⟨fun q => ?_, o, t⟩
      rcases List.mem_append.mp q with q | q
      · exact n q
      · rw [List.mem_singleton.mp q, h] at t; cases t
    · exact .inr t
  | .ref l, _, r => by
    simp only [Rep] at r ⊢
    obtain ⟨a, g, e⟩ := r
    exact ⟨a, by rw [List.getElem?_append_left (List.getElem?_eq_some_iff.mp g).1]; exact g, e⟩
theorem Reps.move {b z z' : List Addr} {p : Addr} {xs : List V} (m : p ∈ z) (k : ∀ a ∈ z', a ∈ z) (h : H p = some (.lst xs)) : ∀ {ds : List D} {vs : List V}, Reps K ⟨b, z⟩ H ds vs → Reps K ⟨b ++ [p], z'⟩ H ds vs
  | [], _, r => by simpa [Reps] using r
  | d :: ds, _, r => by
    simp only [Reps] at r ⊢
    obtain ⟨v, vr, e, r, t⟩ := r
    exact ⟨v, vr, e, Rep.move m k h r, Reps.move m k h t⟩
end
/-- a hidden list comes into the store -/
theorem SRel.move {b z z' : List Addr} {p : Addr} {ds : List D} {xs : List V} (r : SRel K ⟨b, z⟩ H S) (m : p ∈ z) (k : ∀ a ∈ z', a ∈ z) (m' : p ∉ z') (h : H p = some (.lst xs)) (l : ds.length ≤ sizeLine) (d : Reps K ⟨b, z⟩ H ds xs) :
    SRel K ⟨b ++ [p], z'⟩ H (S ++ [.lst ds]) := by
  have np : p ∉ b := (r.out p m).1
  have hlen : b.length = S.length := r.len
  have hnd : b.Nodup := r.nd
  refine ⟨by simp [hlen], List.nodup_append.mpr ⟨hnd, by simp, by intro a ha c hc e; rw [List.mem_singleton.mp hc] at e; subst e; exact np ha⟩, fun i c e => ?_, fun a ma => ?_⟩
  · by_cases hl : i < S.length
    · rw [List.getElem?_append_left hl] at e
      obtain ⟨a, g, q⟩ := r.cell i c e
      have g : b[i]? = some a := g
      refine ⟨a, by show (b ++ [p])[i]? = some a; rw [List.getElem?_append_left (by rw [hlen]; exact hl)]; exact g, ?_⟩
      cases c with
      | lst es =>
        obtain ⟨vs, q1, z1, q2⟩ := q
        exact ⟨vs, q1, z1, q2.move m k h⟩
      | ins _ _ => exact q
    · have hl2 : i = S.length := by
        have := (List.getElem?_eq_some_iff.mp e).1
        simp at this; omega
      subst hl2
      simp at e; subst e
      exact ⟨p, by show (b ++ [p])[S.length]? = some p; rw [← hlen]; simp, xs, h, l, d.move m k h⟩
  · obtain ⟨h1, u, h2⟩ := r.out a (k a ma)
    refine ⟨fun q => ?_, u, h2⟩
    rcases List.mem_append.mp q with q | q
    · exact h1 q
    · rw [List.mem_singleton.mp q] at ma; exact m' ma
theorem ERel.poke {p : Addr} {xs ys : List V} {ρ : Env} {σ : St} (r : ERel K β H ρ σ) (h : H p = some (.lst xs)) (m : p ∈ β.z) : ERel K β (upd H p (.lst ys)) ρ σ :=
  ⟨r.len, fun i d e => let ⟨v, g, q⟩ := r.at_ i d e; ⟨v, g, q.poke h m⟩⟩
end
end Pyx
end
section
/-! What an answer of the reckoning means for the machine; the operators by values. -/
namespace Pyx
open PySem L2

abbrev XW := Exc → Bk → Hp → Prop
section
variable {α τ : Type} (K : PySem.W.Frag) (Rp : Bk → Hp → α → τ → Prop) (E : XW)
def Go (β : Bk) (H : Hp) (r : R α) (Q : τ → Hp → Prop) : Prop :=
  match r with
  | .ok a S' => ∀ t β' H', Ext β H β' H' → Rp β' H' a t → SRel K β' H' S' → Q t H'
  | .exc x S' => ∀ β' H', Ext β H β' H' → SRel K β' H' S' → E x β' H'
  | .stuck => False
end
section
variable {α α' τ τ' : Type} {K : PySem.W.Frag} {Rp : Bk → Hp → α → τ → Prop} {Rq : Bk → Hp → α' → τ' → Prop} {E : XW} {β β' : Bk} {H H' : Hp} {S : Store}
theorem Go.mono {r : R α} {Q Q' : τ → Hp → Prop} (h : Go K Rp E β H r Q) (q : ∀ t H, Q t H → Q' t H) : Go K Rp E β H r Q' := by
  cases r with
  | ok a S' => exact fun t b c x y z => q _ _ (h t b c x y z)
  | exc x S' => exact h
  | stuck => exact h
theorem Go.ext {r : R α} {Q : τ → Hp → Prop} (h : Go K Rp E β H r Q) (x : Ext β H β' H') : Go K Rp E β' H' r Q := by
  cases r with
  | ok a S' => exact fun t b c y => h t b c (x.trans y)
  | exc e S' => exact fun b c y => h b c (x.trans y)
  | stuck => exact h
/-- what stands behind the first of two steps -/
def Bh (K : PySem.W.Frag) (Rp : Bk → Hp → α → τ → Prop) (Rq : Bk → Hp → α' → τ' → Prop) (E : XW) (β : Bk) (H : Hp) (f : α → Store → R α') (Q : τ' → Hp → Prop) (t : τ) (H1 : Hp) : Prop :=
  ∃ β1 S1 a, Ext β H β1 H1 ∧ Rp β1 H1 a t ∧ SRel K β1 H1 S1 ∧ Go K Rq E β1 H1 (f a S1) Q
theorem Go.bind {r : R α} {f : α → Store → R α'} {Q : τ' → Hp → Prop} (h : Go K Rq E β H (r.bind f) Q) : Go K Rp E β H r (Bh K Rp Rq E β H f Q) := by
  cases r with
  | ok a S' => exact fun t b c x y z => ⟨b, S', a, x, y, z, Go.ext h x⟩
  | exc x S' => exact h
  | stuck => exact h
theorem Go.same {a : α} {t : τ} {Q : τ → Hp → Prop} (h : Go K Rp E β H (.ok a S) Q) (r : Rp β H a t) (s : SRel K β H S) : Q t H := h t β H Ext.refl r s
theorem Go.give {o : Option α} {Q : τ → Hp → Prop} (h : Go K Rp E β H (give S o) Q) : ∃ a, o = some a ∧ Go K Rp E β H (.ok a S) Q := by
  cases o with
  | none => exact h.elim
  | some a => exact ⟨a, rfl, h⟩
end
/-- a choice that is not told by a heap -/
def Is {α : Type} : Bk → Hp → α → α → Prop := fun _ _ a b => a = b
section
variable {K : PySem.W.Frag} {E : XW} {β : Bk} {H : Hp} {S : Store} {Q : V → Hp → Prop}
theorem go_lst {ds : List D} {vs : List V} {m : Bool} (s : SRel K β H S) (r : Reps K β H ds vs) (h : Go K (Rep K) E β H (mkL m ds S) Q) : vs.length ≤ sizeLine ∧ ∀ p, H p = none → Q (.ref p) (upd H p (.lst vs)) := by
  unfold mkL at h
  by_cases z : ds.length ≤ sizeLine
  · rw [if_pos z] at h
    refine ⟨by rw [← r.length]; exact z, fun p hp => ?_⟩
    cases m with
    | true =>
      obtain ⟨x, s'⟩ := s.push hp z r
      exact h (.ref p) _ _ x (by simp only [Rep]; exact ⟨p, by rw [← s.len]; simp, rfl⟩) s'
    | false =>
      obtain ⟨x, s', n⟩ := s.laid hp (.lst vs)
      exact h (.ref p) _ _ x (by simp only [Rep]; exact ⟨p, vs, rfl, ⟨n.1, n.2, upd_same⟩, z, r.ext x⟩) s'
  · rw [if_neg z] at h; exact h.elim
theorem go_tup {ds : List D} {vs : List V} (s : SRel K β H S) (r : Reps K β H ds vs) (z : ds.length ≤ sizeLine) (h : Go K (Rep K) E β H (.ok (.tup ds) S) Q) : ∀ p, H p = none → Q (.ref p) (upd H p (.tup vs)) := fun p hp => by
  obtain ⟨x, s', n⟩ := s.laid hp (.tup vs)
  exact h (.ref p) _ _ x (by simp only [Rep]; exact ⟨p, vs, rfl, .inl ⟨n.1, .inl upd_same⟩, z, r.ext x⟩) s'
theorem go_new {ds : List D} {vs : List V} (s : SRel K β H S) (r : Reps K β H ds vs) (z : ds.length ≤ sizeLine) (h : Go K (Rep K) E β H (.ok (.lst ds) S) Q) : ∀ p, H p = none → Q (.ref p) (upd H p (.lst vs)) := fun p hp => by
  obtain ⟨x, s', n⟩ := s.laid hp (.lst vs)
  exact h (.ref p) _ _ x (by simp only [Rep]; exact ⟨p, vs, rfl, ⟨n.1, n.2, upd_same⟩, z, r.ext x⟩) s'
theorem go_mkT {ds : List D} {vs : List V} (s : SRel K β H S) (r : Reps K β H ds vs) (h : Go K (Rep K) E β H (mkT ds S) Q) : vs.length ≤ sizeLine ∧ ∀ p, H p = none → Q (.ref p) (upd H p (.tup vs)) := by
  unfold mkT at h
  by_cases z : ds.length ≤ sizeLine
  · rw [if_pos z] at h
    exact ⟨by rw [← r.length]; exact z, go_tup s r z h⟩
  · rw [if_neg z] at h; exact h.elim
/-- the items of a list that may be read in every way -/
theorem asL_rep (s : SRel K β H S) {d : D} {v : V} {ds : List D} (r : Rep K β H d v) (e : asL S d = some ds) : ∃ a vs, v = .ref a ∧ H a = some (.lst vs) ∧ ds.length ≤ sizeLine ∧ Reps K β H ds vs := by
  cases d with
  | lst es =>
    simp only [asL, Option.some.injEq] at e; subst e
    simp only [Rep] at r
    obtain ⟨a, vs, rfl, ⟨_, _, h⟩, z, r⟩ := r
    exact ⟨a, vs, rfl, h, z, r⟩
  | ref l =>
    simp only [Rep] at r
    obtain ⟨a, g, rfl⟩ := r
    simp only [asL] at e
    split at e
    · rename_i es q
      cases e
      obtain ⟨a', g', vs, h, z, r⟩ := s.cell l _ q
      rw [g] at g'; cases g'
      exact ⟨a, vs, rfl, h, z, r⟩
    · cases e
  | _ => simp [asL] at e
/-- a list or a tuple that may be read -/
theorem asQ_rep (s : SRel K β H S) {d : D} {v : V} {ds : List D} (r : Rep K β H d v) (e : asQ S d = some ds) : ∃ a vs, v = .ref a ∧ (SqL K H a vs ∨ SqT K H a vs) ∧ ds.length ≤ sizeLine ∧ Reps K β H ds vs := by
  cases d with
  | tup es =>
    simp only [asQ, Option.some.injEq] at e; subst e
    simp only [Rep] at r
    obtain ⟨a, vs, rfl, h, z, r⟩ := r
    exact ⟨a, vs, rfl, .inr h.sq, z, r⟩
  | fz es =>
    simp only [asQ, Option.some.injEq] at e; subst e
    simp only [Rep] at r
    obtain ⟨a, vs, rfl, h, z, r⟩ := r
    exact ⟨a, vs, rfl, .inl h.sq, z, r⟩
  | lst es =>
    obtain ⟨a, vs, rfl, h, z, r⟩ := asL_rep (ds := ds) s r (by simpa [asQ, asL] using e)
    exact ⟨a, vs, rfl, .inl (SqL.of h), z, r⟩
  | ref l =>
    obtain ⟨a, vs, rfl, h, z, r⟩ := asL_rep (ds := ds) s r (by simpa [asQ, asL] using e)
    exact ⟨a, vs, rfl, .inl (SqL.of h), z, r⟩
  | _ => simp [asQ] at e
theorem asQ_list (s : SRel K β H S) {d : D} {v : V} {ds : List D} (r : Rep K β H d v) (nt : ∀ es, d ≠ .tup es) (e : asQ S d = some ds) : ∃ a vs, v = .ref a ∧ SqL K H a vs ∧ ds.length ≤ sizeLine ∧ Reps K β H ds vs := by
  cases d with
  | tup es => exact absurd rfl (nt es)
  | fz es =>
    simp only [asQ, Option.some.injEq] at e; subst e
    simp only [Rep] at r
    obtain ⟨a, vs, rfl, h, z, r⟩ := r
    exact ⟨a, vs, rfl, h.sq, z, r⟩
  | lst es =>
    obtain ⟨a, vs, rfl, h, z, r⟩ := asL_rep (ds := ds) s r (by simpa [asQ, asL] using e)
    exact ⟨a, vs, rfl, SqL.of h, z, r⟩
  | ref l =>
    obtain ⟨a, vs, rfl, h, z, r⟩ := asL_rep (ds := ds) s r (by simpa [asQ, asL] using e)
    exact ⟨a, vs, rfl, SqL.of h, z, r⟩
  | _ => simp [asQ] at e

/-! ### operators -/
def opOf : BOp → Operator
  | .add => .Add
  | .sub => .Sub
  | .mul => .Mult
  | .fdiv => .FloorDiv
  | .mod => .Mod
  | .pow => .Pow
def rBin (K : PySem.W.Frag) : BOp → R2
  | .add => fun x y H Q => rI0 (fun i j => .int (i + j)) x y H Q ∨ (∃ i j, x = .str i ∧ y = .str j ∧ i.length + j.length ≤ sizeLine ∧ Q (.str (i ++ j)) H) ∨ rCatA K x y H Q ∨ rCat x y H Q
  | .sub => rI0 fun i j => .int (i - j)
  | .mul => fun x y H Q => rI CMul (fun i j => .int (i * j)) x y H Q ∨ rI CMulW (fun i j => .int (i * j)) x y H Q
  | .fdiv => fun x y H Q => rI CDivW (fun i j => .int (i / j)) x y H Q ∨ rI CDivN (fun i j => .int (i.fdiv j)) x y H Q
  | .mod => fun x y H Q => rI (fun _ j => 0 < j) (fun i j => .int (i % j)) x y H Q ∨ rI (fun _ j => j ≠ 0) (fun i j => .int (i.fmod j)) x y H Q
  | .pow => rI CPow fun i j => .int (i ^ j.toNat)
theorem bin_ok {X : Cx} : ∀ o : BOp, OpR X (binaryOp (opOf o)) (rBin X.K o)
  | .add => op_add.or (op_add_str.or (op_catA.or op_cat))
  | .sub => op_sub
  | .mul => op_mul.or op_mulW
  | .fdiv => op_fdivW.or op_fdivN
  | .mod => op_mod.or op_modN
  | .pow => op_pow
theorem rep_int {i : Int} {v : V} (h : Rep K β H (.int i) v) : v = .int i := by simpa only [Rep] using h
theorem rep_bl {i : Bool} {v : V} (h : Rep K β H (.bl i) v) : v = .bl i := by simpa only [Rep] using h
theorem rep_non {v : V} (h : Rep K β H .non v) : v = .non := by simpa only [Rep] using h
theorem rep_str {i : Str} {v : V} (h : Rep K β H (.str i) v) : v = .str i ∧ i.length ≤ sizeLine := by simpa only [Rep] using h
theorem rep_tup {ds : List D} {v : V} (h : Rep K β H (.tup ds) v) : ∃ a vs, v = .ref a ∧ SqT K H a vs ∧ ds.length ≤ sizeLine ∧ Reps K β H ds vs := by
  simp only [Rep] at h
  obtain ⟨a, vs, e, t, z, r⟩ := h
  exact ⟨a, vs, e, t.sq, z, r⟩
theorem int_rep (i : Int) : Rep K β H (.int i) (.int i) := by simp only [Rep]
theorem bl_rep (i : Bool) : Rep K β H (.bl i) (.bl i) := by simp only [Rep]
theorem non_rep : Rep K β H .non .non := by simp only [Rep]
theorem str_rep {i : Str} (h : i.length ≤ sizeLine) : Rep K β H (.str i) (.str i) := by simp only [Rep]; exact ⟨trivial, h⟩

theorem mulOk_of {i j : Int} (h : mulOk i j = true) : CMul i j ∨ CMulW i j := by
  unfold mulOk at h
  simp only [Bool.or_eq_true, decide_eq_true_eq] at h
  rcases h with (h | h) | h
  · exact .inl (.inl h)
  · exact .inl (.inr h)
  · exact .inr h
theorem add_l (s : SRel K β H S) {d e : D} {x y : V} (rd : Rep K β H d x) (re : Rep K β H e y)
    (h : Go K (Rep K) E β H (match asL S d, asL S e with
      | some xs, some ys => if xs.length + ys.length ≤ sizeLine then .ok (.lst (xs ++ ys)) S else .stuck
      | _, _ => .stuck) Q) : rBin K .add x y H Q := by
  cases e1 : asL S d with
  | none => rw [e1] at h; exact h.elim
  | some xs =>
    cases e2 : asL S e with
    | none => rw [e1, e2] at h; exact h.elim
    | some ys =>
      rw [e1, e2] at h
      obtain ⟨a, vs, rfl, h1, z1, r1⟩ := asL_rep s rd e1
      obtain ⟨b, ws, rfl, h2, z2, r2⟩ := asL_rep s re e2
      by_cases z : xs.length + ys.length ≤ sizeLine
      · simp only [z, if_true] at h
        exact .inr (.inr (.inr ⟨a, b, vs, ws, rfl, rfl, h1, h2, by rw [← r1.length, ← r2.length]; exact z, go_new s (r1.append r2) (by rw [List.length_append]; exact z) h⟩))
      · simp only [z, if_false] at h; exact h.elim
theorem int2_go {C : Int → Int → Prop} {f : Int → Int → Int} (s : SRel K β H S) {i j : Int} {x y : V} (rd : Rep K β H (.int i) x) (re : Rep K β H (.int j) y) (c : C i j) (h : Go K (Rep K) E β H (.ok (.int (f i j)) S) Q) : rI C (fun i j => .int (f i j)) x y H Q := by
  rw [rep_int rd, rep_int re]
  exact ⟨i, j, rfl, rfl, c, Go.same h (int_rep _) s⟩
theorem add_go (s : SRel K β H S) {d e : D} {x y : V} (rd : Rep K β H d x) (re : Rep K β H e y) (h : Go K (Rep K) E β H (addD d e S) Q) : rBin K .add x y H Q := by
  unfold addD at h
  split at h
  · rename_i i j
    rw [rep_int rd, rep_int re]
    exact .inl ⟨i, j, rfl, rfl, Go.same h (int_rep _) s⟩
  · rename_i i j
    obtain ⟨rfl, z1⟩ := rep_str rd
    obtain ⟨rfl, z2⟩ := rep_str re
    split at h
    · rename_i z
      refine .inr (.inl ⟨i, j, rfl, rfl, z, Go.same h (str_rep ?_) s⟩)
      rw [show (i ++ j).length = i.length + j.length from Array.size_append]; exact z
    · exact h.elim
  · rename_i xs ys
    simp only [Rep] at rd re
    obtain ⟨a, vs, rfl, h1, z1, r1⟩ := rd
    obtain ⟨b, ws, rfl, h2, z2, r2⟩ := re
    split at h
    · rename_i z
      refine .inr (.inr (.inl ⟨a, b, vs, ws, rfl, rfl, h1.sq, h2.sq, by rw [← r1.length, ← r2.length]; exact z, fun e => ?_, fun _ e => ?_, fun _ _ => go_tup s (r1.append r2) (by rw [List.length_append]; exact z) h⟩))
      · subst e
        have e1 : xs = [] := List.length_eq_zero_iff.mp r1.length
        subst e1
        exact Go.same h (by simp only [Rep]; exact ⟨b, ws, rfl, h2, by simpa using z2, by simpa using r2⟩) s
      · subst e
        have e1 : ys = [] := List.length_eq_zero_iff.mp r2.length
        subst e1
        exact Go.same h (by simp only [Rep]; exact ⟨a, vs, rfl, h1, by simpa using z1, by simpa using r1⟩) s
    · exact h.elim
  · exact add_l s rd re h
theorem bin_go (s : SRel K β H S) (o : BOp) {d e : D} {x y : V} (rd : Rep K β H d x) (re : Rep K β H e y) (h : Go K (Rep K) E β H (binD o d e S) Q) : rBin K o x y H Q := by
  cases o with
  | add => exact add_go s rd re h
  | sub =>
    simp only [binD] at h
    unfold subD at h
    split at h
    · rename_i i j
      rw [rep_int rd, rep_int re]
      exact ⟨i, j, rfl, rfl, Go.same h (int_rep _) s⟩
    · exact h.elim
  | mul =>
    simp only [binD] at h
    unfold mulD at h
    split at h
    · rename_i i j
      split at h
      · rename_i z
        rcases mulOk_of z with c | c
        · exact .inl (int2_go s rd re c h)
        · exact .inr (int2_go s rd re c h)
      · exact h.elim
    · exact h.elim
  | fdiv =>
    simp only [binD] at h
    unfold fdivD at h
    split at h
    · rename_i i j
      split at h
      · rename_i z
        exact .inl (int2_go s rd re z h)
      · split at h
        · rename_i z
          exact .inr (int2_go s rd re ⟨by omega, z.2⟩ h)
        · exact h.elim
    · exact h.elim
  | mod =>
    simp only [binD] at h
    unfold modD at h
    split at h
    · rename_i i j
      split at h
      · rename_i z
        exact .inl (int2_go (C := fun _ j => 0 < j) s rd re z h)
      · split at h
        · rename_i z
          exact .inr (int2_go (C := fun _ j => j ≠ 0) s rd re (by omega) h)
        · exact h.elim
    · exact h.elim
  | pow =>
    simp only [binD] at h
    unfold powD at h
    split at h
    · rename_i i j
      split at h
      · rename_i z
        exact int2_go s rd re z h
      · exact h.elim
    · exact h.elim
end
end Pyx
end
section
/-! Comparisons, items, slices, built-ins and methods by values. -/
namespace Pyx
open PySem L2

/-! ### data -/
mutual
def toP : D → PyData
  | .non => .none
  | .bl b => .bool b
  | .int i => .int i
  | .str s => .str s
  | .tup ds => .tuple (toPs ds)
  | .lst ds => .list (toPs ds)
  | .fz ds => .list (toPs ds)
  | .ref _ => .none
def toPs : List D → List PyData
  | [] => []
  | d :: ds => toP d :: toPs ds
end
mutual
theorem eqv_toP : ∀ x y : D, x.pure = true → y.pure = true → PyData.eqv (toP x) (toP y) = x.eq y
  | .non, y, _, hy => by cases y <;> simp_all [toP, PyData.eqv, D.eq, D.pure]
  | .bl _, y, _, hy => by cases y <;> simp_all [toP, PyData.eqv, D.eq, D.pure]
  | .int _, y, _, hy => by cases y <;> simp_all [toP, PyData.eqv, D.eq, D.pure]
  | .str _, y, _, hy => by cases y <;> simp_all [toP, PyData.eqv, D.eq, D.pure]
  | .tup xs, y, hx, hy => by
    cases y with
    | tup ys => simp only [toP, PyData.eqv, D.eq]; simp only [D.pure] at hx hy; exact eqv_toPs xs ys hx hy
    | _ => simp_all [toP, PyData.eqv, D.eq, D.pure]
  | .lst xs, y, hx, hy => by
    cases y with
    | lst ys => simp only [toP, PyData.eqv, D.eq]; simp only [D.pure] at hx hy; exact eqv_toPs xs ys hx hy
    | fz ys => simp only [toP, PyData.eqv, D.eq]; simp only [D.pure] at hx hy; exact eqv_toPs xs ys hx hy
    | _ => simp_all [toP, PyData.eqv, D.eq, D.pure]
  | .fz xs, y, hx, hy => by
    cases y with
    | lst ys => simp only [toP, PyData.eqv, D.eq]; simp only [D.pure] at hx hy; exact eqv_toPs xs ys hx hy
    | fz ys => simp only [toP, PyData.eqv, D.eq]; simp only [D.pure] at hx hy; exact eqv_toPs xs ys hx hy
    | _ => simp_all [toP, PyData.eqv, D.eq, D.pure]
  | .ref _, _, hx, _ => by simp [D.pure] at hx
theorem eqv_toPs : ∀ xs ys : List D, D.pures xs = true → D.pures ys = true → PyData.eqvAll (toPs xs) (toPs ys) = D.eqs xs ys
  | [], [], _, _ => by simp [toPs, PyData.eqvAll, D.eqs]
  | [], _ :: _, _, _ => by simp [toPs, PyData.eqvAll, D.eqs]
  | _ :: _, [], _, _ => by simp [toPs, PyData.eqvAll, D.eqs]
  | x :: xs, y :: ys, hx, hy => by
    simp only [D.pures, Bool.and_eq_true] at hx hy
    simp only [toPs, PyData.eqvAll, D.eqs]
    rw [eqv_toP x y hx.1 hy.1, eqv_toPs xs ys hx.2 hy.2]
end
mutual
theorem depth_toP : ∀ x : D, (toP x).depth = x.depth
  | .non => by simp [toP, PyData.depth, D.depth]
  | .bl _ => by simp [toP, PyData.depth, D.depth]
  | .int _ => by simp [toP, PyData.depth, D.depth]
  | .str _ => by simp [toP, PyData.depth, D.depth]
  | .tup xs => by simp only [toP, PyData.depth, D.depth]; rw [depth_toPs xs]
  | .lst xs => by simp only [toP, PyData.depth, D.depth]; rw [depth_toPs xs]
  | .fz xs => by simp only [toP, PyData.depth, D.depth]; rw [depth_toPs xs]
  | .ref _ => by simp [toP, PyData.depth, D.depth]
theorem depth_toPs : ∀ xs : List D, PyData.depthAll (toPs xs) = D.depths xs
  | [] => by simp [toPs, PyData.depthAll, D.depths]
  | x :: xs => by simp only [toPs, PyData.depthAll, D.depths]; rw [depth_toP x, depth_toPs xs]
end
mutual
theorem lay_toP : ∀ x : D, x.sok = true → (toP x).canLay0 = true
  | .non, _ => by simp [toP, PyData.canLay0]
  | .bl _, _ => by simp [toP, PyData.canLay0]
  | .int _, _ => by simp [toP, PyData.canLay0]
  | .str _, h => by simpa [toP, PyData.canLay0, D.sok] using h
  | .tup xs, h => by simp only [toP, PyData.canLay0]; exact lay_toPs xs (by simpa [D.sok] using h)
  | .lst xs, h => by simp only [toP, PyData.canLay0]; exact lay_toPs xs (by simpa [D.sok] using h)
  | .fz xs, h => by simp only [toP, PyData.canLay0]; exact lay_toPs xs (by simpa [D.sok] using h)
  | .ref _, _ => by simp [toP, PyData.canLay0]
theorem lay_toPs : ∀ xs : List D, D.soks xs = true → PyData.canLayAll0 (toPs xs) = true
  | [], _ => by simp [toPs, PyData.canLayAll0]
  | x :: xs, h => by
    simp only [D.soks, Bool.and_eq_true] at h
    simp only [toPs, PyData.canLayAll0, Bool.and_eq_true]
    exact ⟨lay_toP x h.1, lay_toPs xs h.2⟩
end
section
variable {K : PySem.W.Frag} {E : XW} {β : Bk} {H : Hp} {S : Store} {Q : V → Hp → Prop}
mutual
theorem dp_of : ∀ {d : D} {v : V}, Rep K β H d v → d.pure = true → Dp K H v (toP d)
  | .non, _, h, _ => by rw [rep_non h]; exact .non
  | .bl _, _, h, _ => by rw [rep_bl h]; exact .bl _
  | .int _, _, h, _ => by rw [rep_int h]; exact .int _
  | .str _, _, h, _ => by rw [(rep_str h).1]; exact .str _
  | .tup xs, _, h, p => by
    simp only [Rep] at h
    obtain ⟨a, vs, rfl, t, _, r⟩ := h
    exact .tup t.sq (dp_ofs r (by simpa [D.pure] using p))
  | .lst xs, _, h, p => by
    simp only [Rep] at h
    obtain ⟨a, vs, rfl, ⟨_, _, t⟩, _, r⟩ := h
    exact .lst (SqL.of t) (dp_ofs r (by simpa [D.pure] using p))
  | .fz xs, _, h, p => by
    simp only [Rep] at h
    obtain ⟨a, vs, rfl, t, _, r⟩ := h
    exact .lst t.sq (dp_ofs r (by simpa [D.pure] using p))
  | .ref _, _, _, p => by simp [D.pure] at p
theorem dp_ofs : ∀ {ds : List D} {vs : List V}, Reps K β H ds vs → D.pures ds = true → DpAll K H vs (toPs ds)
  | [], _, h, _ => by rw [h.unnil]; exact .nil
  | d :: ds, _, h, p => by
    obtain ⟨v, vr, rfl, r, t⟩ := h.uncons
    simp only [D.pures, Bool.and_eq_true] at p
    exact .cons (dp_of r p.1) (dp_ofs t p.2)
end
theorem flatL_rep (s : SRel K β H S) {d x : D} {v : V} (r : Rep K β H d v) (e : flatL S d = some x) : Dp K H v (toP x) ∧ x.pure = true := by
  unfold flatL at e
  split at e
  · rename_i l
    split at e
    · rename_i ds q
      split at e
      · rename_i p
        cases e
        simp only [Rep] at r
        obtain ⟨a, g, rfl⟩ := r
        obtain ⟨a', g', vs, h, z, r⟩ := s.cell l _ q
        rw [g] at g'; cases g'
        exact ⟨.lst (SqL.of h) (dp_ofs r p), by simpa [D.pure] using p⟩
      · cases e
    · cases e
  · split at e
    · rename_i p
      cases e
      exact ⟨dp_of r p, p⟩
    · cases e

/-! ### comparisons -/
def copOf : COp → CmpOp
  | .eq => .Eq
  | .ne => .NotEq
  | .lt => .Lt
  | .le => .LtE
  | .gt => .Gt
  | .ge => .GtE
  | .is => .Is
  | .isnot => .IsNot
  | .isin => .In
  | .notin => .NotIn
def rIs (n : Bool) : R2 := fun x y H Q => (y = .non ∧ Q (.bl (if n then !decide (x = .non) else decide (x = .non))) H) ∨ ∃ a b : Bool, x = .bl a ∧ y = .bl b ∧ Q (.bl (if n then !decide (a = b) else decide (a = b))) H
def rInn (K : PySem.W.Frag) (n : Bool) : R2 := fun x y H Q =>
  (∃ (c : Nat) (z : Str), x = .str ⟨#[c]⟩ ∧ y = .str z ∧ Q (.bl (if n then !decide (c ∈ z.cps.toList) else decide (c ∈ z.cps.toList))) H) ∨
  (∃ i j, x = .str i ∧ y = .str j ∧ Q (.bl (if n then !(!(Builtin.Str.occurrences j i 0 j.length 1).isEmpty) else !(Builtin.Str.occurrences j i 0 j.length 1).isEmpty)) H) ∨ rIn K n x y H Q
def rCmp (K : PySem.W.Frag) : COp → R2
  | .eq => fun x y H Q => rEq x y H Q ∨ rEqD K x y H Q
  | .ne => fun x y H Q => rNe x y H Q ∨ rNeD K x y H Q
  | .lt => rI0 fun i j => .bl (decide (i < j))
  | .le => rI0 fun i j => .bl (decide (i ≤ j))
  | .gt => rI0 fun i j => .bl (decide (j < i))
  | .ge => rI0 fun i j => .bl (decide (j ≤ i))
  | .is => rIs false
  | .isnot => rIs true
  | .isin => rInn K false
  | .notin => rInn K true
theorem cmp_ok {X : Cx} (hu : X.A.units + 64 < cLine) : ∀ o : COp, OpR X (compareOp (copOf o)) (rCmp X.K o)
  | .eq => op_eq.or (op_eqD hu)
  | .ne => op_ne.or (op_neD hu)
  | .lt => op_lt
  | .le => op_le
  | .gt => op_gt
  | .ge => op_ge
  | .is => op_isN.or op_isBl
  | .isnot => op_notN.or op_notBl
  | .isin => op_in_sign.or (op_in_str.or op_in_seq)
  | .notin => op_notIn_sign.or (op_notIn_str.or op_notIn_seq)
theorem go_bl {b : Bool} (s : SRel K β H S) (h : Go K (Rep K) E β H (.ok (.bl b) S) Q) : Q (.bl b) H := Go.same h (bl_rep _) s
/-- a truth value or none -/
theorem blR_go {o : Option Bool} (s : SRel K β H S) (h : Go K (Rep K) E β H (blR S o) Q) : ∃ b, o = some b ∧ Q (.bl b) H := by
  cases o with
  | none => exact h.elim
  | some b => exact ⟨b, rfl, go_bl s h⟩
theorem eqD_rep (s : SRel K β H S) {d e : D} {x y : V} {b : Bool} (rd : Rep K β H d x) (re : Rep K β H e y) (h : eqD S d e = some b) :
    (scal x y = true ∧ decide (x = y) = b) ∨ ∃ p q, Dp K H x p ∧ Dp K H y q ∧ SeqAt.shaped p = true ∧ SeqAt.shaped q = true ∧ PyData.eqv p q = b := by
  unfold eqD at h
  split at h
  · rename_i i j
    rw [(rep_str rd).1, (rep_str re).1]
    cases h
    exact .inl ⟨rfl, dec_str⟩
  · split at h
    · rename_i u w e1 e2
      split at h
      · rename_i c
        cases h
        obtain ⟨p1, q1⟩ := flatL_rep s rd e1
        obtain ⟨p2, q2⟩ := flatL_rep s re e2
        refine .inr ⟨_, _, p1, p2, ?_, ?_, eqv_toP u w q1 q2⟩
        · unfold SeqAt.shaped
          rw [lay_toP u c.2.2.1, depth_toP, decide_eq_true c.1]; rfl
        · unfold SeqAt.shaped
          rw [lay_toP w c.2.2.2, depth_toP, decide_eq_true c.2.1]; rfl
      · cases h
    · cases h
theorem ordD_some {p : Int → Int → Bool} {d e : D} {b : Bool} (h : ordD p d e = some b) : ∃ i j, d = .int i ∧ e = .int j ∧ b = p i j := by
  unfold ordD at h
  split at h
  · cases h; exact ⟨_, _, rfl, rfl, rfl⟩
  · cases h
theorem ord_go {f : Int → Int → Bool} (s : SRel K β H S) {d e : D} {x y : V} {b : Bool} (rd : Rep K β H d x) (re : Rep K β H e y) (h : ordD f d e = some b) (q : Q (.bl b) H) : rI0 (fun i j => .bl (f i j)) x y H Q := by
  obtain ⟨i, j, rfl, rfl, rfl⟩ := ordD_some h
  exact ⟨i, j, rep_int rd, rep_int re, q⟩
theorem is_rep {d e : D} {x y : V} {b : Bool} (rd : Rep K β H d x) (re : Rep K β H e y) (h : isD d e = some b) : (y = .non ∧ decide (x = .non) = b) ∨ ∃ p q : Bool, x = .bl p ∧ y = .bl q ∧ decide (p = q) = b := by
  unfold isD at h
  split at h
  all_goals first | cases h | skip
  · exact .inl ⟨rep_non re, by rw [rep_non rd]; rfl⟩
  · exact .inl ⟨rep_non re, by rw [rep_bl rd]; rfl⟩
  · exact .inl ⟨rep_non re, by rw [rep_int rd]; rfl⟩
  · exact .inl ⟨rep_non re, by rw [(rep_str rd).1]; rfl⟩
  · refine .inl ⟨rep_non re, ?_⟩
    simp only [Rep] at rd
    obtain ⟨a, vs, rfl, _⟩ := rd
    rfl
  · refine .inl ⟨rep_non re, ?_⟩
    simp only [Rep] at rd
    obtain ⟨a, vs, rfl, _⟩ := rd
    rfl
  · refine .inl ⟨rep_non re, ?_⟩
    simp only [Rep] at rd
    obtain ⟨a, vs, rfl, _⟩ := rd
    rfl
  · refine .inl ⟨rep_non re, ?_⟩
    simp only [Rep] at rd
    obtain ⟨a, _, rfl⟩ := rd
    rfl
  · rename_i p q
    exact .inr ⟨p, q, rep_bl rd, rep_bl re, by cases p <;> cases q <;> rfl⟩
theorem flat_rep {d : D} {v : V} (r : Rep K β H d v) (f : d.flat = true) : flatV v = true := by
  cases d with
  | non => rw [rep_non r]; rfl
  | bl _ => rw [rep_bl r]; rfl
  | int _ => rw [rep_int r]; rfl
  | str _ => rw [(rep_str r).1]; rfl
  | _ => simp [D.flat] at f
theorem eqV_rep {d e : D} {v w : V} (r : Rep K β H d v) (f : d.flat = true) (t : Rep K β H e w) (g : e.flat = true) : eqV v w = d.eq e := by
  cases d with
  | non => rw [rep_non r]; cases e with
    | non => rw [rep_non t]; rfl
    | bl _ => rw [rep_bl t]; rfl
    | int _ => rw [rep_int t]; rfl
    | str _ => rw [(rep_str t).1]; rfl
    | _ => simp [D.flat] at g
  | bl _ => rw [rep_bl r]; cases e with
    | non => rw [rep_non t]; rfl
    | bl _ => rw [rep_bl t]; simp [eqV, D.eq]
    | int _ => rw [rep_int t]; simp [eqV, D.eq]
    | str _ => rw [(rep_str t).1]; rfl
    | _ => simp [D.flat] at g
  | int _ => rw [rep_int r]; cases e with
    | non => rw [rep_non t]; rfl
    | bl _ => rw [rep_bl t]; simp [eqV, D.eq]
    | int _ => rw [rep_int t]; simp [eqV, D.eq]
    | str _ => rw [(rep_str t).1]; rfl
    | _ => simp [D.flat] at g
  | str _ => rw [(rep_str r).1]; cases e with
    | non => rw [rep_non t]; rfl
    | bl _ => rw [rep_bl t]; rfl
    | int _ => rw [rep_int t]; rfl
    | str _ => rw [(rep_str t).1]; simp [eqV, D.eq]
    | _ => simp [D.flat] at g
  | _ => simp [D.flat] at f
theorem flats_rep : ∀ {ds : List D} {vs : List V}, Reps K β H ds vs → ds.all D.flat = true → vs.all flatV = true
  | [], _, h, _ => by rw [h.unnil]; rfl
  | d :: ds, _, h, p => by
    obtain ⟨v, vr, rfl, r, t⟩ := h.uncons
    simp only [List.all_cons, Bool.and_eq_true] at p ⊢
    exact ⟨flat_rep r p.1, flats_rep t p.2⟩
theorem any_rep {e : D} {w : V} (t : Rep K β H e w) (g : e.flat = true) : ∀ {ds : List D} {vs : List V}, Reps K β H ds vs → ds.all D.flat = true → (vs.any fun v => eqV v w) = ds.any fun d => d.eq e
  | [], _, h, _ => by rw [h.unnil]; rfl
  | d :: ds, _, h, p => by
    obtain ⟨v, vr, rfl, r, q⟩ := h.uncons
    simp only [List.all_cons, Bool.and_eq_true] at p
    rw [List.any_cons, List.any_cons, eqV_rep r p.1 t g, any_rep t g q p.2]
theorem in_go (n : Bool) (s : SRel K β H S) {d e : D} {x y : V} {b : Bool} (rd : Rep K β H d x) (re : Rep K β H e y) (h : inD S d e = some b) (q : Q (.bl (if n then !b else b)) H) : rInn K n x y H Q := by
  unfold inD at h
  split at h
  · rename_i i j
    rw [(rep_str rd).1, (rep_str re).1]
    split at h
    · rename_i c e1
      cases h
      have e2 : i = ⟨#[c]⟩ := by
        cases i with | mk a => cases a; simp only at e1; rw [e1]
      exact .inl ⟨c, j, by rw [e2], rfl, q⟩
    · cases h
      exact .inr (.inl ⟨i, j, rfl, rfl, by cases n <;> simpa using q⟩)
  · split at h
    · rename_i ds e1
      split at h
      · rename_i c
        cases h
        rw [Bool.and_eq_true] at c
        obtain ⟨a, vs, rfl, hs, _, r⟩ := asQ_rep s re e1
        refine .inr (.inr ⟨a, vs, rfl, hs, flat_rep rd c.1, flats_rep r c.2, ?_⟩)
        have q2 : inV x vs = _ := any_rep rd c.1 r c.2
        rw [q2]
        cases n <;> exact q
      · cases h
    · cases h
theorem cmp_go (s : SRel K β H S) (o : COp) {d e : D} {x y : V} (rd : Rep K β H d x) (re : Rep K β H e y) (h : Go K (Rep K) E β H (cmpD o d e S) Q) : rCmp K o x y H Q := by
  obtain ⟨b, e1, q⟩ := blR_go s h
  cases o with
  | eq =>
    rcases eqD_rep s rd re e1 with ⟨h1, h2⟩ | ⟨p, w, h1, h2, h3, h4, h5⟩
    · exact .inl ⟨h1, by rw [h2]; exact q⟩
    · exact .inr ⟨p, w, h1, h2, h3, h4, by rw [h5]; exact q⟩
  | ne =>
    obtain ⟨c, e2, rfl⟩ := Option.map_eq_some_iff.mp e1
    rcases eqD_rep s rd re e2 with ⟨h1, h2⟩ | ⟨p, w, h1, h2, h3, h4, h5⟩
    · exact .inl ⟨h1, by rw [h2]; exact q⟩
    · exact .inr ⟨p, w, h1, h2, h3, h4, by rw [h5]; exact q⟩
  | lt => exact ord_go s rd re e1 q
  | le => exact ord_go s rd re e1 q
  | gt => exact ord_go s rd re e1 q
  | ge => exact ord_go s rd re e1 q
  | is =>
    rcases is_rep rd re e1 with ⟨h1, h2⟩ | ⟨p, w, h1, h2, h3⟩
    · exact .inl ⟨h1, by rw [h2]; exact q⟩
    · exact .inr ⟨p, w, h1, h2, by rw [h3]; exact q⟩
  | isnot =>
    obtain ⟨c, e2, rfl⟩ := Option.map_eq_some_iff.mp e1
    rcases is_rep rd re e2 with ⟨h1, h2⟩ | ⟨p, w, h1, h2, h3⟩
    · exact .inl ⟨h1, by rw [h2]; exact q⟩
    · exact .inr ⟨p, w, h1, h2, by rw [h3]; exact q⟩
  | isin => exact in_go false s rd re e1 q
  | notin =>
    obtain ⟨c, e2, rfl⟩ := Option.map_eq_some_iff.mp e1
    exact in_go true s rd re e2 q

/-! ### truth -/
theorem truth_rep (s : SRel K β H S) {d : D} {v : V} {b : Bool} (r : Rep K β H d v) (h : truth S d = some b) : TruV K v H b := by
  cases d with
  | non => rw [rep_non r]; cases h; rfl
  | bl _ => rw [rep_bl r]; cases h; rfl
  | int _ => rw [rep_int r]; cases h; rfl
  | str _ => obtain ⟨rfl, z⟩ := rep_str r; cases h; exact ⟨z, rfl⟩
  | tup ds =>
    simp only [Rep] at r
    obtain ⟨a, vs, rfl, t, z, r⟩ := r
    cases h
    refine .inr (.inl ⟨vs, t.sq, ?_⟩)
    have := r.length
    cases ds <;> cases vs <;> simp_all
  | lst ds =>
    simp only [Rep] at r
    obtain ⟨a, vs, rfl, ⟨_, _, t⟩, z, r⟩ := r
    cases h
    refine .inl ⟨vs, SqL.of t, ?_⟩
    have := r.length
    cases ds <;> cases vs <;> simp_all
  | fz ds =>
    simp only [Rep] at r
    obtain ⟨a, vs, rfl, t, z, r⟩ := r
    cases h
    refine .inl ⟨vs, t.sq, ?_⟩
    have := r.length
    cases ds <;> cases vs <;> simp_all
  | ref l =>
    simp only [truth] at h
    split at h
    · rename_i ds q
      cases h
      obtain ⟨a, vs, rfl, t, z, r⟩ := asL_rep (ds := ds) s r (by simp [asL, q])
      refine .inl ⟨vs, SqL.of t, ?_⟩
      have := r.length
      cases ds <;> cases vs <;> simp_all
    · cases h

/-! ### items -/
theorem atI_rep {ds : List D} {vs : List V} (r : Reps K β H ds vs) {i : Int} {d : D} (h : atI ds i = some d) : ∃ v, atI vs i = some v ∧ Rep K β H d v := by
  unfold atI at h ⊢
  rw [← r.length]
  cases e : ixN ds.length i with
  | none => rw [e] at h; cases h
  | some j => rw [e] at h; exact r.get h
theorem ix_go (s : SRel K β H S) {d e : D} {x y : V} (rd : Rep K β H d x) (re : Rep K β H e y) (h : Go K (Rep K) E β H (ixD d e S) Q) : rIx K x y H Q := by
  unfold ixD at h
  split at h
  · rename_i i
    rw [rep_int re]
    split at h
    · rename_i z
      obtain ⟨rfl, hz⟩ := rep_str rd
      split at h
      · rename_i c hc
        exact .inr (.inr ⟨z, i, c, rfl, rfl, hz, hc, Go.same h (str_rep (by show 1 ≤ sizeLine; decide)) s⟩)
      · exact h.elim
    · split at h
      · rename_i ds e1
        obtain ⟨w, e2, h⟩ := Go.give h
        obtain ⟨a, vs, rfl, hs, _, r⟩ := asQ_rep s rd e1
        obtain ⟨v, e3, rv⟩ := atI_rep r e2
        have q := Go.same h rv s
        rcases hs with hs | hs
        · exact .inl ⟨a, vs, i, v, rfl, rfl, hs, e3, q⟩
        · exact .inr (.inl ⟨a, vs, i, v, rfl, rfl, hs, e3, q⟩)
      · exact h.elim
  · exact h.elim
end
end Pyx
end
section
namespace Pyx
open PySem L2
theorem CallR.or {X : Cx} {f : Value} {r r' : List V → Hp → VK → Prop} (h : CallR X f r) (h' : CallR X f r') : CallR X f (fun xs H Q => r xs H Q ∨ r' xs H Q) := by
  intro pins s σ H xs us Q I rx q
  rcases q with q | q
  · exact h pins s σ H xs us Q I rx q
  · exact h' pins s σ H xs us Q I rx q
theorem tl_neg (n : Nat) : TL.tl (Str.ofString (toString (Int.negSucc n))) = 45 :: TL.numL (n + 1) := by
  have h := TL.tl_num (n + 1)
  rw [TL.tl_ofString] at h ⊢
  show ("-" ++ toString (n + 1)).toList.map Char.toNat = _
  rw [String.toList_append, List.map_append, ← h]
  rfl
/-- the text of a number is short where the number has not too many bits -/
theorem str_len {i : Int} (h : i.natAbs.log2 < 1920) : (Str.ofString (toString i)).length ≤ 1921 := by
  have b : ∀ n : Nat, n.log2 < 1920 → (TL.numL n).length ≤ 1920 := fun n hn => by
    refine TL.numL_len (by decide) (Nat.lt_of_lt_of_le (Nat.lt_log2_self) (Nat.le_trans (Nat.pow_le_pow_right (by decide) hn) ?_))
    exact Nat.pow_le_pow_left (by decide) 1920
  rw [TL.len_tl]
  cases i with
  | ofNat n =>
    have := b n h
    rw [show Int.ofNat n = ((n : Nat) : Int) from rfl, TL.tl_num]; omega
  | negSucc n =>
    have := b (n + 1) h
    rw [tl_neg]; simp only [List.length_cons]; omega
section
variable {K : PySem.W.Frag} {E : XW} {β : Bk} {H : Hp} {S : Store} {Q : V → Hp → Prop}
/-! ### slices -/
def rSl (K : PySem.W.Frag) : V → Option Int → Option Int → Hp → VK → Prop := fun x l h H Q => rSlS x l h H Q ∨ rSlA K x l h H Q ∨ rSlL K x l h H Q
theorem sl_ok {X : Cx} : SlR X (rSl X.K) := sl_str.or (sl_tupA.or sl_list)
theorem cut_rep {ds : List D} {vs : List V} (r : Reps K β H ds vs) (l h : Option Int) : Reps K β H (cut ds l h) (cutV vs l h) := by
  unfold cut cutV
  rw [r.length]
  exact (r.drop _).take _
theorem cut_length {α : Type} (xs : List α) (l h : Option Int) : (cut xs l h).length ≤ xs.length := by
  unfold cut
  rw [List.length_take, List.length_drop]
  omega
theorem cut_whole {α : Type} {xs : List α} {l h : Option Int} (c : HT.sIx xs.length 0 l = 0 ∧ HT.sIx xs.length xs.length h = xs.length) : cut xs l h = xs := by
  unfold cut
  rw [c.1, c.2]; simp
theorem sl_go {m : Bool} (s : SRel K β H S) {d : D} {x : V} {l h : Option Int} (rd : Rep K β H d x) (g : Go K (Rep K) E β H (slD m d l h S) Q) : rSl K x l h H Q := by
  have gen : (∀ es, d ≠ .tup es) → Go K (Rep K) E β H (match asQ S d with
    | some ds => mkL m (cut ds l h) S
    | none => .stuck) Q → rSl K x l h H Q := fun nt g => by
    split at g
    · rename_i ds e1
      obtain ⟨a, vs, rfl, hs, z, r⟩ := asQ_list s rd nt e1
      exact .inr (.inr ⟨a, vs, rfl, hs, (go_lst s (cut_rep r l h) g).2⟩)
    · exact g.elim
  cases d with
  | str z =>
    obtain ⟨rfl, hz⟩ := rep_str rd
    exact .inl ⟨z, rfl, hz, Go.same g (str_rep (Nat.le_trans (cutS_length z l h) hz)) s⟩
  | tup ds =>
    simp only [Rep] at rd
    obtain ⟨a, vs, rfl, t, z, r⟩ := rd
    simp only [slD] at g
    refine .inr (.inl ⟨a, vs, rfl, t.sq, fun c => ?_, fun c => go_tup s (cut_rep r l h) (Nat.le_trans (cut_length ds l h) z) g⟩)
    rw [← r.length] at c
    rw [cut_whole c] at g
    exact Go.same g (by simp only [Rep]; exact ⟨a, vs, rfl, t, z, r⟩) s
  | lst ds => exact gen (by intro es e; cases e) g
  | fz ds => exact gen (by intro es e; cases e) g
  | ref ds => exact gen (by intro es e; cases e) g
  | _ => exact gen (by intro es e; cases e) g

/-! ### built-in functions -/
def biF : Bi → Value
  | .len => .builtin "len"
  | .abs => .builtin "abs"
  | .max => .builtin "max"
  | .min => .builtin "min"
  | .sum => .builtin "sum"
  | .all => .builtin "all"
  | .any => .builtin "any"
  | .int => .type "int"
  | .str => .type "str"
  | .tuple => .type "tuple"
  | .list => .type "list"
  | .divmod => .builtin "divmod"
  | .gcd => .builtin "math.gcd"
  | .sorted => .builtin "sorted"
def rBi (K : PySem.W.Frag) : Bi → List V → Hp → VK → Prop
  | .len => fun xs H Q => (∃ p ys, xs = [.ref p] ∧ (SqL K H p ys ∨ SqT K H p ys) ∧ Q (.int ys.length) H) ∨ (∃ z, xs = [.str z] ∧ z.length ≤ sizeLine ∧ Q (.int z.length) H)
  | .abs => fun xs H Q => ∃ i, xs = [.int i] ∧ Q (.int (if i < 0 then -i else i)) H
  | .max => fun xs H Q => (∃ i j, xs = [.int i, .int j] ∧ Q (.int (if j > i then j else i)) H) ∨ rMax K xs H Q
  | .min => fun xs H Q => (∃ i j, xs = [.int i, .int j] ∧ Q (.int (if j < i then j else i)) H) ∨ rMin K xs H Q
  | .sum => rSum K
  | .all => rAll K
  | .any => rAny K
  | .int => fun xs H Q => ((∃ i, xs = [.int i] ∧ Q (.int i) H) ∨ ∃ k, xs = [.bl k] ∧ Q (.int (if k then 1 else 0)) H) ∨ (∃ a n, xs = [.str a] ∧ PySem.intText? a = some n ∧ a.length ≤ 640 ∧ Q (.int n) H)
  | .str => fun xs H Q => ∃ i, xs = [.int i] ∧ i.natAbs.log2 < 1920 ∧ Q (.str (toString i)) H
  | .tuple => fun xs H Q => ∃ p ys, xs = [.ref p] ∧ ((SqL K H p ys ∧ ∀ l, H l = none → Q (.ref l) (upd H l (.tup ys))) ∨ (SqT K H p ys ∧ Q (.ref p) H))
  | .list => fun xs H Q => ∃ p ys, xs = [.ref p] ∧ (SqL K H p ys ∨ SqT K H p ys) ∧ ∀ l, H l = none → Q (.ref l) (upd H l (.lst ys))
  | .divmod => fun xs H Q => ∃ i j, xs = [.int i, .int j] ∧ CDiv i j ∧ ∀ p, H p = none → Q (.ref p) (upd H p (.tup [.int (i / j), .int (i % j)]))
  | .gcd => rGcd
  | .sorted => fun _ _ _ => False
theorem bi_ok {X : Cx} (hc : X.calm = true) : ∀ b : Bi, CallR X (biF b) (rBi X.K b)
  | .len => CallR.or call_len_seq call_len_str
  | .abs => call_abs
  | .max => CallR.or (call_max2 hc) (cr_max hc)
  | .min => CallR.or (call_min2 hc) (cr_min hc)
  | .sum => cr_sum hc
  | .all => cr_all hc
  | .any => cr_any hc
  | .int => CallR.or call_int1 call_int_str
  | .str => call_str_int
  | .tuple => call_tuple_of
  | .list => call_list_of
  | .divmod => call_divmod
  | .gcd => cr_gcd
  | .sorted => fun _ _ _ _ _ _ _ _ _ h => h.elim
theorem reps1 {d : D} {vs : List V} (r : Reps K β H [d] vs) : ∃ v, vs = [v] ∧ Rep K β H d v := by
  obtain ⟨v, vr, rfl, r1, t⟩ := r.uncons
  rw [t.unnil]
  exact ⟨v, rfl, r1⟩
theorem reps2 {d e : D} {vs : List V} (r : Reps K β H [d, e] vs) : ∃ v w, vs = [v, w] ∧ Rep K β H d v ∧ Rep K β H e w := by
  obtain ⟨v, vr, rfl, r1, t⟩ := r.uncons
  obtain ⟨w, rfl, r2⟩ := reps1 t
  exact ⟨v, w, rfl, r1, r2⟩
theorem ints_rep : ∀ {ds : List D} {vs : List V} {is : List Int}, Reps K β H ds vs → intsOf ds = some is → vs = is.map V.int
  | [], _, _, r, e => by rw [r.unnil]; cases e; rfl
  | d :: ds, _, is, r, e => by
    obtain ⟨v, vr, rfl, r1, t⟩ := r.uncons
    cases d with
    | int i =>
      simp only [intsOf] at e
      obtain ⟨js, e1, rfl⟩ := Option.map_eq_some_iff.mp e
      rw [ints_rep t e1, rep_int r1]; rfl
    | _ => simp [intsOf] at e
theorem bools_rep : ∀ {ds : List D} {vs : List V} {is : List Bool}, Reps K β H ds vs → boolsOf ds = some is → vs = is.map V.bl
  | [], _, _, r, e => by rw [r.unnil]; cases e; rfl
  | d :: ds, _, is, r, e => by
    obtain ⟨v, vr, rfl, r1, t⟩ := r.uncons
    cases d with
    | bl i =>
      simp only [boolsOf] at e
      obtain ⟨js, e1, rfl⟩ := Option.map_eq_some_iff.mp e
      rw [bools_rep t e1, rep_bl r1]; rfl
    | _ => simp [boolsOf] at e
theorem strs_rep : ∀ {ds : List D} {vs : List V} {is : List Str}, Reps K β H ds vs → strsOf ds = some is → vs = is.map V.str
  | [], _, _, r, e => by rw [r.unnil]; cases e; rfl
  | d :: ds, _, is, r, e => by
    obtain ⟨v, vr, rfl, r1, t⟩ := r.uncons
    cases d with
    | str i =>
      simp only [strsOf] at e
      obtain ⟨js, e1, rfl⟩ := Option.map_eq_some_iff.mp e
      rw [strs_rep t e1, (rep_str r1).1]; rfl
    | _ => simp [strsOf] at e
theorem reps_strs : ∀ {ys : List Str}, (ys.all fun z => decide (z.length ≤ sizeLine)) = true → Reps K β H (ys.map D.str) (ys.map V.str)
  | [], _ => Reps.nil
  | y :: ys, h => by
    simp only [List.all_cons, Bool.and_eq_true, decide_eq_true_eq] at h
    exact Reps.cons (str_rep h.1) (reps_strs h.2)
theorem intR_go {o : Option Int} (s : SRel K β H S) (h : Go K (Rep K) E β H (intR S o) Q) : ∃ i, o = some i ∧ Q (.int i) H := by
  cases o with
  | none => exact h.elim
  | some b => exact ⟨b, rfl, Go.same h (int_rep _) s⟩
theorem intsD_rep (s : SRel K β H S) {d : D} {v : V} {is : List Int} (r : Rep K β H d v) (h : intsD S d = some is) : ∃ a, v = .ref a ∧ SqL K H a (is.map V.int) := by
  obtain ⟨ds, e1, e2⟩ := Option.bind_eq_some_iff.mp h
  obtain ⟨a, vs, rfl, q, _, t⟩ := asL_rep s r e1
  rw [ints_rep t e2] at q
  exact ⟨a, rfl, SqL.of q⟩
theorem boolsD_rep (s : SRel K β H S) {d : D} {v : V} {is : List Bool} (r : Rep K β H d v) (h : boolsD S d = some is) : ∃ a, v = .ref a ∧ SqL K H a (is.map V.bl) := by
  obtain ⟨ds, e1, e2⟩ := Option.bind_eq_some_iff.mp h
  obtain ⟨a, vs, rfl, q, _, t⟩ := asL_rep s r e1
  rw [bools_rep t e2] at q
  exact ⟨a, rfl, SqL.of q⟩
theorem maxI_max : ∀ {is : List Int} {m : Int}, maxI is = some m → m ∈ is ∧ ∀ y ∈ is, y ≤ m
  | [], _, h => by cases h
  | i :: is, m, h => by
    unfold maxI at h
    split at h
    · rename_i e
      cases h
      cases is with
      | nil => simp
      | cons j js => unfold maxI at e; split at e <;> cases e
    · rename_i j e
      cases h
      obtain ⟨h1, h2⟩ := maxI_max e
      split
      · rename_i c
        refine ⟨List.mem_cons_of_mem _ h1, fun y hy => ?_⟩
        rcases List.mem_cons.mp hy with rfl | hy
        · omega
        · exact h2 y hy
      · rename_i c
        refine ⟨List.mem_cons_self .., fun y hy => ?_⟩
        rcases List.mem_cons.mp hy with rfl | hy
        · omega
        · have := h2 y hy; omega
theorem minI_min : ∀ {is : List Int} {m : Int}, minI is = some m → m ∈ is ∧ ∀ y ∈ is, m ≤ y
  | [], _, h => by cases h
  | i :: is, m, h => by
    unfold minI at h
    split at h
    · rename_i e
      cases h
      cases is with
      | nil => simp
      | cons j js => unfold minI at e; split at e <;> cases e
    · rename_i j e
      cases h
      obtain ⟨h1, h2⟩ := minI_min e
      split
      · rename_i c
        refine ⟨List.mem_cons_of_mem _ h1, fun y hy => ?_⟩
        rcases List.mem_cons.mp hy with rfl | hy
        · omega
        · exact h2 y hy
      · rename_i c
        refine ⟨List.mem_cons_self .., fun y hy => ?_⟩
        rcases List.mem_cons.mp hy with rfl | hy
        · omega
        · have := h2 y hy; omega
theorem same_max {is : List Int} {m n : Int} (h1 : m ∈ is) (h2 : ∀ y ∈ is, y ≤ m) (h3 : n ∈ is) (h4 : ∀ y ∈ is, y ≤ n) : m = n := by
  have := h2 n h3; have := h4 m h1; omega
theorem same_min {is : List Int} {m n : Int} (h1 : m ∈ is) (h2 : ∀ y ∈ is, m ≤ y) (h3 : n ∈ is) (h4 : ∀ y ∈ is, n ≤ y) : m = n := by
  have := h2 n h3; have := h4 m h1; omega
theorem len_go (s : SRel K β H S) {d : D} {v : V} (r : Rep K β H d v) (h : Go K (Rep K) E β H (lenD S d) Q) : rBi K .len [v] H Q := by
  have gen : Go K (Rep K) E β H (match asQ S d with
    | some ds => .ok (.int ds.length) S
    | none => .stuck) Q → rBi K .len [v] H Q := fun g => by
    split at g
    · rename_i ds e1
      obtain ⟨a, vs, rfl, hs, z, r⟩ := asQ_rep s r e1
      exact .inl ⟨a, vs, rfl, hs, by rw [← r.length]; exact Go.same g (int_rep _) s⟩
    · exact g.elim
  cases d with
  | str z =>
    obtain ⟨rfl, hz⟩ := rep_str r
    exact .inr ⟨z, rfl, hz, Go.same h (int_rep _) s⟩
  | _ => exact gen h
theorem bi_go (s : SRel K β H S) (b : Bi) (m : Bool) {ds : List D} {vs : List V} (r : Reps K β H ds vs) (h : Go K (Rep K) E β H (biD b m ds S) Q) : rBi K b vs H Q := by
  have one : ∀ {f : D → R D}, Go K (Rep K) E β H (match (generalizing := false) ds with
      | [d] => f d
      | _ => .stuck) Q → ∃ d v, ds = [d] ∧ vs = [v] ∧ Rep K β H d v ∧ Go K (Rep K) E β H (f d) Q := fun {f} g => by
    split at g
    · rename_i d
      obtain ⟨v, rfl, r1⟩ := reps1 r
      exact ⟨d, v, rfl, rfl, r1, g⟩
    · exact g.elim
  have two : ∀ {f : D → D → R D}, Go K (Rep K) E β H (match (generalizing := false) ds with
      | [d, e] => f d e
      | _ => .stuck) Q → ∃ d e v w, ds = [d, e] ∧ vs = [v, w] ∧ Rep K β H d v ∧ Rep K β H e w ∧ Go K (Rep K) E β H (f d e) Q := fun {f} g => by
    split at g
    · rename_i d e
      obtain ⟨v, w, rfl, r1, r2⟩ := reps2 r
      exact ⟨d, e, v, w, rfl, rfl, r1, r2, g⟩
    · exact g.elim
  cases b with
  | len =>
    obtain ⟨d, v, rfl, rfl, r1, g⟩ := one (f := lenD S) h
    exact len_go s r1 g
  | abs =>
    obtain ⟨d, v, rfl, rfl, r1, g⟩ := one (f := fun d => intR S (absD d)) h
    obtain ⟨i, e, q⟩ := intR_go s g
    cases d with
    | int j => cases e; exact ⟨j, by rw [rep_int r1], q⟩
    | _ => simp [absD] at e
  | max =>
    obtain ⟨i, e, q⟩ := intR_go s h
    unfold maxD at e
    split at e
    · cases e
      obtain ⟨v, w, rfl, r1, r2⟩ := reps2 r
      exact .inl ⟨_, _, by rw [rep_int r1, rep_int r2], q⟩
    · obtain ⟨is, e1, e2⟩ := Option.bind_eq_some_iff.mp e
      obtain ⟨v, rfl, r1⟩ := reps1 r
      obtain ⟨a, rfl, hs⟩ := intsD_rep s r1 e1
      obtain ⟨h1, h2⟩ := maxI_max e2
      exact .inr ⟨a, is, rfl, hs, List.length_pos_of_mem h1, fun m h3 h4 => by rw [same_max h3 h4 h1 h2]; exact q⟩
    · cases e
  | min =>
    obtain ⟨i, e, q⟩ := intR_go s h
    unfold minD at e
    split at e
    · cases e
      obtain ⟨v, w, rfl, r1, r2⟩ := reps2 r
      exact .inl ⟨_, _, by rw [rep_int r1, rep_int r2], q⟩
    · obtain ⟨is, e1, e2⟩ := Option.bind_eq_some_iff.mp e
      obtain ⟨v, rfl, r1⟩ := reps1 r
      obtain ⟨a, rfl, hs⟩ := intsD_rep s r1 e1
      obtain ⟨h1, h2⟩ := minI_min e2
      exact .inr ⟨a, is, rfl, hs, List.length_pos_of_mem h1, fun m h3 h4 => by rw [same_min h3 h4 h1 h2]; exact q⟩
    · cases e
  | sum =>
    obtain ⟨d, v, rfl, rfl, r1, g⟩ := one (f := fun d => intR S ((intsD S d).map List.sum)) h
    obtain ⟨i, e, q⟩ := intR_go s g
    obtain ⟨is, e1, rfl⟩ := Option.map_eq_some_iff.mp e
    obtain ⟨a, rfl, hs⟩ := intsD_rep s r1 e1
    exact ⟨a, is, rfl, hs, q⟩
  | all =>
    obtain ⟨d, v, rfl, rfl, r1, g⟩ := one (f := fun d => blR S ((boolsD S d).map fun (bs : List Bool) => bs.all id)) h
    obtain ⟨i, e, q⟩ := blR_go s g
    obtain ⟨is, e1, rfl⟩ := Option.map_eq_some_iff.mp e
    obtain ⟨a, rfl, hs⟩ := boolsD_rep s r1 e1
    exact ⟨a, is, rfl, hs, q⟩
  | any =>
    obtain ⟨d, v, rfl, rfl, r1, g⟩ := one (f := fun d => blR S ((boolsD S d).map fun (bs : List Bool) => bs.any id)) h
    obtain ⟨i, e, q⟩ := blR_go s g
    obtain ⟨is, e1, rfl⟩ := Option.map_eq_some_iff.mp e
    obtain ⟨a, rfl, hs⟩ := boolsD_rep s r1 e1
    exact ⟨a, is, rfl, hs, q⟩
  | int =>
    obtain ⟨d, v, rfl, rfl, r1, g⟩ := one (f := fun d => intR S (intD d)) h
    obtain ⟨i, e, q⟩ := intR_go s g
    cases d with
    | int j => cases e; exact .inl (.inl ⟨_, by rw [rep_int r1], q⟩)
    | bl j => cases e; exact .inl (.inr ⟨_, by rw [rep_bl r1], q⟩)
    | str z =>
      simp only [intD] at e
      split at e
      · rename_i n e1
        split at e
        · rename_i z1
          cases e
          exact .inr ⟨z, _, by rw [(rep_str r1).1], e1, z1, q⟩
        · cases e
      · cases e
    | _ => simp [intD] at e
  | str =>
    obtain ⟨d, v, rfl, rfl, r1, g⟩ := one (f := strD S) h
    cases d with
    | int j =>
      simp only [strD] at g
      split at g
      · rename_i z
        refine ⟨j, by rw [rep_int r1], z, Go.same g (str_rep (Nat.le_trans (str_len z) (by decide))) s⟩
      · exact g.elim
    | _ => exact False.elim g
  | tuple =>
    obtain ⟨d, v, rfl, rfl, r1, g⟩ := one (f := tupD S) h
    have gen : (∀ es, d ≠ .tup es) → Go K (Rep K) E β H (match asQ S d with
      | some ds => .ok (.tup ds) S
      | none => .stuck) Q → rBi K .tuple [v] H Q := fun nt g => by
      split at g
      · rename_i ds e1
        obtain ⟨a, vs, rfl, hs, z, r⟩ := asQ_list s r1 nt e1
        exact ⟨a, vs, rfl, .inl ⟨hs, go_tup s r z g⟩⟩
      · exact g.elim
    cases d with
    | tup es =>
      simp only [Rep] at r1
      obtain ⟨a, vs, rfl, t, z, r2⟩ := r1
      exact ⟨a, vs, rfl, .inr ⟨t.sq, Go.same g (by simp only [Rep]; exact ⟨a, vs, rfl, t, z, r2⟩) s⟩⟩
    | _ => exact gen (by intro es e; cases e) g
  | list =>
    obtain ⟨d, v, rfl, rfl, r1, g⟩ := one (f := listD m S) h
    unfold listD at g
    split at g
    · rename_i ds e1
      obtain ⟨a, vs, rfl, hs, z, r⟩ := asQ_rep s r1 e1
      exact ⟨a, vs, rfl, hs, (go_lst s r g).2⟩
    · exact g.elim
  | divmod =>
    obtain ⟨d, e, v, w, rfl, rfl, r1, r2, g⟩ := two (f := divmodD S) h
    unfold divmodD at g
    split at g
    · rename_i i j
      split at g
      · rename_i c
        exact ⟨i, j, by rw [rep_int r1, rep_int r2], c, go_tup s (Reps.cons (int_rep _) (Reps.one (int_rep _))) (by show 2 ≤ sizeLine; decide) g⟩
      · exact g.elim
    · exact g.elim
  | gcd =>
    obtain ⟨d, e, v, w, rfl, rfl, r1, r2, g⟩ := two (f := fun d e => intR S (gcdD d e)) h
    obtain ⟨i, e1, q⟩ := intR_go s g
    unfold gcdD at e1
    split at e1
    · cases e1
      exact ⟨_, _, by rw [rep_int r1, rep_int r2], q⟩
    · cases e1
  | sorted => exact False.elim h

/-! ### methods of built-in types -/
def mtT : Mt → String
  | .append => "list"
  | .extend => "list"
  | .pop => "list"
  | .split => "str"
  | .join => "str"
  | .startswith => "str"
  | .endswith => "str"
  | .index => "list"
def mtId : Mt → String
  | .append => "list.append"
  | .extend => "list.extend"
  | .pop => "list.pop"
  | .split => "str.split"
  | .join => "str.join"
  | .startswith => "str.startswith"
  | .endswith => "str.endswith"
  | .index => "list.index"
def rMt (K : PySem.W.Frag) : Mt → V → List V → Hp → VK → Prop
  | .append => rAppend
  | .extend => rExtend
  | .split => fun x xs H Q => ∃ a b, x = .str a ∧ xs = [.str b] ∧ (b.length == 0) = false ∧ a.length + 2 ≤ sizeLine ∧ rNewStrs (Txt.split a b) H Q
  | .join => fun x xs H Q => ∃ a p, ∃ ys : List Str, x = .str a ∧ xs = [.ref p] ∧ (SqL K H p (ys.map V.str) ∨ SqT K H p (ys.map V.str)) ∧ (ys.map (·.length)).sum + ys.length * a.length ≤ 16777216 ∧ Q (.str (Txt.join a ys)) H
  | .startswith => fun x xs H Q => ∃ a b, x = .str a ∧ xs = [.str b] ∧ Q (.bl (Txt.startswith a b)) H
  | .endswith => fun x xs H Q => ∃ a b, x = .str a ∧ xs = [.str b] ∧ Q (.bl (Txt.endswith a b)) H
  | _ => fun _ _ _ _ => False
theorem mt_ok {X : Cx} : ∀ t : Mt, MtR X (mtId t) (rMt X.K t)
  | .append => mt_append
  | .extend => mt_extend
  | .split => mt_split
  | .join => mt_join
  | .startswith => mt_startswith
  | .endswith => mt_endswith
  | .pop => fun _ _ _ _ _ _ _ _ _ _ _ _ h => h.elim
  | .index => fun _ _ _ _ _ _ _ _ _ _ _ _ h => h.elim
theorem lstAt_rep (s : SRel K β H S) {d : D} {v : V} {l : Nat} {ds : List D} (r : Rep K β H d v) (h : lstAt S d = some (l, ds)) : ∃ a vs, v = .ref a ∧ β.b[l]? = some a ∧ H a = some (.lst vs) ∧ ds.length ≤ sizeLine ∧ Reps K β H ds vs := by
  unfold lstAt at h
  split at h
  · rename_i k
    split at h
    · rename_i es q
      cases h
      simp only [Rep] at r
      obtain ⟨a, g, rfl⟩ := r
      obtain ⟨a', g', vs, h, z, r⟩ := s.cell _ _ q
      rw [g] at g'; cases g'
      exact ⟨a, vs, rfl, g, h, z, r⟩
    · cases h
  · cases h
theorem mt_go (s : SRel K β H S) (t : Mt) (m : Bool) {d : D} {v : V} {ds : List D} {vs : List V} (rd : Rep K β H d v) (r : Reps K β H ds vs) (h : Go K (Rep K) E β H (mtD t m d ds S) Q) : rMt K t v vs H Q := by
  unfold mtD at h
  split at h
  · rename_i e
    obtain ⟨w, rfl, r1⟩ := reps1 r
    unfold appendD at h
    split at h
    · rename_i l es e1
      obtain ⟨a, ws, rfl, g, ha, z, r2⟩ := lstAt_rep s rd e1
      split at h
      · rename_i c
        obtain ⟨x, s'⟩ := s.write g (ds := es ++ [e]) (vs := ws ++ [w]) (by rw [List.length_append]; exact c) (r2.append (Reps.one r1))
        exact ⟨a, ws, w, rfl, rfl, ha, by rw [← r2.length]; exact c, h .non _ _ x non_rep s'⟩
      · exact h.elim
    · exact h.elim
  · rename_i e
    obtain ⟨w, rfl, r1⟩ := reps1 r
    unfold extendD at h
    split at h
    · rename_i l es fs e1 e2
      obtain ⟨a, ws, rfl, g, ha, z, r2⟩ := lstAt_rep s rd e1
      obtain ⟨b, us, rfl, hb, z2, r3⟩ := asL_rep s r1 e2
      split at h
      · rename_i c
        obtain ⟨x, s'⟩ := s.write g (ds := es ++ fs) (vs := ws ++ us) (by rw [List.length_append]; exact c) (r2.append r3)
        exact ⟨a, b, ws, us, rfl, rfl, ha, hb, by rw [← r2.length, ← r3.length]; exact c, h .non _ _ x non_rep s'⟩
      · exact h.elim
    · exact h.elim
  · rename_i e
    obtain ⟨w, rfl, r1⟩ := reps1 r
    unfold splitD at h
    split at h
    · rename_i z y
      split at h
      · rename_i c
        exact ⟨z, y, (rep_str rd).1, by rw [(rep_str r1).1], c.1, c.2.1, (go_lst s (reps_strs c.2.2) h).2⟩
      · exact h.elim
    · exact h.elim
  · rename_i e
    obtain ⟨w, rfl, r1⟩ := reps1 r
    unfold joinD at h
    split at h
    · rename_i z ys e1
      obtain ⟨es, e2, e3⟩ := Option.bind_eq_some_iff.mp e1
      obtain ⟨a, us, rfl, hs, _, r2⟩ := asQ_rep s r1 e2
      rw [strs_rep r2 e3] at hs
      split at h
      · rename_i c
        exact ⟨z, a, ys, (rep_str rd).1, rfl, hs, c.1, Go.same h (str_rep c.2) s⟩
      · exact h.elim
    · exact h.elim
  · rename_i e
    obtain ⟨w, rfl, r1⟩ := reps1 r
    obtain ⟨b, e1, q⟩ := blR_go s h
    unfold startsD at e1
    split at e1
    · cases e1
      exact ⟨_, _, (rep_str rd).1, by rw [(rep_str r1).1], q⟩
    · cases e1
  · rename_i e
    obtain ⟨w, rfl, r1⟩ := reps1 r
    obtain ⟨b, e1, q⟩ := blR_go s h
    unfold endsD at e1
    split at e1
    · cases e1
      exact ⟨_, _, (rep_str rd).1, by rw [(rep_str r1).1], q⟩
    · cases e1
  · exact False.elim h
/-- the receiver is of the method's type -/
theorem mt_ty (s : SRel K β H S) (t : Mt) {d : D} {v : V} (rd : Rep K β H d v) (h : mtTy t d S = true) : tyV K (mtT t) v H := by
  have lst : (lstAt S d).isSome = true → tyV K "list" v H := fun h => by
    obtain ⟨⟨l, es⟩, e1⟩ := Option.isSome_iff_exists.mp h
    obtain ⟨a, ws, rfl, g, ha, z, r2⟩ := lstAt_rep s rd e1
    exact .inl ⟨rfl, ws, SqL.of ha⟩
  have isS : ∀ {z : Str}, d = .str z → tyV K "str" v H := fun {z} e1 => by
    subst e1
    rw [(rep_str rd).1]; rfl
  cases t with
  | append => exact lst h
  | extend => exact lst h
  | pop => exact lst h
  | index =>
    obtain ⟨es, e1⟩ := Option.isSome_iff_exists.mp (show (asL S d).isSome = true from h)
    obtain ⟨a, vs, rfl, q, _, _⟩ := asL_rep s rd e1
    exact .inl ⟨rfl, vs, SqL.of q⟩
  | split => cases d <;> first | exact isS rfl | (simp [mtTy] at h)
  | join => cases d <;> first | exact isS rfl | (simp [mtTy] at h)
  | startswith => cases d <;> first | exact isS rfl | (simp [mtTy] at h)
  | endswith => cases d <;> first | exact isS rfl | (simp [mtTy] at h)
/-! ### isinstance -/
/-- what kind of thing a value is -/
def kdN (S : Store) : D → Option String
  | .non => some "NoneType"
  | .bl _ => some "bool"
  | .int _ => some "int"
  | .str _ => some "str"
  | .tup _ => some "tuple"
  | .lst _ => some "list"
  | .fz _ => some "list"
  | .ref l => match S[l]? with
    | some (.lst _) => some "list"
    | _ => none
def tyN : Ty → String
  | .int => "int"
  | .bool => "bool"
  | .str => "str"
  | .tuple => "tuple"
  | .list => "list"
  | .dict => "dict"
def tyIs (a b : String) : Bool := a == b || (a == "bool" && b == "int")
theorem kd_ty (s : SRel K β H S) {d : D} {v : V} {k : String} (r : Rep K β H d v) (h : kdN S d = some k) : TyX K H v (.type k) := by
  cases d with
  | non => cases h; rw [rep_non r]; exact .base .non
  | bl b => cases h; rw [rep_bl r]; exact .base (.bl b)
  | int i => cases h; rw [rep_int r]; exact .base (.int i)
  | str i => cases h; rw [(rep_str r).1]; exact .base (.str i)
  | tup ds =>
    cases h
    simp only [Rep] at r
    obtain ⟨a, vs, rfl, t, _, _⟩ := r
    rcases t with ⟨_, t | ⟨o, t⟩⟩ | ⟨o, its, n, t, c, _⟩
    · exact .base (.tup t)
    · exact .fTuple t
    · exact .kTuple t c
  | lst ds =>
    cases h
    simp only [Rep] at r
    obtain ⟨a, vs, rfl, ⟨_, _, t⟩, _, _⟩ := r
    exact .base (.lst t)
  | fz ds =>
    cases h
    simp only [Rep] at r
    obtain ⟨a, vs, rfl, t, _, _⟩ := r
    rcases t with ⟨_, o, t⟩ | ⟨o, its, n, t, c, _⟩
    · exact .base (.frz t)
    · exact .kList t c
  | ref l =>
    simp only [kdN] at h
    split at h
    · rename_i ds q
      cases h
      obtain ⟨a, vs, rfl, t, _, _⟩ := asL_rep (ds := ds) s r (by simp [asL, q])
      exact .base (.lst t)
    · cases h
theorem kit_ty (k : String) (t : Ty) (h : k ∈ ["NoneType", "bool", "int", "str", "tuple", "list"]) : PySem.W.kitOne K (.type k) (.type (tyN t)) = some (tyIs k (tyN t)) := by
  simp only [List.mem_cons, List.not_mem_nil, or_false] at h
  rcases h with rfl | rfl | rfl | rfl | rfl | rfl <;> cases t <;> rfl
end
end Pyx
end
section
/-! From the machine's syntax to the small one. -/
namespace Pyx
open PySem

/-- the names of a block by places; fn: whose cells were made here -/
structure Sc where
  N : List Str
  sc : Scope
  fn : Str → Bool
/-- what the program's top holds, by names; mu: where a list is made that is written later -/
structure Pr where
  ps : Str → Option (List Str)
  gl : Str → Option D
  bl : Str → Bool
  mu : Pos → Bool
  /-- the keyword calls that are known to bind -/
  kw : Str → Nat → List Str → Bool

def esOf : List E → Es
  | [] => .nil
  | e :: es => .cons e (esOf es)
def plc (c : Sc) (x : Str) : Option Nat :=
  match c.N.findIdx? (· == x), c.sc.names.lookup x with
  | some i, some .local => some i
  | some i, some .cell => some i
  | some i, some .free => some i
  | _, _ => none
def stq (c : Sc) (x : Str) : Option Nat :=
  match c.N.findIdx? (· == x), c.sc.names.lookup x with
  | some i, some .local => some i
  | some i, some .cell => if c.fn x then some i else none
  | _, _ => none
def isGl (c : Sc) (x : Str) : Bool := c.sc.names.lookup x == some .globalImplicit
def okN (x : Str) : Bool := !(x == ("__debug__" : Str)) && !(x == ("__classdict__" : Str)) && !(x == ("__name__" : Str))
def trK : Const → E
  | .int i => .con (.int i)
  | .bool b => .con (.bl b)
  | .none => .con .non
  | .str s => if s.length ≤ sizeLine then .con (.str s) else .never
  | _ => .never
def trN (P : Pr) (c : Sc) (x : Str) : E :=
  if okN x then (match plc c x with
    | some i => .var i
    | none => if isGl c x && (P.gl x).isSome then .glob x else .never) else .never
def trBop : Operator → Option BOp
  | .Add => some .add
  | .Sub => some .sub
  | .Mult => some .mul
  | .FloorDiv => some .fdiv
  | .Mod => some .mod
  | .Pow => some .pow
  | _ => none
def trCop : CmpOp → COp
  | .Eq => .eq
  | .NotEq => .ne
  | .Lt => .lt
  | .LtE => .le
  | .Gt => .gt
  | .GtE => .ge
  | .Is => .is
  | .IsNot => .isnot
  | .In => .isin
  | .NotIn => .notin
def isStar : Expr → Bool
  | .Starred _ _ => true
  | _ => false
def isSet : Expr → Bool
  | .Set _ _ _ => true
  | _ => false
def isSlice : Expr → Bool
  | .Slice _ _ _ _ => true
  | _ => false
def isComp : Expr → Bool
  | .ListComp _ _ _ _ => true
  | .SetComp _ _ _ _ => true
  | .DictComp _ _ _ _ _ => true
  | _ => false
def isCall0 : Expr → Bool
  | .Call _ [] [] _ => true
  | _ => false
def noStar (es : List Expr) : Bool := es.all fun e => !isStar e
def trBool (f : Expr → E) (o : BoolOp) : List Expr → E
  | [] => .never
  | [e] => f e
  | e :: es => match o with
    | .And => .and (f e) (trBool f o es)
    | .Or => .or (f e) (trBool f o es)
def trCmp (f : Expr → E) (a : Expr) (ops : List CmpOp) (bs : List Expr) : E :=
  match ops, bs with
  | [o], [b] => if isSet b then .never else .cmp (trCop o) (f a) (f b)
  | [o, p], [b, d] => if isSet b || isSet d then .never else .cmp2 (trCop o) (trCop p) (f a) (f b) (f d)
  | _, _ => .never
def trO (f : Expr → E) : Option Expr → Ob
  | none => .none
  | some e => .some (f e)
def trSub (P : Pr) (f : Expr → E) (a i : Expr) (pos : Pos) : E :=
  match i with
  | .Slice lo hi none _ => .sl (P.mu pos) (f a) (trO f lo) (trO f hi)
  | .Slice none none (some (.UnaryOp .USub (.Constant (.int 1) _ _) _)) _ => .rev (f a)
  | .Slice _ _ _ _ => .never
  | i => .ix (f a) (f i)
def trTy : Str → Option Ty := fun x =>
  if x = "int" then some .int else if x = "bool" then some .bool else if x = "str" then some .str
  else if x = "tuple" then some .tuple else if x = "list" then some .list else if x = "dict" then some .dict else none
def trBi : Str → Option Bi := fun x =>
  if x = "len" then some .len else if x = "abs" then some .abs else if x = "max" then some .max else if x = "min" then some .min
  else if x = "sum" then some .sum else if x = "all" then some .all else if x = "any" then some .any else if x = "int" then some .int
  else if x = "str" then some .str else if x = "tuple" then some .tuple else if x = "list" then some .list
  else if x = "divmod" then some .divmod else none
def trMt : Str → Option Mt := fun x =>
  if x = "append" then some .append else if x = "extend" then some .extend else if x = "split" then some .split else if x = "join" then some .join
  else if x = "startswith" then some .startswith else if x = "endswith" then some .endswith else none
def tyName (P : Pr) (c : Sc) : Expr → Option Ty
  | .Name x _ => if isGl c x && P.bl x && okN x then trTy x else none
  | _ => none
def kwNames : List Keyword → Option (List Str)
  | [] => some []
  | ⟨some x, _, _⟩ :: ks => (kwNames ks).map (x :: ·)
  | _ => none
/-- for each parameter the place of its value among the positional ones and the keywords -/
def kwPlan (ps : List Str) (n : Nat) (ks : List Str) : Option (List Nat) :=
  if n + ks.length = ps.length then ((ps.drop n).mapM fun x => (ks.findIdx? (· == x)).map (n + ·)).map (List.range n ++ ·) else none
def trCall (P : Pr) (c : Sc) (f : Expr → E) (g : Expr) (as : List Expr) (kws : List Keyword) (pos : Pos) : E :=
  if noStar as then (match g with
    | .Name x _ => if isGl c x && okN x then (match P.ps x, kws with
      | some ps, [] => if as.length = ps.length then .call x (esOf (as.map f)) else .never
      | some ps, _ :: _ => (match kwNames kws with
        | some ks => if P.kw x as.length ks then (match kwPlan ps as.length ks with
          | some pl => .callk x (esOf (as.map f)) pl (esOf (kws.map fun k => f k.value))
          | none => .never) else .never
        | none => .never)
      | none, [] => if P.bl x then (if x = "isinstance" then (match as with
          | [a, .Tuple ts _ _] => (match ts.mapM (tyName P c) with
            | some tys => if tys.length = 0 ∨ 100 < tys.length then .never else .isin (f a) tys
            | none => .never)
          | [a, t] => (match tyName P c t with
            | some ty => .isin (f a) [ty]
            | none => .never)
          | _ => .never) else match trBi x with
            | some b => if as = [] then .never else .bi b (P.mu pos) (esOf (as.map f))
            | none => .never) else .never
      | none, _ => .never) else .never
    | .Attribute o m apos => (match trMt m, kws, as with
      | some t, [], [a] => if !isCall0 o && (apos.endLine == pos.line) then .mt t (P.mu pos) (f o) (esOf [f a]) else .never
      | _, _, _ => .never)
    | _ => .never) else .never
def tgsOf : List Tg → Tgs
  | [] => .nil
  | t :: ts => .cons t (tgsOf ts)
def trSrc (P : Pr) (c : Sc) (f : Expr → E) (tg e : Expr) : Option Src :=
  match e with
  | .Call (.Name x p) as [] q =>
    if isGl c x && P.bl x && okN x then
      (if x = "range" then (if noStar as && (as.length == 1 || as.length == 2) then some (.rng (esOf (as.map f))) else none)
      else if x = "enumerate" then (match as, tg with
        | [a], .Tuple _ _ _ => if noStar as then some (.enum (f a)) else none
        | _, _ => none)
      else if x = "zip" then (match as, tg with
        | [a, b], .Tuple _ _ _ => if noStar as then some (.zip (f a) (f b)) else none
        | _, _ => none)
      else if x = "reversed" then none
      else some (.val (f (.Call (.Name x p) as [] q)))) else some (.val (f (.Call (.Name x p) as [] q)))
  | .Set _ _ _ => none
  | e => some (.val (f e))
/-- the block's own names and their places -/
def ownOf (c : Sc) (scope : Scope) : Option (List (Str × Nat)) :=
  some ((scope.names.filter fun y => y.2 == .local || y.2 == .cell).filterMap fun y => (c.N.findIdx? (· == y.1)).map fun i => (y.1, i))
def inner (c : Sc) (scope : Scope) : Sc := ⟨c.N, L2.relS scope c.sc, fun x => scope.names.lookup x == some .cell⟩
mutual
def Tg.slots : Tg → List Nat
  | .var i => [i]
  | .sub _ _ => []
  | .tup ts => Tgs.slots ts
def Tgs.slots : Tgs → List Nat
  | .nil => []
  | .cons t ts => t.slots ++ ts.slots
end
mutual
def Tg.plain : Tg → Bool
  | .var _ => true
  | .sub _ _ => false
  | .tup ts => Tgs.plain ts
def Tgs.plain : Tgs → Bool
  | .nil => true
  | .cons t ts => t.plain && ts.plain
end
mutual
def trT (c : Sc) (f : Expr → E) : Nat → Expr → Option Tg
  | 0, _ => none
  | n + 1, e => match e with
    | .Name x _ => (stq c x).map .var
    | .Subscript o i _ => if isSlice i then none else some (.sub (f o) (f i))
    | .Tuple es _ _ => if noStar es then (trTs c f n es).map .tup else none
    | _ => none
def trTs (c : Sc) (f : Expr → E) : Nat → List Expr → Option Tgs
  | 0, _ => none
  | _ + 1, [] => some .nil
  | n + 1, e :: es => match trT c f n e, trTs c f n es with
    | some t, some ts => some (.cons t ts)
    | _, _ => none
end
def trComp (P : Pr) (c : Sc) (f : Sc → Expr → E) (n : Nat) (elt : Expr) (gens : List Comprehension) (scope : Scope) (pos : Pos) : E :=
  match gens, ownOf c scope with
  | [⟨tg, iter, ifs, 0⟩], some own =>
    if L2.blkC c.N c.sc scope own = true ∧ ifs.length ≤ 1 then
      (match trSrc P c (f c) tg iter, trT (inner c scope) (f (inner c scope)) n tg with
      | some s, some t => if t.plain && (t.slots.all fun i => (own.map (·.2)).contains i) then
          .comp (P.mu pos) (own.map (·.2)) (f (inner c scope) elt) t s (esOf (ifs.map (f (inner c scope)))) else .never
      | _, _ => .never) else .never
  | [⟨tg, iter, ifs, 0⟩, ⟨tg1, iter1, ifs1, 0⟩], some own =>
    if L2.blkC c.N c.sc scope own = true ∧ ifs.length ≤ 1 ∧ ifs1.length ≤ 1 ∧ False then
      (match trSrc P c (f c) tg iter, trT (inner c scope) (f (inner c scope)) n tg, trSrc P (inner c scope) (f (inner c scope)) tg1 iter1, trT (inner c scope) (f (inner c scope)) n tg1 with
      | some s, some t, some s1, some t1 => if t.plain && t1.plain && (t.slots.all fun i => (own.map (·.2)).contains i) && (t1.slots.all fun i => (own.map (·.2)).contains i) then
          .comp2 (P.mu pos) (own.map (·.2)) (f (inner c scope) elt) t s (esOf (ifs.map (f (inner c scope)))) t1.slots t1 s1 (esOf (ifs1.map (f (inner c scope)))) else .never
      | _, _, _, _ => .never) else .never
  | _, _ => .never
def trE (P : Pr) : Nat → Sc → Expr → E
  | 0, _, _ => .never
  | n + 1, c, e => match e with
    | .Constant k _ _ => trK k
    | .Name x _ => trN P c x
    | .BinOp a o b _ => (match trBop o with
      | some o' => .bin o' (trE P n c a) (trE P n c b)
      | none => .never)
    | .UnaryOp .USub a _ => .neg (trE P n c a)
    | .UnaryOp .Not a _ => .not (trE P n c a)
    | .BoolOp o es _ => trBool (trE P n c) o es
    | .Compare a ops bs _ => trCmp (trE P n c) a ops bs
    | .IfExp t a b _ => .ite (trE P n c t) (trE P n c a) (trE P n c b)
    | .Tuple es _ _ => if noStar es then .tup (esOf (es.map (trE P n c))) else .never
    | .List es pos => if noStar es then .lst (P.mu pos) (esOf (es.map (trE P n c))) else .never
    | .Subscript a i pos => trSub P (trE P n c) a i pos
    | .Call g as kws pos => trCall P c (trE P n c) g as kws pos
    | .ListComp elt gens scope pos => trComp P c (trE P n) n elt gens scope pos
    | _ => .never

/-- what swappedStores says where it says something without a look at the machine -/
def swp (c : Sc) (targets : List Expr) (value : Expr) : Option (Option (List Str)) :=
  match targets, value with
  | [.Tuple ts _ _], .Tuple vs _ _ =>
    if !(ts.length == 2 || ts.length == 3) || vs.length != ts.length then some none
    else if vs.any isStar then none
    else
      let line := (ts.head?.map (·.pos.line)).getD 0
      let names := ts.filterMap fun
        | .Name id pos => if c.sc.names.lookup id == some .local && pos.line == line then some id else none
        | _ => none
      if names.length != ts.length || names.eraseDups.length != names.length then some none
      else if vs.all (foldedForSure 8) then some none
      else if vs.all (constantsAlone 8) then none
      else some (some names)
  | [.List _ _], _ => none
  | [_], _ => some none
  | _, _ => none
/-- does swapsWith say no, yes -/
def swc (c : Sc) (e : Expr) (t : Expr) : Option Bool :=
  match e with
  | .ListComp _ _ s p => (match t with
    | .Name x q => some (c.sc.names.lookup x == some .local && q.line == p.line && !(s.names.any fun (n, k) => n == x && (k == .local || k == .cell)))
    | _ => some false)
  | .SetComp _ _ _ _ => none
  | .DictComp _ _ _ _ _ => none
  | _ => some false
def ssOf : List S → Ss
  | [] => .nil
  | s :: ss => .cons s (ssOf ss)
def trA (P : Pr) (n : Nat) (c : Sc) (t e : Expr) : S :=
  match trT c (trE P n c) n t, swp c [t] e, swc c e t with
  | some t', some none, some _ => .asg t' (trE P n c e)
  | some t', some (some _), some false => (match t, e with
    | .Tuple [.Name x _, .Name y _] _ _, .Tuple [_, _] _ _ => if x = y then .never else .asg t' (trE P n c e)
    | .Tuple [.Name x _, .Name y _, .Name z _] _ _, .Tuple [_, _, _] _ _ => if x = y || x = z || y = z then .never else .asg t' (trE P n c e)
    | _, _ => .never)
  | _, _, _ => .never
def trS (P : Pr) : Nat → Sc → Stmt → S
  | 0, _, _ => .never
  | n + 1, c, s => match s with
    | .Assign [t] e _ => trA P n c t e
    | .Expr e _ => if isComp e then .never else .expr (trE P n c e)
    | .Return (some e) _ => .ret (trE P n c e)
    | .Return none _ => .retN
    | .If t a b _ => .ite (trE P n c t) (ssOf (a.map (trS P n c))) (ssOf (b.map (trS P n c)))
    | .For tg it b [] _ => (match trSrc P c (trE P n c) tg it, trT c (trE P n c) n tg with
      | some s', some t' => .for t' s' (ssOf (b.map (trS P n c)))
      | _, _ => .never)
    | .While t b [] _ => .while (trE P n c t) (ssOf (b.map (trS P n c)))
    | .Pass _ => .pass
    | .Break _ => .brk
    | .Continue _ => .cont
    | _ => .never
end Pyx
end
section
/-! The reckoning is what the machine does: expressions. -/
namespace Pyx
open PySem L2

theorem R.bind_assoc {α β γ : Type} (r : R α) (f : α → Store → R β) (g : β → Store → R γ) : (r.bind f).bind g = r.bind fun a S => (f a S).bind g := by
  cases r <;> rfl
theorem R.bind_congr {α β : Type} {r : R α} {f g : α → Store → R β} (h : ∀ a S, f a S = g a S) : r.bind f = r.bind g := by
  cases r with
  | ok a S => exact h a S
  | _ => rfl
abbrev NX : XW := fun _ _ _ => False
/-- the reading of an answer -/
def Rg {α τ : Type} (K : PySem.W.Frag) (Rp : Bk → Hp → α → τ → Prop) (r : Env → Store → R α) : St → Hp → (τ → Hp → Prop) → Prop := fun σ H Q =>
  ∃ ρ S β, ERel K β H ρ σ ∧ SRel K β H S ∧ Go K Rp NX β H (r ρ S) Q
abbrev RE (X : Cx) (r : Env → Store → R D) : TE := Rg X.K (Rep X.K) r
abbrev RA (X : Cx) (r : Env → Store → R (List D)) : TA := Rg X.K (Reps X.K) r
abbrev RT (X : Cx) (r : Env → Store → R Bool) : TT := Rg X.K Is r
abbrev RO (X : Cx) (r : Env → Store → R (Option Int)) : TO := Rg X.K Is r
/-- its answer as a test -/
def tst (r : Env → Store → R D) : Env → Store → R Bool := fun ρ S => (r ρ S).bind fun d S1 => condS S1 d
section
variable {X : Cx} {e a b d : Expr} {pos : Pos}
theorem _root_.L2.PE.cv {t t' : TE} (h : PE X e t) (c : ∀ σ H Q, t' σ H Q → t σ H Q) : PE X e t' := ⟨fun pins s σ H Q I w => h.run pins s σ H Q I (c σ H Q w)⟩
theorem _root_.L2.PT.cv {t t' : TT} (h : PT X e t) (c : ∀ σ H Q, t' σ H Q → t σ H Q) : PT X e t' := ⟨fun pins s σ H Q I w => h.run pins s σ H Q I (c σ H Q w)⟩
theorem _root_.L2.PW.cv {t t' : TT} (h : PW X e t) (c : ∀ σ H Q, t' σ H Q → t σ H Q) : PW X e t' := ⟨fun wh pins s σ H Q I w => h.run wh pins s σ H Q I (c σ H Q w)⟩
theorem _root_.L2.PA.cv {es : List Expr} {t t' : TA} (h : PA X es t) (c : ∀ σ H Q, t' σ H Q → t σ H Q) : PA X es t' := ⟨fun p pins s σ H Q I w => h.run p pins s σ H Q I (c σ H Q w)⟩
theorem Rg.never {α τ : Type} {K : PySem.W.Frag} {Rp : Bk → Hp → α → τ → Prop} {σ : St} {H : Hp} {Q : τ → Hp → Prop} (h : Rg K Rp (fun _ _ => .stuck) σ H Q) : False := by
  obtain ⟨_, _, _, _, _, g⟩ := h
  exact g
theorem g_never : PE X e (RE X fun _ _ => .stuck) := ⟨fun _ _ _ _ _ _ h => (Rg.never h).elim⟩
theorem t_never : PT X e (RT X fun _ _ => .stuck) := ⟨fun _ _ _ _ _ _ h => (Rg.never h).elim⟩
variable {ra rb rd : Env → Store → R D}
theorem g_var {i : Nat} {x : Str} (hN : X.N[i]? = some x) (hv : Vis X.env.scope x) (hd : (x == ("__debug__" : Str)) = false) (hcd : (x == ("__classdict__" : Str)) = false) :
    PE X (.Name x pos) (RE X fun ρ S => give S (ρ[i]?.join)) := (pe_var hN hv hd hcd).cv fun σ H Q ⟨ρ, S, β, er, sr, g⟩ => by
  obtain ⟨d, e, g⟩ := Go.give g
  obtain ⟨v, e2, r⟩ := er.at_ i d (by
    cases q : ρ[i]? with
    | none => rw [q] at e; cases e
    | some o => rw [q] at e; cases o with
      | none => cases e
      | some d' => cases e; rfl)
  exact ⟨v, e2, Go.same g r sr⟩
theorem g_con {d : D} {v : V} (h : PE X e (tC v)) (r : ∀ β H, Rep X.K β H d v) : PE X e (RE X fun _ S => .ok d S) := h.cv fun σ H Q ⟨ρ, S, β, er, sr, g⟩ => Go.same g (r β H) sr
theorem g_glob {x : Str} {d : D} {u : Value} {v : V} (hg : Gl X x) (hm : X.mg x = some u) (ru : RelV v u) (r : ∀ β H, Rep X.K β H d v) (hd : (x == ("__debug__" : Str)) = false) {o : Option D} (ho : o = some d) :
    PE X (.Name x pos) (RE X fun _ S => give S o) := by
  subst ho
  exact g_con (pe_glob hg hm ru hd) r
theorem g_bin {o : BOp} (ha : PE X a (RE X ra)) (hb : PE X b (RE X rb)) : PE X (.BinOp a (opOf o) b pos) (RE X fun ρ S => (ra ρ S).bind fun x S1 => (rb ρ S1).bind fun y S2 => binD o x y S2) :=
  (pe_op (bin_ok o) ha hb).cv fun σ H Q ⟨ρ, S, β, er, sr, g⟩ => ⟨ρ, S, β, er, sr, g.bind.mono fun x H1 ⟨β1, S1, d, x1, r1, s1, g1⟩ =>
    ⟨ρ, S1, β1, er.ext x1, s1, g1.bind.mono fun y H2 ⟨β2, S2, e, x2, r2, s2, g2⟩ => bin_go s2 o (r1.ext x2) r2 g2⟩⟩
theorem g_neg (ha : PE X a (RE X ra)) : PE X (.UnaryOp .USub a pos) (RE X fun ρ S => (ra ρ S).bind fun x S1 => match x with
    | .int i => .ok (.int (-i)) S1
    | _ => .stuck) :=
  (pe_un un_neg ha).cv fun σ H Q ⟨ρ, S, β, er, sr, g⟩ => ⟨ρ, S, β, er, sr, g.bind.mono fun x H1 ⟨β1, S1, d, x1, r1, s1, g1⟩ => by
    cases d with
    | int i => exact ⟨i, rep_int r1, Go.same g1 (int_rep _) s1⟩
    | _ => exact g1.elim⟩
theorem go_cond {K : PySem.W.Frag} {β : Bk} {H : Hp} {S : Store} {d : D} {v : V} {α τ : Type} {Rp : Bk → Hp → α → τ → Prop} {f : Bool → Store → R α} {Q : τ → Hp → Prop} (s : SRel K β H S) (r : Rep K β H d v)
    (g : Go K Rp NX β H ((condS S d).bind f) Q) : ∃ k, TruV K v H k ∧ Go K Rp NX β H (f k S) Q := by
  unfold condS at g
  cases e : truth S d with
  | none => rw [e] at g; exact g.elim
  | some k => rw [e] at g; exact ⟨k, truth_rep s r e, g⟩
theorem g_not (ha : PE X a (RE X ra)) : PE X (.UnaryOp .Not a pos) (RE X fun ρ S => (ra ρ S).bind fun x S1 => (condS S1 x).bind fun b S2 => .ok (.bl (!b)) S2) :=
  (pe_notT ha).cv fun σ H Q ⟨ρ, S, β, er, sr, g⟩ => ⟨ρ, S, β, er, sr, g.bind.mono fun x H1 ⟨β1, S1, d, x1, r1, s1, g1⟩ => by
    obtain ⟨k, t, g2⟩ := go_cond s1 r1 g1
    exact ⟨k, t, Go.same g2 (bl_rep _) s1⟩⟩
theorem g_and {rest : List Expr} (ha : PE X a (RE X ra)) (hb : PE X (.BoolOp .And (b :: rest) pos) (RE X rb)) :
    PE X (.BoolOp .And (a :: b :: rest) pos) (RE X fun ρ S => (ra ρ S).bind fun x S1 => (condS S1 x).bind fun c S2 => if c then rb ρ S2 else .ok x S2) :=
  (pe_andT ha hb).cv fun σ H Q ⟨ρ, S, β, er, sr, g⟩ => ⟨ρ, S, β, er, sr, g.bind.mono fun x H1 ⟨β1, S1, d, x1, r1, s1, g1⟩ => by
    obtain ⟨k, t, g2⟩ := go_cond s1 r1 g1
    refine ⟨k, t, ?_⟩
    cases k with
    | true => exact iteT ⟨ρ, S1, β1, er.ext x1, s1, g2⟩
    | false => exact iteF (Go.same g2 r1 s1)⟩
theorem g_or {rest : List Expr} (ha : PE X a (RE X ra)) (hb : PE X (.BoolOp .Or (b :: rest) pos) (RE X rb)) :
    PE X (.BoolOp .Or (a :: b :: rest) pos) (RE X fun ρ S => (ra ρ S).bind fun x S1 => (condS S1 x).bind fun c S2 => if c then .ok x S2 else rb ρ S2) :=
  (pe_orT ha hb).cv fun σ H Q ⟨ρ, S, β, er, sr, g⟩ => ⟨ρ, S, β, er, sr, g.bind.mono fun x H1 ⟨β1, S1, d, x1, r1, s1, g1⟩ => by
    obtain ⟨k, t, g2⟩ := go_cond s1 r1 g1
    refine ⟨k, t, ?_⟩
    cases k with
    | false => exact iteF ⟨ρ, S1, β1, er.ext x1, s1, g2⟩
    | true => exact iteT (Go.same g2 r1 s1)⟩
theorem g_cmp {o : COp} (hu : X.A.units + 64 < cLine) (ha : PE X a (RE X ra)) (hb : PE X b (RE X rb)) (hm : behindInMarks (copOf o) b = false) :
    PE X (.Compare a [copOf o] [b] pos) (RE X fun ρ S => (ra ρ S).bind fun x S1 => (rb ρ S1).bind fun y S2 => cmpD o x y S2) :=
  (pe_cmpR (cmp_ok hu o) ha hb hm).cv fun σ H Q ⟨ρ, S, β, er, sr, g⟩ => ⟨ρ, S, β, er, sr, g.bind.mono fun x H1 ⟨β1, S1, d, x1, r1, s1, g1⟩ =>
    ⟨ρ, S1, β1, er.ext x1, s1, g1.bind.mono fun y H2 ⟨β2, S2, e, x2, r2, s2, g2⟩ => cmp_go s2 o (r1.ext x2) r2 g2⟩⟩
theorem cmp2_go {K : PySem.W.Frag} {β : Bk} {H : Hp} {S : Store} {σ : St} {ρ : Env} {o p : COp} {d e : D} {x y : V} (er : ERel K β H ρ σ) (s : SRel K β H S) (r1 : Rep K β H d x) (r2 : Rep K β H e y) {Q : V → Hp → Prop}
    (g : Go K (Rep K) NX β H ((give S (cmpB o d e S)).bind fun r S3 => if r then (rd ρ S3).bind fun z S4 => cmpD p e z S4 else .ok (.bl false) S3) Q) :
    rCmp K o x y H fun z H3 => ∃ k, z = .bl k ∧ if k = true then Rg K (Rep K) rd σ H3 (fun w H4 => rCmp K p y w H4 Q) else Q (.bl false) H3 := by
  refine cmp_go (E := NX) s o r1 r2 ?_
  unfold cmpD
  cases c : cmpB o d e S with
  | none => rw [c] at g; exact g.elim
  | some k =>
    rw [c] at g
    intro t β' H' x' r' s'
    refine ⟨k, rep_bl r', ?_⟩
    have g := Go.ext g x'
    cases k with
    | false => exact iteF (Go.same (t := V.bl false) (H := H') (β := β') (S := S) g (bl_rep _) s')
    | true => exact iteT ⟨ρ, S, β', er.ext x', s', (Go.bind (Rp := Rep K) g).mono fun w H4 ⟨β4, S4, f, x4, r4, s4, g4⟩ => cmp_go s4 p ((r2.ext x').ext x4) r4 g4⟩
theorem g_cmp2 {o p : COp} (hu : X.A.units + 64 < cLine) (ha : PE X a (RE X ra)) (hb : PE X b (RE X rb)) (hd : PE X d (RE X rd)) (hm : lastMarks [copOf o, copOf p] [b, d] = false) :
    PE X (.Compare a [copOf o, copOf p] [b, d] pos) (RE X fun ρ S => (ra ρ S).bind fun x S1 => (rb ρ S1).bind fun y S2 => (give S2 (cmpB o x y S2)).bind fun r S3 => if r then (rd ρ S3).bind fun z S4 => cmpD p y z S4 else .ok (.bl false) S3) :=
  (pe_chain (cmp_ok hu o) (cmp_ok hu p) ha hb hd hm).cv fun σ H Q ⟨ρ, S, β, er, sr, g⟩ => ⟨ρ, S, β, er, sr, g.bind.mono fun x H1 ⟨β1, S1, d, x1, r1, s1, g1⟩ =>
    ⟨ρ, S1, β1, er.ext x1, s1, g1.bind.mono fun y H2 ⟨β2, S2, e, x2, r2, s2, g2⟩ => cmp2_go ((er.ext x1).ext x2) s2 (r1.ext x2) r2 g2⟩⟩
theorem g_ite (ht : PT X d (RT X (tst rd))) (ha : PE X a (RE X ra)) (hb : PE X b (RE X rb)) :
    PE X (.IfExp d a b pos) (RE X fun ρ S => (rd ρ S).bind fun x S1 => (condS S1 x).bind fun k S2 => if k then ra ρ S2 else rb ρ S2) :=
  (pe_ifExp ht ha hb).cv fun σ H Q ⟨ρ, S, β, er, sr, g⟩ => ⟨ρ, S, β, er, sr, by
    dsimp only at g
    rw [← R.bind_assoc] at g
    refine (Go.bind (Rp := Is) g).mono fun k H1 ⟨β1, S1, k', x1, ek, s1, g1⟩ => ?_
    have ek : k' = k := ek
    subst ek
    cases k' with
    | true => exact iteT ⟨ρ, S1, β1, er.ext x1, s1, g1⟩
    | false => exact iteF ⟨ρ, S1, β1, er.ext x1, s1, g1⟩⟩
theorem g_ix (ha : PE X a (RE X ra)) (hb : PE X b (RE X rb)) (hs : PlainIx b) : PE X (.Subscript a b pos) (RE X fun ρ S => (ra ρ S).bind fun x S1 => (rb ρ S1).bind fun y S2 => ixD x y S2) :=
  (pe_ix ix_seq ha hb hs).cv fun σ H Q ⟨ρ, S, β, er, sr, g⟩ => ⟨ρ, S, β, er, sr, g.bind.mono fun x H1 ⟨β1, S1, d, x1, r1, s1, g1⟩ =>
    ⟨ρ, S1, β1, er.ext x1, s1, g1.bind.mono fun y H2 ⟨β2, S2, e, x2, r2, s2, g2⟩ => ix_go s2 (r1.ext x2) r2 g2⟩⟩
theorem o_none : PO X none (RO X fun _ S => .ok none S) := ⟨fun pins s σ H Q I ⟨ρ, S, β, er, sr, g⟩ => po_none.run pins s σ H Q I (Go.same g rfl sr)⟩
theorem o_some (ha : PE X a (RE X ra)) : PO X (some a) (RO X fun ρ S => (ra ρ S).bind fun d S1 => (give S1 (asI d)).bind fun i S2 => .ok (some i) S2) := ⟨fun pins s σ H Q I ⟨ρ, S, β, er, sr, g⟩ =>
  (po_some ha).run pins s σ H Q I ⟨ρ, S, β, er, sr, g.bind.mono fun x H1 ⟨β1, S1, d, x1, r1, s1, g1⟩ => by
    cases d with
    | int i => exact ⟨i, rep_int r1, Go.same g1 rfl s1⟩
    | _ => exact g1.elim⟩⟩
theorem g_sl {m : Bool} {lo hi : Option Expr} {rl rh : Env → Store → R (Option Int)} {p2 : Pos} (ha : PE X a (RE X ra)) (hl : PO X lo (RO X rl)) (hh : PO X hi (RO X rh)) :
    PE X (.Subscript a (.Slice lo hi none p2) pos) (RE X fun ρ S => (ra ρ S).bind fun x S1 => (rl ρ S1).bind fun l S2 => (rh ρ S2).bind fun h S3 => slD m x l h S3) :=
  (pe_slice sl_ok ha hl hh).cv fun σ H Q ⟨ρ, S, β, er, sr, g⟩ => ⟨ρ, S, β, er, sr, g.bind.mono fun x H1 ⟨β1, S1, d, x1, r1, s1, g1⟩ =>
    ⟨ρ, S1, β1, er.ext x1, s1, (Go.bind (Rp := Is) g1).mono fun l H2 ⟨β2, S2, l', x2, el, s2, g2⟩ => by
      have el : l' = l := el
      subst el
      refine ⟨ρ, S2, β2, (er.ext x1).ext x2, s2, (Go.bind (Rp := Is) g2).mono fun h H3 ⟨β3, S3, h', x3, eh, s3, g3⟩ => ?_⟩
      have eh : h' = h := eh
      subst eh
      exact sl_go s3 ((r1.ext x2).ext x3) g3⟩⟩

/-! ### argument lists -/
theorem star_cons {e : Expr} {es : List Expr} {env : PySem.Env} (h : isStar e = false) : starEach (e :: es) env = (false, eval e env) :: starEach es env := by
  cases e <;> first | rfl | (simp [isStar] at h)
theorem star_none : ∀ {es : List Expr} {env : PySem.Env} {pos : Pos}, noStar es = true → (backTo pos (starEach es env)).any (·.1) = false
  | [], _, _, _ => rfl
  | e :: es, env, pos, h => by
    simp only [noStar, List.all_cons, Bool.and_eq_true, Bool.not_eq_true'] at h
    rw [star_cons h.1]
    have := star_none (env := env) (pos := pos) (es := es) (by simpa [noStar] using h.2)
    simpa [backTo] using this
theorem a_nil : PA X [] (RA X fun _ S => .ok [] S) := pa_nil.cv fun σ H Q ⟨ρ, S, β, er, sr, g⟩ => Go.same g Reps.nil sr
theorem a_cons {es : List Expr} {re : Env → Store → R D} {rs : Env → Store → R (List D)} (ha : PE X a (RE X re)) (hs : PA X es (RA X rs)) (n : isStar a = false) :
    PA X (a :: es) (RA X fun ρ S => (re ρ S).bind fun d S1 => (rs ρ S1).bind fun ds S2 => .ok (d :: ds) S2) :=
  (pa_cons ha hs (star_cons n)).cv fun σ H Q ⟨ρ, S, β, er, sr, g⟩ => ⟨ρ, S, β, er, sr, g.bind.mono fun x H1 ⟨β1, S1, d, x1, r1, s1, g1⟩ =>
    ⟨ρ, S1, β1, er.ext x1, s1, (Go.bind (Rp := Reps X.K) g1).mono fun y H2 ⟨β2, S2, e, x2, r2, s2, g2⟩ => Go.same g2 (Reps.cons (r1.ext x2) r2) s2⟩⟩
theorem g_tup {es : List Expr} {rs : Env → Store → R (List D)} {k : Nat} (h : PA X es (RA X rs)) : PE X (.Tuple es k pos) (RE X fun ρ S => (rs ρ S).bind mkT) :=
  (pe_tup h).cv fun σ H Q ⟨ρ, S, β, er, sr, g⟩ => ⟨ρ, S, β, er, sr, (Go.bind (Rp := Reps X.K) g).mono fun x H1 ⟨β1, S1, d, x1, r1, s1, g1⟩ => go_mkT s1 r1 g1⟩
theorem g_lst {es : List Expr} {rs : Env → Store → R (List D)} {m : Bool} (h : PA X es (RA X rs)) : PE X (.List es pos) (RE X fun ρ S => (rs ρ S).bind (mkL m)) :=
  (pe_lst h).cv fun σ H Q ⟨ρ, S, β, er, sr, g⟩ => ⟨ρ, S, β, er, sr, (Go.bind (Rp := Reps X.K) g).mono fun x H1 ⟨β1, S1, d, x1, r1, s1, g1⟩ => go_lst s1 r1 g1⟩
theorem g_bi {es : List Expr} {rs : Env → Store → R (List D)} {m : Bool} {bi : Bi} {x : Str} {p : Pos} (hc : X.calm = true) (hg : Gl X x) (hm : X.mg x = none) (hv : bootBuiltins x = some (biF bi)) (h : PA X (a :: es) (RA X rs)) (n : noStar (a :: es) = true)
    (hn : x ≠ "__name__") (hdb : (x == ("__debug__" : Str)) = false) : PE X (.Call (.Name x p) (a :: es) [] pos) (RE X fun ρ S => (rs ρ S).bind fun ds S1 => biD bi m ds S1) := by
  have n2 : isStar a = false ∧ noStar es = true := by simpa [noStar] using n
  have f : ∀ {σ : St} {H : Hp} {Q : VK}, RE X (fun ρ S => (rs ρ S).bind fun ds S1 => biD bi m ds S1) σ H Q → tCB (rBi X.K bi) (RA X rs) σ H Q := fun {σ H Q} ⟨ρ, S, β, er, sr, g⟩ =>
    ⟨ρ, S, β, er, sr, (Go.bind (Rp := Reps X.K) g).mono fun x H1 ⟨β1, S1, d, x1, r1, s1, g1⟩ => bi_go s1 bi m r1 g1⟩
  cases e : biF bi with
  | builtin id =>
    rw [e] at hv
    exact (pe_callB (id := id) (e ▸ bi_ok hc bi) hg hm hv h hn hdb (star_cons n2.1) (star_none n2.2)).cv fun σ H Q q => f q
  | type T =>
    rw [e] at hv
    exact (pe_callTy (T := T) (e ▸ bi_ok hc bi) hg hm hv h hn hdb (star_cons n2.1) (star_none n2.2)).cv fun σ H Q q => f q
  | _ => cases bi <;> cases e
theorem few_of {es : List Expr} {env : PySem.Env} {cpos : Pos} (n : noStar es = true) (l : es.length < 29) :
    ((backTo cpos (starEach es env)).all (fun x => !x.1) && (backToKw cpos (keywordEach [] env)).all (fun x => x.1.isSome)
      && decide (es.length + ([] : List Keyword).length + (if ([] : List Keyword).isEmpty then 0 else 1) < 30)) = true := by
  have h := star_none (env := env) (pos := cpos) n
  have h2 : (backTo cpos (starEach es env)).all (fun x => !x.1) = true := by
    rw [List.all_eq_true]
    intro x hx
    have := List.any_eq_false.mp h x hx
    simpa using this
  rw [h2]
  simp [keywordEach, backToKw]; omega
def mtName : Mt → Str
  | .append => "append"
  | .extend => "extend"
  | .pop => "pop"
  | .split => "split"
  | .join => "join"
  | .startswith => "startswith"
  | .endswith => "endswith"
  | .index => "index"
theorem base_ok {o : Expr} {m : Str} {env : PySem.Env} (h : isCall0 o = false) : attributeBase o m env (eval o env) = eval o env := by
  unfold attributeBase
  cases o with
  | Call f as kws p =>
    cases f with
    | Name x q =>
      cases as with
      | nil =>
        cases kws with
        | nil => simp [isCall0] at h
        | cons _ _ => rfl
      | cons _ _ => rfl
    | _ => rfl
  | _ => rfl
theorem g_mt {rs : Env → Store → R (List D)} {m : Bool} {t : Mt} {name : Str} {o : Expr} {ro : Env → Store → R D} {apos : Pos} (ht : trMt name = some t) (ho : PE X o (RE X ro)) (h : PA X [a] (RA X rs)) (n : noStar [a] = true) (hb : isCall0 o = false) (hl : (apos.endLine == pos.line) = true) :
    PE X (.Call (.Attribute o name apos) [a] [] pos) (RE X fun ρ S => (ro ρ S).bind fun x S1 => if mtTy t x S1 then (rs ρ S1).bind fun ds S2 => mtD t m x ds S2 else .stuck) := by
  have n2 : isStar a = false := by simpa [noStar] using n
  have f : ∀ {σ : St} {H : Hp} {Q : VK}, RE X (fun ρ S => (ro ρ S).bind fun x S1 => if mtTy t x S1 then (rs ρ S1).bind fun ds S2 => mtD t m x ds S2 else .stuck) σ H Q → tBM X.K (mtT t) (rMt X.K t) (RE X ro) (RA X rs) σ H Q := fun {σ H Q} ⟨ρ, S, β, er, sr, g⟩ =>
    ⟨ρ, S, β, er, sr, g.bind.mono fun x H1 ⟨β1, S1, d, x1, r1, s1, g1⟩ => by
      dsimp only at g1
      split at g1
      · rename_i c
        exact ⟨mt_ty s1 t r1 c, ρ, S1, β1, er.ext x1, s1, (Go.bind (Rp := Reps X.K) g1).mono fun y H2 ⟨β2, S2, e, x2, r2, s2, g2⟩ => mt_go s2 t m (r1.ext x2) r2 g2⟩
      · exact g1.elim⟩
  unfold trMt at ht
  repeat' split at ht
  all_goals first | cases ht | skip
  all_goals rename_i e
  all_goals subst e
  · exact (pe_bm PySem.F.plainAttrs_list PySem.F.slot_list_append PySem.F.type_list_append mt_append ho h (base_ok hb) (few_of n (by simp)) hl (star_cons n2) (star_none (by rfl))).cv fun σ H Q q => f q
  · exact (pe_bm PySem.F.plainAttrs_list PySem.F.slot_list_extend PySem.F.type_list_extend mt_extend ho h (base_ok hb) (few_of n (by simp)) hl (star_cons n2) (star_none (by rfl))).cv fun σ H Q q => f q
  · exact (pe_bm PySem.F.plainAttrs_str PySem.F.slot_str_split PySem.F.type_str_split mt_split ho h (base_ok hb) (few_of n (by simp)) hl (star_cons n2) (star_none (by rfl))).cv fun σ H Q q => f q
  · exact (pe_bm PySem.F.plainAttrs_str PySem.F.slot_str_join PySem.F.type_str_join mt_join ho h (base_ok hb) (few_of n (by simp)) hl (star_cons n2) (star_none (by rfl))).cv fun σ H Q q => f q
  · exact (pe_bm PySem.F.plainAttrs_str PySem.F.slot_str_startswith PySem.F.type_str_startswith mt_startswith ho h (base_ok hb) (few_of n (by simp)) hl (star_cons n2) (star_none (by rfl))).cv fun σ H Q q => f q
  · exact (pe_bm PySem.F.plainAttrs_str PySem.F.slot_str_endswith PySem.F.type_str_endswith mt_endswith ho h (base_ok hb) (few_of n (by simp)) hl (star_cons n2) (star_none (by rfl))).cv fun σ H Q q => f q
end
end Pyx
end
section
/-! Tests, isinstance, calls of defs, targets, what is walked. -/
namespace Pyx
open PySem L2
section
variable {X : Cx} {e a b d : Expr} {pos : Pos} {ra rb rd : Env → Store → R D}
/-! ### tests -/
theorem t_gen (h : PE X e (RE X ra)) (he : ∀ whole, isTrue e X.env whole = (do let v ← whole; standAt e.pos; holding [v] (truthy v))) : PT X e (RT X (tst ra)) :=
  (pt_truth h he).cv fun σ H Q ⟨ρ, S, β, er, sr, g⟩ => ⟨ρ, S, β, er, sr, (Go.bind (Rp := Rep X.K) g).mono fun x H1 ⟨β1, S1, d, x1, r1, s1, g1⟩ => by
    unfold condS at g1
    obtain ⟨k, e, g2⟩ := Go.give g1
    exact ⟨k, truth_rep s1 r1 e, Go.same g2 rfl s1⟩⟩
theorem tst_bl {r : R Bool} : (r.bind fun b S2 => .ok (.bl b) S2 : R D).bind (fun d S1 => condS S1 d) = r := by
  cases r <;> rfl
theorem t_not (h : PT X a (RT X (tst ra))) : PT X (.UnaryOp .Not a pos) (RT X (tst fun ρ S => (ra ρ S).bind fun x S1 => (condS S1 x).bind fun b S2 => .ok (.bl (!b)) S2)) :=
  (pt_not h).cv fun σ H Q ⟨ρ, S, β, er, sr, g⟩ => ⟨ρ, S, β, er, sr, by
    have e : tst (fun ρ S => (ra ρ S).bind fun x S1 => (condS S1 x).bind fun b S2 => .ok (.bl (!b)) S2) ρ S = (tst ra ρ S).bind fun b S2 => .ok (!b) S2 := by
      unfold tst
      rw [R.bind_assoc, R.bind_assoc]
      refine R.bind_congr fun d S1 => ?_
      rw [R.bind_assoc]
      refine R.bind_congr fun b S2 => rfl
    rw [e] at g
    refine (Go.bind (Rp := Is) g).mono fun k H1 ⟨β1, S1, k', x1, ek, s1, g1⟩ => ?_
    have ek : k' = k := ek
    subst ek
    exact Go.same g1 rfl s1⟩
theorem t_ite (ht : PT X d (RT X (tst rd))) (ha : PT X a (RT X (tst ra))) (hb : PT X b (RT X (tst rb))) :
    PT X (.IfExp d a b pos) (RT X (tst fun ρ S => (rd ρ S).bind fun x S1 => (condS S1 x).bind fun k S2 => if k then ra ρ S2 else rb ρ S2)) := ⟨fun pins s σ H Q I ⟨ρ, S, β, er, sr, g⟩ => by
  have e : tst (fun ρ S => (rd ρ S).bind fun x S1 => (condS S1 x).bind fun k S2 => if k then ra ρ S2 else rb ρ S2) ρ S = (tst rd ρ S).bind fun k S2 => if k then tst ra ρ S2 else tst rb ρ S2 := by
    unfold tst
    rw [R.bind_assoc, R.bind_assoc]
    refine R.bind_congr fun d S1 => ?_
    rw [R.bind_assoc]
    refine R.bind_congr fun b S2 => ?_
    cases b <;> rfl
  rw [e] at g
  refine PyProof.Rows.isTrue_IfExp (thn (ht.run pins s σ H _ I ⟨ρ, S, β, er, sr, Go.bind (Rp := Is) g⟩) fun k s1 ⟨H1, I1, q1⟩ => ?_)
  obtain ⟨β1, S1, k', x1, ek, s1', g1⟩ := q1
  have ek : k' = k := ek
  subst ek
  cases k' with
  | true => exact ha.run pins s1 σ H1 Q I1 ⟨ρ, S1, β1, er.ext x1, s1', g1⟩
  | false => exact hb.run pins s1 σ H1 Q I1 ⟨ρ, S1, β1, er.ext x1, s1', g1⟩⟩
theorem w_one {o : BoolOp} (h : PT X a (RT X (tst ra))) : PW X (.BoolOp o [a] pos) (RT X (tst ra)) := by
  cases o with
  | And => exact pw_and1 h
  | Or => exact pw_or1 h
theorem w_and {rest : List Expr} (ha : PT X a (RT X (tst ra))) (hb : PW X (.BoolOp .And (b :: rest) pos) (RT X (tst rb))) :
    PW X (.BoolOp .And (a :: b :: rest) pos) (RT X (tst fun ρ S => (ra ρ S).bind fun x S1 => (condS S1 x).bind fun c S2 => if c then rb ρ S2 else .ok x S2)) :=
  (pw_and ha hb).cv fun σ H Q ⟨ρ, S, β, er, sr, g⟩ => ⟨ρ, S, β, er, sr, by
    have e : tst (fun ρ S => (ra ρ S).bind fun x S1 => (condS S1 x).bind fun c S2 => if c then rb ρ S2 else .ok x S2) ρ S = (tst ra ρ S).bind fun k S2 => if k then tst rb ρ S2 else .ok false S2 := by
      unfold tst
      rw [R.bind_assoc, R.bind_assoc]
      refine R.bind_congr fun d S1 => ?_
      rw [R.bind_assoc]
      unfold condS
      cases q : truth S1 d with
      | none => rfl
      | some k => cases k with
        | true => rfl
        | false => simp [q]
    rw [e] at g
    refine (Go.bind (Rp := Is) g).mono fun k H1 ⟨β1, S1, k', x1, ek, s1, g1⟩ => ?_
    have ek : k' = k := ek
    subst ek
    cases k' with
    | true => exact iteT ⟨ρ, S1, β1, er.ext x1, s1, g1⟩
    | false => exact iteF (Go.same g1 rfl s1)⟩
theorem w_or {rest : List Expr} (ha : PT X a (RT X (tst ra))) (hb : PW X (.BoolOp .Or (b :: rest) pos) (RT X (tst rb))) :
    PW X (.BoolOp .Or (a :: b :: rest) pos) (RT X (tst fun ρ S => (ra ρ S).bind fun x S1 => (condS S1 x).bind fun c S2 => if c then .ok x S2 else rb ρ S2)) :=
  (pw_or ha hb).cv fun σ H Q ⟨ρ, S, β, er, sr, g⟩ => ⟨ρ, S, β, er, sr, by
    have e : tst (fun ρ S => (ra ρ S).bind fun x S1 => (condS S1 x).bind fun c S2 => if c then .ok x S2 else rb ρ S2) ρ S = (tst ra ρ S).bind fun k S2 => if k then .ok true S2 else tst rb ρ S2 := by
      unfold tst
      rw [R.bind_assoc, R.bind_assoc]
      refine R.bind_congr fun d S1 => ?_
      rw [R.bind_assoc]
      unfold condS
      cases q : truth S1 d with
      | none => rfl
      | some k => cases k with
        | true => simp [q]
        | false => rfl
    rw [e] at g
    refine (Go.bind (Rp := Is) g).mono fun k H1 ⟨β1, S1, k', x1, ek, s1, g1⟩ => ?_
    have ek : k' = k := ek
    subst ek
    cases k' with
    | true => exact iteT (Go.same g1 rfl s1)
    | false => exact iteF ⟨ρ, S1, β1, er.ext x1, s1, g1⟩⟩
theorem cmp_tst {K : PySem.W.Frag} {β : Bk} {H : Hp} {S : Store} {o : COp} {d e : D} {x y : V} (s : SRel K β H S) (r1 : Rep K β H d x) (r2 : Rep K β H e y) {Q : Bool → Hp → Prop}
    (g : Go K Is NX β H ((cmpD o d e S).bind fun d S1 => condS S1 d) Q) : rCmp K o x y H fun z H3 => ∃ k, z = .bl k ∧ Q k H3 := by
  refine cmp_go (E := NX) s o r1 r2 ?_
  unfold cmpD at g ⊢
  cases c : cmpB o d e S with
  | none => rw [c] at g; exact g.elim
  | some k =>
    rw [c] at g
    intro t β' H' x' r' s'
    exact ⟨k, rep_bl r', Go.same (S := S) (Go.ext (r := .ok k S) g x') rfl s'⟩
theorem t_cmp {o : COp} (hu : X.A.units + 64 < cLine) (ha : PE X a (RE X ra)) (hb : PE X b (RE X rb)) (hm : behindInMarks (copOf o) b = false) :
    PT X (.Compare a [copOf o] [b] pos) (RT X (tst fun ρ S => (ra ρ S).bind fun x S1 => (rb ρ S1).bind fun y S2 => cmpD o x y S2)) :=
  (pt_cmpR (cmp_ok hu o) ha hb hm).cv fun σ H Q ⟨ρ, S, β, er, sr, g⟩ => ⟨ρ, S, β, er, sr, by
    unfold tst at g
    rw [R.bind_assoc] at g
    refine (Go.bind (Rp := Rep X.K) g).mono fun x H1 ⟨β1, S1, d, x1, r1, s1, g1⟩ => ⟨ρ, S1, β1, er.ext x1, s1, ?_⟩
    dsimp only at g1
    rw [R.bind_assoc] at g1
    exact (Go.bind (Rp := Rep X.K) g1).mono fun y H2 ⟨β2, S2, e, x2, r2, s2, g2⟩ => cmp_tst s2 (r1.ext x2) r2 g2⟩
theorem t_cmp2 {o p : COp} (hu : X.A.units + 64 < cLine) (ha : PE X a (RE X ra)) (hb : PE X b (RE X rb)) (hd : PE X d (RE X rd)) (hm : lastMarks [copOf o, copOf p] [b, d] = false) :
    PT X (.Compare a [copOf o, copOf p] [b, d] pos) (RT X (tst fun ρ S => (ra ρ S).bind fun x S1 => (rb ρ S1).bind fun y S2 => (give S2 (cmpB o x y S2)).bind fun r S3 => if r then (rd ρ S3).bind fun z S4 => cmpD p y z S4 else .ok (.bl false) S3)) :=
  (pt_chain (cmp_ok hu o) (cmp_ok hu p) ha hb hd hm).cv fun σ H Q ⟨ρ, S, β, er, sr, g⟩ => ⟨ρ, S, β, er, sr, by
    unfold tst at g
    rw [R.bind_assoc] at g
    refine (Go.bind (Rp := Rep X.K) g).mono fun x H1 ⟨β1, S1, u, x1, r1, s1, g1⟩ => ⟨ρ, S1, β1, er.ext x1, s1, ?_⟩
    dsimp only at g1
    rw [R.bind_assoc] at g1
    refine (Go.bind (Rp := Rep X.K) g1).mono fun y H2 ⟨β2, S2, w, x2, r2, s2, g2⟩ => ?_
    dsimp only at g2
    refine cmp_go (E := NX) s2 o (r1.ext x2) r2 ?_
    unfold cmpD
    cases c : cmpB o u w S2 with
    | none => rw [c] at g2; exact g2.elim
    | some k =>
      rw [c] at g2
      intro t β' H' x' r' s'
      refine ⟨k, rep_bl r', ?_⟩
      cases k with
      | false => exact iteF ⟨false, rfl, Go.same (S := S2) (Go.ext (r := .ok false S2) g2 x') rfl s'⟩
      | true =>
        refine iteT ⟨ρ, S2, β', ((er.ext x1).ext x2).ext x', s', ?_⟩
        have g3 : Go X.K Is NX β2 H2 ((rd ρ S2).bind fun z S4 => (cmpD p w z S4).bind fun d S1 => condS S1 d) Q := by
          rw [← R.bind_assoc]; exact g2
        exact (Go.bind (Rp := Rep X.K) (Go.ext g3 x')).mono fun z H4 ⟨β4, S4, f, x4, r4, s4, g4⟩ => cmp_tst s4 ((r2.ext x').ext x4) r4 g4⟩
/-! ### isinstance -/
theorem isTy_kd {d : D} {S : Store} {t : Ty} {b : Bool} (h : isTy d S t = some b) : ∃ k, kdN S d = some k ∧ k ∈ ["NoneType", "bool", "int", "str", "tuple", "list"] ∧ tyIs k (tyN t) = b := by
  cases d with
  | ref l =>
    simp only [isTy] at h
    split at h
    · rename_i q
      cases h
      exact ⟨"list", by simp [kdN, q], by simp, by cases t <;> rfl⟩
    · cases h
  | non => cases h; exact ⟨_, rfl, by simp, by cases t <;> rfl⟩
  | bl _ => cases h; exact ⟨_, rfl, by simp, by cases t <;> rfl⟩
  | int _ => cases h; exact ⟨_, rfl, by simp, by cases t <;> rfl⟩
  | str _ => cases h; exact ⟨_, rfl, by simp, by cases t <;> rfl⟩
  | tup _ => cases h; exact ⟨_, rfl, by simp, by cases t <;> rfl⟩
  | lst _ => cases h; exact ⟨_, rfl, by simp, by cases t <;> rfl⟩
  | fz _ => cases h; exact ⟨_, rfl, by simp, by cases t <;> rfl⟩
theorem kdN_mem {d : D} {S : Store} {k : String} (h : kdN S d = some k) : k ∈ ["NoneType", "bool", "int", "str", "tuple", "list"] := by
  cases d with
  | ref l =>
    simp only [kdN] at h
    split at h
    · cases h; simp
    · cases h
  | _ => cases h; simp
theorem isTys_any {d : D} {S : Store} {k : String} (hk : kdN S d = some k) (hm : k ∈ ["NoneType", "bool", "int", "str", "tuple", "list"]) : ∀ {ts : List Ty} {b : Bool}, isTys d S ts = some b → ∀ K, PySem.W.kitAny K (.type k) (ts.map fun t => .type (tyN t)) = some b
  | [], b, h, K => by cases h; rfl
  | t :: ts, b, h, K => by
    simp only [isTys] at h
    obtain ⟨x, e1, h⟩ := Option.bind_eq_some_iff.mp h
    obtain ⟨y, e2, rfl⟩ := Option.map_eq_some_iff.mp h
    obtain ⟨k', h1, h2, h3⟩ := isTy_kd e1
    rw [hk] at h1; cases h1
    have ih := isTys_any hk hm e2 K
    simp only [List.map_cons, PySem.W.kitAny, kit_ty (K := K) k t hm, h3]
    cases x with
    | true => rfl
    | false => simpa using ih
theorem tyName_ok {P : Pr} {c : Sc} {t : Expr} {ty : Ty} (hsc : X.env.scope = c.sc) (hbl : ∀ x, P.bl x = true → X.mg x = none) (h : tyName P c t = some ty) : PE X t (tC (.ty (tyN ty))) := by
  cases t with
  | Name x p =>
    simp only [tyName] at h
    split at h
    · rename_i c1
      simp only [Bool.and_eq_true] at c1
      obtain ⟨⟨h1, h2⟩, h3⟩ := c1
      have hg : Gl X x := by
        unfold Gl Env.kindOf
        rw [hsc]
        unfold isGl at h1
        exact beq_iff_eq.mp h1
      simp only [okN, Bool.and_eq_true, Bool.not_eq_true'] at h3
      have hn : x ≠ "__name__" := fun e => by
        have := h3.2
        rw [e] at this; exact absurd this (by decide)
      unfold trTy at h
      repeat' split at h
      all_goals first | cases h | skip
      all_goals rename_i e
      all_goals subst e
      · exact pe_bltn hg (hbl _ h2) (by decide +kernel) rfl hn h3.1.1
      · exact pe_bltn hg (hbl _ h2) (by decide +kernel) rfl hn h3.1.1
      · exact pe_bltn hg (hbl _ h2) (by decide +kernel) rfl hn h3.1.1
      · exact pe_bltn hg (hbl _ h2) (by decide +kernel) rfl hn h3.1.1
      · exact pe_bltn hg (hbl _ h2) (by decide +kernel) rfl hn h3.1.1
      · exact pe_bltn hg (hbl _ h2) (by decide +kernel) rfl hn h3.1.1
    · cases h
  | _ => cases h
theorem isin_go {K : PySem.W.Frag} {β : Bk} {H : Hp} {S : Store} {d : D} {v : V} {ts : List Ty} {Q : V → Hp → Prop} (s : SRel K β H S) (r : Rep K β H d v)
    (g : Go K (Rep K) NX β H ((give S (isTys d S ts)).bind fun b S2 => .ok (.bl b) S2) Q) (ne : ts ≠ []) : ∃ k b, TyX K H v (.type k) ∧ PySem.W.kitAny K (.type k) (ts.map fun t => .type (tyN t)) = some b ∧ Q (.bl b) H := by
  cases e : isTys d S ts with
  | none => rw [e] at g; exact g.elim
  | some b =>
    rw [e] at g
    have hk : ∃ k, kdN S d = some k := by
      cases ts with
      | nil => exact absurd rfl ne
      | cons t ts =>
        simp only [isTys] at e
        obtain ⟨x, e1, _⟩ := Option.bind_eq_some_iff.mp e
        obtain ⟨k, h, _⟩ := isTy_kd e1
        exact ⟨k, h⟩
    obtain ⟨k, hk⟩ := hk
    exact ⟨k, b, kd_ty s r hk, isTys_any hk (kdN_mem hk) e K, Go.same g (bl_rep _) s⟩
theorem g_isin1 {t : Expr} {ty : Ty} {p : Pos} (hg : Gl X "isinstance") (hm : X.mg "isinstance" = none) (ha : PE X a (RE X ra)) (ht : PE X t (tC (.ty (tyN ty)))) (n : noStar [a, t] = true) :
    PE X (.Call (.Name "isinstance" p) [a, t] [] pos) (RE X fun ρ S => (ra ρ S).bind fun x S1 => (give S1 (isTys x S1 [ty])).bind fun b S2 => .ok (.bl b) S2) := by
  have n2 : isStar a = false ∧ isStar t = false := by simpa [noStar] using n
  refine (pe_callB call_isi hg hm (by decide +kernel) (pa_cons ha (pa_cons ht pa_nil (star_cons n2.2)) (star_cons n2.1)) (by decide) (by decide) (star_cons n2.1) (star_none (by simp [noStar, n2.2]))).cv fun σ H Q ⟨ρ, S, β, er, sr, g⟩ => ?_
  refine ⟨ρ, S, β, er, sr, (Go.bind (Rp := Rep X.K) g).mono fun x H1 ⟨β1, S1, d, x1, r1, s1, g1⟩ => ?_⟩
  obtain ⟨k, b, h1, h2, h3⟩ := isin_go s1 r1 g1 (by simp)
  refine ⟨x, .ty (tyN ty), .type k, .type (tyN ty), b, rfl, .ty _, h1, ?_, h3⟩
  simp only [List.map_cons, List.map_nil, PySem.W.kitAny] at h2
  split at h2 <;> first | (rename_i q; rw [q]; exact h2) | cases h2
theorem tys_ok {P : Pr} {c : Sc} (hsc : X.env.scope = c.sc) (hbl : ∀ x, P.bl x = true → X.mg x = none) : ∀ {ts : List Expr} {tys : List Ty}, ts.mapM (tyName P c) = some tys → noStar ts = true ∧ PA X ts (fun _ H Q => Q (tys.map fun t => V.ty (tyN t)) H)
  | [], tys, h => by
    cases h
    exact ⟨rfl, pa_nil⟩
  | t :: ts, tys, h => by
    rw [List.mapM_cons] at h
    obtain ⟨ty, e1, h⟩ := Option.bind_eq_some_iff.mp h
    obtain ⟨tr, e2, h⟩ := Option.bind_eq_some_iff.mp h
    cases h
    obtain ⟨n, pa⟩ := tys_ok hsc hbl e2
    have nt : isStar t = false := by cases t <;> first | rfl | (simp [tyName] at e1)
    exact ⟨by simp only [noStar, List.all_cons, nt, Bool.not_false, Bool.true_and]; exact n, (pa_cons (tyName_ok hsc hbl e1) pa (star_cons nt)).cv fun σ H Q q => q⟩
theorem paired_tys : ∀ (ts : List Ty), Paired ClsV (ts.map fun t => V.ty (tyN t)) (ts.map fun t => Value.type (tyN t))
  | [] => .nil
  | t :: ts => .cons (.ty _) (paired_tys ts)
theorem g_isinT {ts : List Expr} {tys : List Ty} {p p2 : Pos} {k2 : Nat} (hg : Gl X "isinstance") (hm : X.mg "isinstance" = none) (ha : PE X a (RE X ra)) (ht : PA X ts (fun _ H Q => Q (tys.map fun t => V.ty (tyN t)) H)) (ne : tys ≠ []) (l : tys.length ≤ sizeLine) (n : isStar a = false) :
    PE X (.Call (.Name "isinstance" p) [a, .Tuple ts k2 p2] [] pos) (RE X fun ρ S => (ra ρ S).bind fun x S1 => (give S1 (isTys x S1 tys)).bind fun b S2 => .ok (.bl b) S2) := by
  refine (pe_callB call_isiT hg hm (by decide +kernel) (pa_cons ha (pa_cons (pe_tup ht) pa_nil) (star_cons n)) (by decide) (by decide) (star_cons n) (by rfl)).cv fun σ H Q ⟨ρ, S, β, er, sr, g⟩ => ?_
  refine ⟨ρ, S, β, er, sr, (Go.bind (Rp := Rep X.K) g).mono fun x H1 ⟨β1, S1, d, x1, r1, s1, g1⟩ => ?_⟩
  refine ⟨by rw [List.length_map]; exact l, fun p hp => ?_⟩
  obtain ⟨x2, s2, np⟩ := s1.laid hp (.tup (tys.map fun t => V.ty (tyN t)))
  obtain ⟨k, b, h1, h2, h3⟩ := isin_go s2 (r1.ext x2) (Go.ext g1 x2) ne
  exact ⟨x, p, _, .type k, _, b, rfl, upd_same, paired_tys tys, h1, h2, h3⟩

/-! ### calls of defs -/
/-- a def's promise: it gives what the reckoning gives -/
def spF (K : PySem.W.Frag) (C : Str → List D → Store → R D) (f : Str) (np : Nat) : Sp := fun vs H Q _ =>
  ∃ ds S β, Reps K β H ds vs ∧ SRel K β H S ∧ ds.length = np ∧ Go K (Rep K) NX β H (C f ds S) Q
theorem g_call {C : Str → List D → Store → R D} {n : Nat} {f : Addr} {fd : FuncData} {ps : List Str} {x : Str} {p : Pos} {es : List Expr} {rs : Env → Store → R (List D)}
    (F : FnOk X.prog X.w X.K X.mg X.base CX0 n f fd ps (spF X.K C x ps.length)) (hr : Room n X.A) (hg : Gl X x) (hm : X.mg x = some (.ref f)) (hk : PySem.W.keepIn X.K (.ref f) = true) (hb : Binds X.K fd ps [])
    (h : PA X es (RA X rs)) (ns : noStar es = true) (hl : es.length = ps.length) (hne : es ≠ []) (hlen : ∀ ρ S ds S1, rs ρ S = .ok ds S1 → ds.length = es.length) (hdb : (x == ("__debug__" : Str)) = false) :
    PE X (.Call (.Name x p) es [] pos) (RE X fun ρ S => (rs ρ S).bind fun ds S1 => C x ds S1) := by
  have f2 : ∀ {σ : St} {H : Hp} {Q : VK}, RE X (fun ρ S => (rs ρ S).bind fun ds S1 => C x ds S1) σ H Q → tCall (spF X.K C x ps.length) [] E0 (RA X rs) σ H Q := fun {σ H Q} ⟨ρ, S, β, er, sr, g⟩ => by
    refine ⟨ρ, S, β, er, sr, ?_⟩
    dsimp only at g
    cases e : rs ρ S with
    | ok ds S1 =>
      rw [e] at g
      intro vs β1 H1 x1 r1 s1
      exact ⟨ds, S1, β1, by rw [List.append_nil]; exact r1, s1, by rw [hlen _ _ _ _ e, hl], Go.ext g x1⟩
    | exc x' S1 => rw [e] at g; exact g
    | stuck => rw [e] at g; exact g
  cases es with
  | nil => exact absurd rfl hne
  | cons e es =>
    have n2 : isStar e = false ∧ noStar es = true := by simpa [noStar] using ns
    exact (pe_call F hr hg hm hk hb .nil pass0 h hdb (star_cons n2.1) (star_none n2.2)).cv fun σ H Q q => f2 q
theorem g_call0 {C : Str → List D → Store → R D} {n : Nat} {f : Addr} {fd : FuncData} {ps : List Str} {x : Str} {p : Pos}
    (F : FnOk X.prog X.w X.K X.mg X.base CX0 n f fd ps (spF X.K C x ps.length)) (hr : Room n X.A) (hg : Gl X x) (hm : X.mg x = some (.ref f)) (hk : PySem.W.keepIn X.K (.ref f) = true) (hb : Binds X.K fd ps [])
    (hl : 0 = ps.length) (hdb : (x == ("__debug__" : Str)) = false) :
    PE X (.Call (.Name x p) [] [] pos) (RE X fun ρ S => (R.ok [] S).bind fun ds S1 => C x ds S1) :=
  (pe_call0 F hr hg hm hk hb .nil pass0 hdb).cv fun σ H Q ⟨ρ, S, β, er, sr, g⟩ => ⟨[], S, β, Reps.nil, sr, hl, g⟩
end
end Pyx
end
section
/-! What is walked, targets, comprehensions. -/
namespace Pyx
open PySem L2
theorem _root_.L2.PI.cv {X : Cx} {tg e : Expr} {t t' : TI} (h : PI X tg e t) (c : ∀ σ H Q, t' σ H Q → t σ H Q) : PI X tg e t' := ⟨fun pins s σ H Q I w => h.run pins s σ H Q I (c σ H Q w)⟩
theorem _root_.L2.PI.or {X : Cx} {tg e : Expr} {t t' : TI} (h : PI X tg e t) (h' : PI X tg e t') : PI X tg e (fun σ H Q => t σ H Q ∨ t' σ H Q) := ⟨fun pins s σ H Q I w => w.elim (h.run pins s σ H Q I) (h'.run pins s σ H Q I)⟩
/-- J walks these items while the guard holds -/
def Wk (K : PySem.W.Frag) (β0 : Bk) (H0 : Hp) (p : List D × Guard) (J : It) : Prop :=
  p.1.length ≤ sizeLine ∧ ∀ (i : Nat) (β : Bk) (H : Hp) (S : Store), Ext β0 H0 β H → SRel K β H S → p.2.ok S → i ≤ p.1.length →
    (∀ d, p.1[i]? = some d → J.go i H ∧ ∀ x H', J.yld i H x H' → Ext β H β H' ∧ SRel K β H' S ∧ Rep K β H' d x) ∧ (i = p.1.length → J.stop i H)
abbrev RI (X : Cx) (r : Env → Store → R (List D × Guard)) : TI := Rg X.K (Wk X.K) r
section
variable {K : PySem.W.Frag} {β : Bk} {H : Hp} {S : Store}
/-- a list at a has these items while the guard holds -/
def Live (K : PySem.W.Frag) (β0 : Bk) (H0 : Hp) (p : List D × Guard) (a : Addr) : Prop :=
  ∀ (β : Bk) (H : Hp) (S : Store), Ext β0 H0 β H → SRel K β H S → p.2.ok S → ∃ vs, SqL K H a vs ∧ Reps K β H p.1 vs
theorem live_of (s : SRel K β H S) {d : D} {v : V} {p : List D × Guard} (r : Rep K β H d v) (nt : ∀ es, d ≠ .tup es) (ns : ∀ z, d ≠ .str z) (e : srcVal S d = some p) : ∃ a, v = .ref a ∧ (∃ xs, SqL K H a xs) ∧ Live K β H p a ∧ p.1.length ≤ sizeLine := by
  cases d with
  | tup es => exact absurd rfl (nt es)
  | str z => exact absurd rfl (ns z)
  | lst ds =>
    cases e
    simp only [Rep] at r
    obtain ⟨a, vs, rfl, ⟨n, n2, t⟩, z, r⟩ := r
    exact ⟨a, rfl, ⟨vs, SqL.of t⟩, fun β' H' S' x _ _ => ⟨vs, SqL.of (x.stay _ _ n t), r.ext x⟩, z⟩
  | fz ds =>
    cases e
    simp only [Rep] at r
    obtain ⟨a, vs, rfl, t, z, r⟩ := r
    exact ⟨a, rfl, ⟨vs, t.sq⟩, fun β' H' S' x _ _ => ⟨vs, (t.ext x).sq, r.ext x⟩, z⟩
  | ref l =>
    simp only [srcVal] at e
    split at e
    · rename_i ds q
      cases e
      obtain ⟨a, g, q1⟩ := s.cell l _ q
      simp only [Rep] at r
      obtain ⟨a', g', rfl⟩ := r
      rw [g] at g'; cases g'
      obtain ⟨vs, h1, z, _⟩ := q1
      refine ⟨a, rfl, ⟨vs, SqL.of h1⟩, fun β' H' S' x s' gd => ?_, z⟩
      obtain ⟨a2, g2, ws, h2, _, r2⟩ := s'.cell l _ gd
      rw [x.get g] at g2; cases g2
      exact ⟨ws, SqL.of h2, r2⟩
    · cases e
  | _ => simp [srcVal] at e
theorem wk_list {p : List D × Guard} {a : Addr} (l : Live K β H p a) (z : p.1.length ≤ sizeLine) : Wk K β H p (Itl K a) := by
  refine ⟨z, fun i β' H' S' x s g hi => ?_⟩
  obtain ⟨vs, hs, r⟩ := l β' H' S' x s g
  refine ⟨fun d hd => ?_, fun e => ⟨vs, hs, by rw [← r.length, e]; exact Nat.le_refl _⟩⟩
  obtain ⟨v, hv, rv⟩ := r.get hd
  refine ⟨⟨vs, v, hs, hv⟩, fun y H2 ⟨e, q⟩ => ?_⟩
  subst e
  have := q vs hs
  rw [hv] at this; cases this
  exact ⟨Ext.refl, s, rv⟩
theorem wk_tup {ds : List D} {a : Addr} {vs : List V} (t : TpAt K β H a vs) (r : Reps K β H ds vs) (z : ds.length ≤ sizeLine) : Wk K β H (ds, none) (Itt K a) := by
  refine ⟨z, fun i β' H' S' x s g hi => ?_⟩
  have hs := (t.ext x).sq
  have r := r.ext x
  refine ⟨fun d hd => ?_, fun e => ⟨vs, hs, by rw [← r.length]; exact Nat.le_of_eq e.symm⟩⟩
  obtain ⟨v, hv, rv⟩ := r.get hd
  refine ⟨⟨vs, v, hs, hv⟩, fun y H2 ⟨e, q⟩ => ?_⟩
  subst e
  have := q vs hs
  rw [hv] at this; cases this
  exact ⟨Ext.refl, s, rv⟩
theorem wk_str {z : Str} (hz : z.length ≤ sizeLine) : Wk K β H (z.cps.toList.map fun c => D.str ⟨#[c]⟩, none) (Its z) := by
  refine ⟨by rw [List.length_map]; exact hz, fun i β' H' S' x s g hi => ⟨fun d hd => ?_, fun e => ?_⟩⟩
  · rw [List.getElem?_map] at hd
    obtain ⟨c, hc, rfl⟩ := Option.map_eq_some_iff.mp hd
    have hc' : z.cps[i]? = some c := by simpa using hc
    refine ⟨(Array.getElem?_eq_some_iff.mp hc').1, fun y H2 ⟨e, c2, h1, h2⟩ => ?_⟩
    subst e
    rw [hc'] at h1; cases h1
    subst h2
    exact ⟨Ext.refl, s, str_rep (by show 1 ≤ sizeLine; decide)⟩
  · have : z.cps.size = i := by rw [e, List.length_map, Array.length_toList]
    exact Nat.le_of_eq this
theorem wk_rng {lo : Int} {n : Nat} (z : n ≤ sizeLine) : Wk K β H (rangeD lo n, none) (Itr lo n) := by
  have hl : (rangeD lo n).length = n := by simp [rangeD]
  refine ⟨by show (rangeD lo n).length ≤ _; rw [hl]; exact z, fun i β' H' S' x s g hi => ⟨fun d hd => ?_, fun e => ?_⟩⟩
  · have hin : i < n := by rw [← hl]; exact (List.getElem?_eq_some_iff.mp hd).1
    have hd' : d = .int (lo + (i : Nat)) := by
      have hd : (rangeD lo n)[i]? = some d := hd
      unfold rangeD at hd
      rw [List.getElem?_map, List.getElem?_range hin] at hd
      cases hd; rfl
    subst hd'
    exact ⟨hin, fun y H2 ⟨e, h⟩ => by subst e; subst h; exact ⟨Ext.refl, s, int_rep _⟩⟩
  · have e : i = (rangeD lo n).length := e
    rw [hl] at e
    exact Nat.le_of_eq e.symm
theorem enumFrom_get : ∀ (ds : List D) (n i : Nat), (enumFrom n ds)[i]? = ds[i]?.map fun d => .tup [.int (n + i : Nat), d]
  | [], n, i => by simp [enumFrom]
  | d :: ds, n, 0 => by simp [enumFrom]
  | d :: ds, n, i + 1 => by
    simp only [enumFrom, List.getElem?_cons_succ]
    rw [enumFrom_get ds (n + 1) i]
    congr 1
    funext e
    congr 3
    omega
theorem enumFrom_len : ∀ (ds : List D) (n : Nat), (enumFrom n ds).length = ds.length
  | [], _ => rfl
  | d :: ds, n => by simp [enumFrom, enumFrom_len ds (n + 1)]
theorem wk_enum {p : List D × Guard} {a : Addr} (l : Live K β H p a) (z : p.1.length ≤ sizeLine) : Wk K β H (enumFrom 0 p.1, p.2) (Ite K a) := by
  refine ⟨by show (enumFrom 0 p.1).length ≤ _; rw [enumFrom_len]; exact z, fun i β' H' S' x s g hi => ?_⟩
  obtain ⟨vs, hs, r⟩ := l β' H' S' x s g
  refine ⟨fun d hd => ?_, fun e => ⟨vs, hs, ?_⟩⟩
  · have hd : (enumFrom 0 p.1)[i]? = some d := hd
    rw [enumFrom_get] at hd
    obtain ⟨d1, h1, rfl⟩ := Option.map_eq_some_iff.mp hd
    obtain ⟨v, hv, rv⟩ := r.get h1
    refine ⟨⟨vs, v, hs, hv⟩, fun y H2 ⟨T, w, e1, hT, e2, q⟩ => ?_⟩
    subst e1; subst e2
    have := q vs hs
    rw [hv] at this; cases this
    obtain ⟨x2, s2, n⟩ := s.laid hT (.tup [.int (i : Nat), v])
    refine ⟨x2, s2, ?_⟩
    simp only [Rep]
    exact ⟨T, _, rfl, .inl ⟨n.1, .inl upd_same⟩, by show 2 ≤ sizeLine; decide, Reps.cons (by rw [Nat.zero_add]; exact int_rep _) (Reps.one (rv.ext x2))⟩
  · have e : i = (enumFrom 0 p.1).length := e
    rw [enumFrom_len] at e
    rw [← r.length, e]; exact Nat.le_refl _
end
section
variable {X : Cx} {e a b : Expr} {tg : Expr} {pos : Pos} {ra rb : Env → Store → R D}
theorem i_val (h : PE X e (RE X ra)) : PI X tg e (RI X fun ρ S => (ra ρ S).bind fun d S1 => give S1 (srcVal S1 d)) :=
  (PI.or (pi_list h) (PI.or (pi_tup h) (pi_str h))).cv fun σ H Q ⟨ρ, S, β, er, sr, g⟩ => by
    dsimp only at g
    cases e1 : ra ρ S with
    | stuck => rw [e1] at g; exact g.elim
    | exc x S1 =>
      refine .inl ⟨ρ, S, β, er, sr, ?_⟩
      rw [e1] at g ⊢
      exact g
    | ok d S1 =>
      rw [e1] at g
      have g : Go X.K (Wk X.K) NX β H (give S1 (srcVal S1 d)) Q := g
      obtain ⟨p, e2, g⟩ := Go.give g
      by_cases ht : ∃ es, d = .tup es
      · obtain ⟨es, rfl⟩ := ht
        cases e2
        refine .inr (.inl ⟨ρ, S, β, er, sr, ?_⟩)
        rw [e1]
        intro v β1 H1 x1 r1 s1
        simp only [Rep] at r1
        obtain ⟨a, vs, rfl, t, z, r⟩ := r1
        exact ⟨a, rfl, ⟨vs, t.sq⟩, g _ _ _ x1 (wk_tup t r z) s1⟩
      · by_cases hs : ∃ z, d = .str z
        · obtain ⟨z, rfl⟩ := hs
          cases e2
          refine .inr (.inr ⟨ρ, S, β, er, sr, ?_⟩)
          rw [e1]
          intro v β1 H1 x1 r1 s1
          obtain ⟨rfl, hz⟩ := rep_str r1
          exact ⟨z, rfl, g _ _ _ x1 (wk_str hz) s1⟩
        · refine .inl ⟨ρ, S, β, er, sr, ?_⟩
          rw [e1]
          intro v β1 H1 x1 r1 s1
          obtain ⟨a, rfl, hx, hl, hz⟩ := live_of s1 r1 (fun es q => ht ⟨es, q⟩) (fun z q => hs ⟨z, q⟩) e2
          exact ⟨a, rfl, hx, g _ _ _ x1 (wk_list hl hz) s1⟩
theorem smallI_ok {i : Int} (h : smallI i = true) : -(2 ^ 62) ≤ i ∧ i < 2 ^ 62 := of_decide_eq_true h
theorem i_rng1 {p : Pos} (hg : Gl X "range") (hm : X.mg "range" = none) {rs : Env → Store → R (List D)} (h : PA X [a] (RA X rs)) (n : isStar a = false) (hl : ∀ ρ S ds S1, rs ρ S = .ok ds S1 → ds.length = 1) :
    PI X tg (.Call (.Name "range" p) [a] [] pos) (RI X fun ρ S => (rs ρ S).bind fun ds S1 => give S1 ((srcRng ds).map fun is => (is, none))) :=
  (pi_range1 hg hm h (star_cons n)).cv fun σ H Q ⟨ρ, S, β, er, sr, g⟩ => ⟨ρ, S, β, er, sr, by
    dsimp only at g
    cases e1 : rs ρ S with
    | stuck => rw [e1] at g; exact g.elim
    | exc x S1 => rw [e1] at g; exact g
    | ok ds S1 =>
      rw [e1] at g
      intro vs β1 H1 x1 r1 s1
      have g : Go X.K (Wk X.K) NX β H (give S1 ((srcRng ds).map fun is => (is, none))) Q := g
      obtain ⟨q, e2, g⟩ := Go.give g
      obtain ⟨is, e3, rfl⟩ := Option.map_eq_some_iff.mp e2
      have hl := hl _ _ _ _ e1
      unfold srcRng at e3
      split at e3
      · rename_i j
        split at e3
        · rename_i c
          cases e3
          obtain ⟨v, rfl, r2⟩ := reps1 r1
          obtain ⟨c1, c2⟩ := smallI_ok c.1
          exact ⟨_, by rw [rep_int r2], c1, c2, g _ _ _ x1 (wk_rng c.2) s1⟩
        · cases e3
      · simp at hl
      · cases e3⟩
theorem i_rng2 {p : Pos} (hg : Gl X "range") (hm : X.mg "range" = none) {rs : Env → Store → R (List D)} (h : PA X [a, b] (RA X rs)) (n : isStar a = false) (n2 : isStar b = false) (hl : ∀ ρ S ds S1, rs ρ S = .ok ds S1 → ds.length = 2) :
    PI X tg (.Call (.Name "range" p) [a, b] [] pos) (RI X fun ρ S => (rs ρ S).bind fun ds S1 => give S1 ((srcRng ds).map fun is => (is, none))) :=
  (pi_range2 hg hm h (by rw [star_cons n, star_cons n2]; rfl) (by rw [star_cons n2]; rfl)).cv fun σ H Q ⟨ρ, S, β, er, sr, g⟩ => ⟨ρ, S, β, er, sr, by
    dsimp only at g
    cases e1 : rs ρ S with
    | stuck => rw [e1] at g; exact g.elim
    | exc x S1 => rw [e1] at g; exact g
    | ok ds S1 =>
      rw [e1] at g
      intro vs β1 H1 x1 r1 s1
      have g : Go X.K (Wk X.K) NX β H (give S1 ((srcRng ds).map fun is => (is, none))) Q := g
      obtain ⟨q, e2, g⟩ := Go.give g
      obtain ⟨is, e3, rfl⟩ := Option.map_eq_some_iff.mp e2
      have hl := hl _ _ _ _ e1
      unfold srcRng at e3
      split at e3
      · simp at hl
      · rename_i i j
        split at e3
        · rename_i c
          cases e3
          obtain ⟨v, w, rfl, r2, r3⟩ := reps2 r1
          obtain ⟨c1, c2⟩ := smallI_ok c.1
          obtain ⟨c3, c4⟩ := smallI_ok c.2.1
          exact ⟨_, _, by rw [rep_int r2, rep_int r3], ⟨c1, c2, c3, c4⟩, g _ _ _ x1 (wk_rng c.2.2) s1⟩
        · cases e3
      · cases e3⟩
theorem i_enum {p tpos : Pos} {elts : List Expr} {kk : Nat} (hg : Gl X "enumerate") (hm : X.mg "enumerate" = none) (h : PE X a (RE X ra)) (n : isStar a = false) :
    PI X (.Tuple elts kk tpos) (.Call (.Name "enumerate" p) [a] [] pos) (RI X fun ρ S => (ra ρ S).bind fun d S1 => give S1 (srcEnum S1 d)) :=
  (pi_enum hg hm (a_cons h a_nil n) (star_cons n)).cv fun σ H Q ⟨ρ, S, β, er, sr, g⟩ => ⟨ρ, S, β, er, sr, by
    dsimp only at g ⊢
    cases e1 : ra ρ S with
    | stuck => rw [e1] at g; exact g.elim
    | exc x S1 => rw [e1] at g; exact g
    | ok d S1 =>
      rw [e1] at g
      intro vs β1 H1 x1 r1 s1
      have g : Go X.K (Wk X.K) NX β H (give S1 (srcEnum S1 d)) Q := g
      obtain ⟨q, e2, g⟩ := Go.give g
      obtain ⟨v, rfl, r2⟩ := reps1 r1
      have e3 : (∀ es, d ≠ .tup es) ∧ (∀ z, d ≠ .str z) ∧ ∃ p, srcVal S1 d = some p ∧ q = (enumFrom 0 p.1, p.2) := by
        unfold srcEnum at e2
        split at e2
        · cases e2
        · cases e2
        · rename_i n1 n2
          obtain ⟨p, e4, e5⟩ := Option.map_eq_some_iff.mp e2
          exact ⟨fun es q => n1 es q, fun z q => n2 z q, p, e4, e5.symm⟩
      obtain ⟨nt, ns, p, e4, rfl⟩ := e3
      obtain ⟨a, rfl, ⟨xs, hx⟩, hl, hz⟩ := live_of s1 r2 nt ns e4
      exact ⟨a, xs, rfl, hx, g _ _ _ x1 (wk_enum hl hz) s1⟩⟩
theorem zip_get {α β γ : Type} (f : α → β → γ) : ∀ (xs : List α) (ys : List β) (i : Nat) (z : γ), (List.zipWith f xs ys)[i]? = some z → ∃ x y, xs[i]? = some x ∧ ys[i]? = some y ∧ z = f x y
  | [], _, _, _, h => by simp at h
  | _ :: _, [], _, _, h => by simp at h
  | x :: xs, y :: ys, 0, z, h => by simp at h; exact ⟨x, y, rfl, rfl, h.symm⟩
  | x :: xs, y :: ys, i + 1, z, h => by simpa using zip_get f xs ys i z (by simpa using h)
theorem wk_zipT {K : PySem.W.Frag} {β : Bk} {H : Hp} {xs ys : List D} {a b : Addr} {vs ws : List V} (t1 : TpAt K β H a vs) (t2 : TpAt K β H b ws) (r1 : Reps K β H xs vs) (r2 : Reps K β H ys ws) (z : xs.length ≤ sizeLine) :
    Wk K β H (List.zipWith (fun x y => D.tup [x, y]) xs ys, none) (RZ.ItzT K a b) := by
  have hl : (List.zipWith (fun x y => D.tup [x, y]) xs ys).length = min xs.length ys.length := List.length_zipWith
  refine ⟨by show (List.zipWith _ xs ys).length ≤ _; rw [hl]; exact Nat.le_trans (Nat.min_le_left _ _) z, fun i β' H' S' x s g hi => ⟨fun d hd => ?_, fun e => ?_⟩⟩
  · obtain ⟨p, q, h1, h2, rfl⟩ := zip_get _ xs ys i d hd
    obtain ⟨v, hv, rv⟩ := r1.get h1
    obtain ⟨w, hw, rw'⟩ := r2.get h2
    refine ⟨⟨vs, ws, v, w, (t1.ext x).sq, (t2.ext x).sq, hv, hw⟩, fun y H2 ⟨T, v', w', e1, hT, e2, q1, q2⟩ => ?_⟩
    subst e1; subst e2
    have e3 := q1 vs (t1.ext x).sq
    have e4 := q2 ws (t2.ext x).sq
    rw [hv] at e3; rw [hw] at e4
    cases e3; cases e4
    obtain ⟨x2, s2, n⟩ := s.laid hT (.tup [v, w])
    refine ⟨x2, s2, ?_⟩
    simp only [Rep]
    exact ⟨T, _, rfl, .inl ⟨n.1, .inl upd_same⟩, by show 2 ≤ sizeLine; decide, Reps.cons ((rv.ext x).ext x2) (Reps.one ((rw'.ext x).ext x2))⟩
  · have e : i = (List.zipWith (fun x y => D.tup [x, y]) xs ys).length := e
    rw [hl] at e
    refine ⟨vs, ws, (t1.ext x).sq, (t2.ext x).sq, ?_⟩
    rw [← r1.length, ← r2.length]
    omega
/-- a list that is not in the store -/
theorem inl_of {K : PySem.W.Frag} {β : Bk} {H : Hp} {ds : List D} {v : V} (r : Rep K β H (.lst ds) v) : ∃ a vs, v = .ref a ∧ (∀ β' H', Ext β H β' H' → SqL K H' a vs ∧ Reps K β' H' ds vs) ∧ ds.length ≤ sizeLine := by
  simp only [Rep] at r
  obtain ⟨a, vs, rfl, ⟨n, n2, t⟩, z, r⟩ := r
  exact ⟨a, vs, rfl, fun β' H' x => ⟨SqL.of (x.stay _ _ n t), r.ext x⟩, z⟩
theorem wk_zipL {K : PySem.W.Frag} {β : Bk} {H : Hp} {xs ys : List D} {a b : Addr} {vs ws : List V} (t1 : ∀ β' H', Ext β H β' H' → SqL K H' a vs ∧ Reps K β' H' xs vs) (t2 : ∀ β' H', Ext β H β' H' → SqL K H' b ws ∧ Reps K β' H' ys ws) (z : xs.length ≤ sizeLine) :
    Wk K β H (List.zipWith (fun x y => D.tup [x, y]) xs ys, none) (Itz K a b) := by
  have hl : (List.zipWith (fun x y => D.tup [x, y]) xs ys).length = min xs.length ys.length := List.length_zipWith
  refine ⟨by show (List.zipWith _ xs ys).length ≤ _; rw [hl]; exact Nat.le_trans (Nat.min_le_left _ _) z, fun i β' H' S' x s g hi => ⟨fun d hd => ?_, fun e => ?_⟩⟩
  · obtain ⟨p, q, h1, h2, rfl⟩ := zip_get _ xs ys i d hd
    obtain ⟨s1, r1⟩ := t1 _ _ x
    obtain ⟨s2, r2⟩ := t2 _ _ x
    obtain ⟨v, hv, rv⟩ := r1.get h1
    obtain ⟨w, hw, rw'⟩ := r2.get h2
    refine ⟨⟨vs, ws, v, w, s1, s2, hv, hw⟩, fun y H2 ⟨T, v', w', e1, hT, e2, q1, q2⟩ => ?_⟩
    subst e1; subst e2
    have e3 := q1 vs s1
    have e4 := q2 ws s2
    rw [hv] at e3; rw [hw] at e4
    cases e3; cases e4
    obtain ⟨x2, s2, n⟩ := s.laid hT (.tup [v, w])
    refine ⟨x2, s2, ?_⟩
    simp only [Rep]
    exact ⟨T, _, rfl, .inl ⟨n.1, .inl upd_same⟩, by show 2 ≤ sizeLine; decide, Reps.cons (rv.ext x2) (Reps.one (rw'.ext x2))⟩
  · obtain ⟨s1, r1⟩ := t1 _ _ x
    obtain ⟨s2, r2⟩ := t2 _ _ x
    have e : i = (List.zipWith (fun x y => D.tup [x, y]) xs ys).length := e
    rw [hl] at e
    refine ⟨vs, ws, s1, s2, ?_⟩
    rw [← r1.length, ← r2.length]
    omega
theorem i_zip {p tpos : Pos} {elts : List Expr} {kk : Nat} (hg : Gl X "zip") (hm : X.mg "zip" = none) (ha : PE X a (RE X ra)) (hb : PE X b (RE X rb)) (n : isStar a = false) (n2 : isStar b = false) :
    PI X (.Tuple elts kk tpos) (.Call (.Name "zip" p) [a, b] [] pos) (RI X fun ρ S => (ra ρ S).bind fun d S1 => (rb ρ S1).bind fun e S2 => match d, e with
    | .tup xs, .tup ys => .ok (List.zipWith (fun x y => .tup [x, y]) xs ys, none) S2
    | .lst xs, .lst ys => .ok (List.zipWith (fun x y => .tup [x, y]) xs ys, none) S2
    | _, _ => .stuck) :=
  (RZ.pi_zipA hg hm (pa_cons ha (pa_cons hb pa_nil (star_cons n2)) (star_cons n)) (star_cons n) (by rw [star_cons n2]; rfl)).cv fun σ H Q ⟨ρ, S, β, er, sr, g⟩ => ⟨ρ, S, β, er, sr,
    (Go.bind (Rp := Rep X.K) g).mono fun x H1 ⟨β1, S1, d, x1, r1, s1, g1⟩ => ⟨ρ, S1, β1, er.ext x1, s1, (Go.bind (Rp := Rep X.K) g1).mono fun y H2 ⟨β2, S2, e, x2, r2, s2, g2⟩ => by
      dsimp only at g2
      split at g2
      · have r1 := r1.ext x2
        simp only [Rep] at r1 r2
        obtain ⟨a, vs, rfl, t1, z1, r1⟩ := r1
        obtain ⟨b, ws, rfl, t2, z2, r2⟩ := r2
        exact ⟨a, b, vs, ws, rfl, .inr ⟨t1.sq, t2.sq, Go.same g2 (wk_zipT t1 t2 r1 r2 z1) s2⟩⟩
      · obtain ⟨a, vs, rfl, t1, z1⟩ := inl_of (r1.ext x2)
        obtain ⟨b, ws, rfl, t2, z2⟩ := inl_of r2
        exact ⟨a, b, vs, ws, rfl, .inl ⟨(t1 _ _ Ext.refl).1, (t2 _ _ Ext.refl).1, Go.same g2 (wk_zipL t1 t2 z1) s2⟩⟩
      · exact g2.elim⟩⟩
end

/-! ### targets -/
theorem wipe_set {σ : St} {i : Nat} {x : Option V} : ∀ (vs : List Nat), (wipe (σ.set i x) vs).set i none = (wipe σ vs).set i none
  | [] => by simp [wipe]
  | v :: vs => by
    simp only [wipe]
    by_cases e : v = i
    · subst e
      rw [List.set_set, List.set_set, wipe_set vs]
    · rw [List.set_comm _ _ e, wipe_set vs, List.set_comm _ _ e]
theorem wipe_in {σ : St} {i : Nat} {x : Option V} : ∀ {vs : List Nat}, i ∈ vs → wipe (σ.set i x) vs = wipe σ vs
  | [], h => by simp at h
  | v :: vs, h => by
    simp only [wipe]
    by_cases e : v = i
    · subst e; exact wipe_set vs
    · rw [wipe_in (show i ∈ vs from (List.mem_cons.mp h).resolve_left fun q => e q.symm)]
/-- behind a target: the new slots; what is wiped with the target's slots is as it was -/
def RpT (K : PySem.W.Frag) (sl : List Nat) (σ0 : St) : Bk → Hp → Env → St → Prop := fun β H ρ σ => ERel K β H ρ σ ∧ ∀ vs, (∀ i ∈ sl, i ∈ vs) → wipe σ vs = wipe σ0 vs
def RG (X : Cx) (sl : List Nat) (r : D → Env → Store → R Env) : TG := fun v σ H Q => ∃ d ρ S β, Rep X.K β H d v ∧ ERel X.K β H ρ σ ∧ SRel X.K β H S ∧ Go X.K (RpT X.K sl σ) NX β H (r d ρ S) Q
def RGs (X : Cx) (sl : List Nat) (r : List D → Env → Store → R Env) : TGs := fun vs σ H Q => ∃ ds ρ S β, Reps X.K β H ds vs ∧ ERel X.K β H ρ σ ∧ SRel X.K β H S ∧ Go X.K (RpT X.K sl σ) NX β H (r ds ρ S) Q
theorem _root_.L2.PG.cv {X : Cx} {e : Expr} {t t' : TG} (h : PG X e t) (c : ∀ v σ H Q, t' v σ H Q → t v σ H Q) : PG X e t' := ⟨fun pins s σ H v u Q I r w => h.run pins s σ H v u Q I r (c v σ H Q w)⟩
theorem _root_.L2.PGs.cv {X : Cx} {e : List Expr} {t t' : TGs} (h : PGs X e t) (c : ∀ v σ H Q, t' v σ H Q → t v σ H Q) : PGs X e t' := ⟨fun pins s σ H v u Q I r w => h.run pins s σ H v u Q I r (c v σ H Q w)⟩
theorem ERel.set {K : PySem.W.Frag} {β : Bk} {H : Hp} {ρ : Env} {σ : St} (h : ERel K β H ρ σ) {d : D} {v : V} (r : Rep K β H d v) (i : Nat) : ERel K β H (ρ.set i (some d)) (σ.set i (some v)) := by
  refine ⟨by simp [h.len], fun j e q => ?_⟩
  by_cases hj : i = j
  · subst hj
    by_cases hi : i < ρ.length
    · rw [List.getElem?_set_self hi] at q
      cases q
      exact ⟨v, by rw [List.getElem?_set_self (by rw [← h.len]; exact hi)], r⟩
    · rw [List.getElem?_eq_none (by simp; omega)] at q; cases q
  · rw [List.getElem?_set_ne hj] at q ⊢
    exact h.at_ j e q
section
variable {X : Cx} {e o i : Expr} {pos : Pos} {ro ri : Env → Store → R D}
theorem p_var {j : Nat} {x : Str} (hN : X.N.Nodup) (hi : X.N[j]? = some x) (hx : Loc X.env.scope x) (hf : X.fn x = true ∨ X.env.scope.names.lookup x = some .local) :
    PG X (.Name x pos) (RG X [j] fun d ρ S => if j < ρ.length then .ok (ρ.set j (some d)) S else .stuck) :=
  (pg_name hN hi hx hf).cv fun v σ H Q ⟨d, ρ, S, β, rv, er, sr, g⟩ => by
    dsimp only at g
    split at g
    · exact Go.same (t := σ.set j (some v)) g ⟨er.set rv j, fun vs h => wipe_in (h j (List.mem_singleton.mpr rfl))⟩ sr
    · exact g.elim
theorem p_sub (ho : PE X o (RE X ro)) (hi : PE X i (RE X ri)) (hs : isSlice i = false) :
    PG X (.Subscript o i pos) (RG X [] fun d ρ S => (ro ρ S).bind fun x S1 => (ri ρ S1).bind fun y S2 => match x, y with
    | .ref l, .int k => (match S2[l]? with
      | some (.lst ds) => (match L2.ixN ds.length k with
        | some j => .ok ρ (S2.set l (.lst (ds.set j d)))
        | none => .stuck)
      | _ => .stuck)
    | _, _ => .stuck) :=
  (pg_sub ho hi set_list (by intro v; cases i <;> first | rfl | (simp [isSlice] at hs))).cv fun v σ H Q ⟨d, ρ, S, β, rv, er, sr, g⟩ =>
    ⟨ρ, S, β, er, sr, (Go.bind (Rp := Rep X.K) g).mono fun x H1 ⟨β1, S1, p, x1, r1, s1, g1⟩ => ⟨ρ, S1, β1, er.ext x1, s1, (Go.bind (Rp := Rep X.K) g1).mono fun y H2 ⟨β2, S2, q, x2, r2, s2, g2⟩ => by
      dsimp only at g2
      split at g2
      · split at g2
        · rename_i ds c
          split at g2
          · rename_i j hj
            have r1 := r1.ext x2
            simp only [Rep] at r1
            obtain ⟨a, ga, rfl⟩ := r1
            obtain ⟨a', ga', vs, ha, z, r3⟩ := s2.cell _ _ c
            rw [ga] at ga'; cases ga'
            obtain ⟨x3, s3⟩ := s2.write ga (ds := ds.set j d) (vs := vs.set j v) (by rw [List.length_set]; exact z) (r3.set j ((rv.ext x1).ext x2))
            exact ⟨a, vs, _, j, rfl, rep_int r2, ha, by rw [← r3.length]; exact hj, g2 σ _ _ x3 ⟨((er.ext x1).ext x2).ext x3, fun _ _ => rfl⟩ s3⟩
          · exact g2.elim
        · exact g2.elim
      · exact g2.elim⟩⟩
theorem ps_nil : PGs X [] (RGs X [] fun ds ρ S => match ds with
    | [] => .ok ρ S
    | _ => .stuck) := pgs_nil.cv fun v σ H Q ⟨ds, ρ, S, β, rv, er, sr, g⟩ => by
  dsimp only at g
  split at g
  · exact ⟨rv.unnil, Go.same (t := σ) g ⟨er, fun _ _ => rfl⟩ sr⟩
  · exact g.elim
theorem ps_cons {es : List Expr} {sl sls : List Nat} {rt : D → Env → Store → R Env} {rs : List D → Env → Store → R Env} (h : PG X e (RG X sl rt)) (hs : PGs X es (RGs X sls rs)) (n : isStar e = false) :
    PGs X (e :: es) (RGs X (sl ++ sls) fun ds ρ S => match ds with
    | d :: ds => (rt d ρ S).bind fun ρ1 S1 => rs ds ρ1 S1
    | [] => .stuck) := (pgs_cons h hs (by cases e <;> first | rfl | (simp [isStar] at n))).cv fun v σ H Q ⟨ds, ρ, S, β, rv, er, sr, g⟩ => by
  dsimp only at g
  split at g
  · rename_i d dr
    obtain ⟨w, wr, rfl, r1, r2⟩ := rv.uncons
    refine ⟨w, wr, rfl, d, ρ, S, β, r1, er, sr, ?_⟩
    refine (Go.bind (Rp := RpT X.K sl σ) g).mono fun σ1 H1 ⟨β1, S1, ρ1, x1, ⟨e1, w1⟩, s1, g1⟩ => ⟨dr, ρ1, S1, β1, r2.ext x1, e1, s1, ?_⟩
    have g1 : Go X.K (RpT X.K (sl ++ sls) σ) NX β1 H1 (rs dr ρ1 S1) Q := g1
    cases q : rs dr ρ1 S1 with
    | stuck => rw [q] at g1; exact g1.elim
    | exc _ _ => rw [q] at g1; exact g1
    | ok ρ2 S2 =>
      rw [q] at g1
      intro σ2 β2 H2 x2 ⟨e2, w2⟩ s2
      exact g1 σ2 β2 H2 x2 ⟨e2, fun vs hv => (w2 vs fun i hi => hv i (List.mem_append_right _ hi)).trans (w1 vs fun i hi => hv i (List.mem_append_left _ hi))⟩ s2
  · exact g.elim
theorem each_len : ∀ (es : List Expr) (env : PySem.Env), (assignEach es env).length = es.length
  | [], _ => rfl
  | e :: es, env => by
    cases e <;> (show (assignEach es env).length + 1 = es.length + 1; rw [each_len es env])
theorem each_none : ∀ {es : List Expr} {env : PySem.Env}, noStar es = true → (assignEach es env).findIdx? (·.1) = none
  | [], _, _ => rfl
  | e :: es, env, h => by
    simp only [noStar, List.all_cons, Bool.and_eq_true, Bool.not_eq_true'] at h
    have ih := each_none (es := es) (env := env) (by simpa [noStar] using h.2)
    have hh : ∃ t, assignEach (e :: es) env = (false, t) :: assignEach es env := by
      cases e <;> first | exact ⟨_, rfl⟩ | (simp [isStar] at h)
    obtain ⟨t, hh⟩ := hh
    rw [hh, List.findIdx?_cons]
    simp [ih]
theorem p_tup {es : List Expr} {k m : Nat} {sl : List Nat} {rs : List D → Env → Store → R Env} (hc : X.calm = true) (h : PGs X es (RGs X sl rs)) (n : noStar es = true) (hm : m = es.length) :
    PG X (.Tuple es k pos) (RG X sl fun d ρ S => match d with
    | .tup ds => if ds.length = m then rs ds ρ S else .stuck
    | _ => .stuck) := (pg_tup (n := es.length) hc h (each_len es _) (each_none n)).cv fun v σ H Q ⟨d, ρ, S, β, rv, er, sr, g⟩ => by
  dsimp only at g
  split at g
  · rename_i ds
    split at g
    · rename_i hl
      obtain ⟨a, vs, rfl, t, z, r⟩ := rep_tup rv
      exact ⟨a, vs, rfl, t, by rw [← r.length, hl, hm], ds, ρ, S, β, r, er, sr, g⟩
    · exact g.elim
  · exact g.elim
end
end Pyx
end
section
/-! Comprehensions and statements. -/
namespace Pyx
open PySem L2
section
variable {α α' τ τ' : Type} {K : PySem.W.Frag} {Rp : Bk → Hp → α → τ → Prop} {Rq : Bk → Hp → α' → τ' → Prop} {β β0 : Bk} {H H0 : Hp}
/-- what stands behind the first of two steps, the end as it was wanted at first -/
theorem Go.bindB {r : R α} {f : α → Store → R α'} {Q : τ' → Hp → Prop} (x0 : Ext β0 H0 β H) (h : Go K Rq NX β0 H0 (r.bind f) Q) :
    Go K Rp NX β H r fun t H1 => ∃ β1 S1 a, Ext β H β1 H1 ∧ Rp β1 H1 a t ∧ SRel K β1 H1 S1 ∧ Go K Rq NX β0 H0 (f a S1) Q := by
  cases r with
  | ok a S' => exact fun t b c x y z => ⟨b, S', a, x, y, z, h⟩
  | exc e S' => exact fun b c x s => h b c (x0.trans x) s
  | stuck => exact h
end
theorem wipe_wipe {σ : St} {vs : List Nat} : wipe (wipe σ vs) vs = wipe σ vs := by
  have h : ∀ (us : List Nat) (τ : St), (∀ i ∈ us, (∀ x, τ[i]? = some x → x = none)) → wipe τ us = τ := fun us => by
    induction us with
    | nil => intro τ _; rfl
    | cons u us ih =>
      intro τ ht
      simp only [wipe]
      rw [ih τ fun i hi => ht i (List.mem_cons_of_mem _ hi)]
      refine List.ext_getElem? fun j => ?_
      by_cases e : u = j
      · subst e
        by_cases l : u < τ.length
        · rw [List.getElem?_set_self l]
          have := ht u (List.mem_cons_self ..) τ[u] (by simp [l])
          simp [l, this]
        · rw [List.getElem?_eq_none (by simp; omega), List.getElem?_eq_none (by omega)]
      · rw [List.getElem?_set_ne e]
  refine h vs _ fun i hi x hx => ?_
  cases x with
  | none => rfl
  | some v => exact absurd hi (wipe_some (σ := σ) hx).2
theorem ERel.wipe {K : PySem.W.Frag} {β : Bk} {H : Hp} {ρ : Env} {σ : St} (h : ERel K β H ρ σ) : ∀ (vs : List Nat), ERel K β H (wipeE ρ vs) (L2.wipe σ vs)
  | [] => h
  | v :: vs => by
    have ih := ERel.wipe h vs
    refine ⟨by simp [wipeE, L2.wipe, ih.len], fun j d q => ?_⟩
    simp only [wipeE, L2.wipe] at q ⊢
    by_cases e : v = j
    · subst e
      by_cases l : v < (wipeE ρ vs).length
      · rw [List.getElem?_set_self l] at q; cases q
      · rw [List.getElem?_eq_none (by simp; omega)] at q; cases q
    · rw [List.getElem?_set_ne e] at q ⊢
      exact ih.at_ j d q
/-- a comprehension's turn -/
def turnC (rt : D → Env → Store → R Env) (rc : Env → Store → R Bool) (re : Env → Store → R D) (ρ : Env) (x : D) (S : Store) : R (List D) :=
  (rt x ρ S).bind fun ρ1 S3 => (rc ρ1 S3).bind fun b S4 => if b then (re ρ1 S4).bind fun y S5 => .ok [y] S5 else .ok [] S4
theorem lc_go {K : PySem.W.Frag} {rs : Env → Store → R (List D × Guard)} {rt : D → Env → Store → R Env} {rc : Env → Store → R Bool} {re : Env → Store → R D} {vs sl : List Nat} {m : Bool} {g : TG} (hsl : ∀ i ∈ sl, i ∈ vs)
    (hg : ∀ v σ H Q, (∃ d ρ S β, Rep K β H d v ∧ ERel K β H ρ σ ∧ SRel K β H S ∧ Go K (RpT K sl σ) NX β H (rt d ρ S) Q) → g v σ H Q) {σ : St} {H : Hp} {Q : V → Hp → Prop}
    (h : Rg K (Rep K) (fun ρ S => (rs ρ S).bind fun p S1 => (compGo p.2 (turnC rt rc re (wipeE ρ vs)) p.1 S1).bind (mkL m)) σ H Q) :
    tLc (Rg K (Wk K) rs) g (Rg K Is rc) (Rg K (Rep K) re) vs σ H Q := by
  obtain ⟨ρ, S, β, er, sr, g0⟩ := h
  refine ⟨ρ, S, β, er, sr, (Go.bind (Rp := Wk K) g0).mono fun J H1 ⟨β1, S1, p, x1, wk, s1, g1⟩ => fun D hD => ?_⟩
  obtain ⟨z, wk⟩ := wk
  refine ⟨fun i mm H' => mm = p.1.length - i ∧ i ≤ p.1.length ∧ ∃ β' S' dacc acc, Ext β1 H1 β' H' ∧ D ∈ β'.z ∧ SRel K β' H' S' ∧ H' D = some (.lst acc) ∧ Reps K β' H' dacc acc ∧ dacc.length ≤ i ∧ ERel K β' H' (wipeE ρ vs) (wipe σ vs) ∧
    Go K (Rep K) NX β1 H1 ((compGo p.2 (turnC rt rc re (wipeE ρ vs)) (p.1.drop i) S').bind fun zs S2 => mkL m (dacc ++ zs) S2) Q, ⟨p.1.length, by simp, Nat.zero_le _, ?_⟩, ?_⟩
  · refine ⟨β1.hide D, S1, [], [], Ext.hide hD, List.mem_cons_self .., s1.hide hD, upd_same, Reps.nil, Nat.le_refl _, ((er.ext x1).ext (Ext.hide hD)).wipe vs, ?_⟩
    have e : (fun zs S2 => mkL m ([] ++ zs) S2) = mkL m := rfl
    rw [e]; exact g1
  · rintro i mm H' ⟨rfl, hi, β', S', dacc, acc, x2, mz, s2, hacc, ra, la, e2, g2⟩
    have nb : D ∉ β'.b := (s2.out D mz).1
    by_cases hlt : i < p.1.length
    · have hdrop : p.1.drop i = p.1[i] :: p.1.drop (i + 1) := List.drop_eq_getElem_cons hlt
      rw [hdrop] at g2
      simp only [compGo] at g2
      by_cases gd : p.2.ok S'
      · rw [if_pos gd] at g2
        obtain ⟨w1, _⟩ := wk i β' H' S' x2 s2 gd hi
        obtain ⟨go, yl⟩ := w1 p.1[i] (by simp [hlt])
        refine .inr ⟨go, _, fun H2 w => ⟨_, Nat.sub_lt_sub_left hlt (Nat.lt_succ_self i), rfl, hlt, w⟩, fun x H2 y => ?_⟩
        obtain ⟨x3, s3, r3⟩ := yl x H2 y
        refine hg _ _ _ _ ⟨p.1[i], wipeE ρ vs, S', β', r3, e2.ext x3, s3, ?_⟩
        have g2 : Go K (Rep K) NX β1 H1 ((rt p.1[i] (wipeE ρ vs) S').bind fun ρ1 S3 => (rc ρ1 S3).bind fun b S4 => (if b then (re ρ1 S4).bind fun y S5 => .ok [y] S5 else .ok [] S4).bind fun a S =>
            ((compGo p.2 (turnC rt rc re (wipeE ρ vs)) (p.1.drop (i + 1)) S).bind fun zs S2 => .ok (a ++ zs) S2).bind fun zs S2 => mkL m (dacc ++ zs) S2) Q := by
          have e : ((rt p.1[i] (wipeE ρ vs) S').bind fun ρ1 S3 => (rc ρ1 S3).bind fun b S4 => (if b then (re ρ1 S4).bind fun y S5 => .ok [y] S5 else .ok [] S4).bind fun a S =>
            ((compGo p.2 (turnC rt rc re (wipeE ρ vs)) (p.1.drop (i + 1)) S).bind fun zs S2 => .ok (a ++ zs) S2).bind fun zs S2 => mkL m (dacc ++ zs) S2) =
            ((turnC rt rc re (wipeE ρ vs) p.1[i] S').bind fun a S => (compGo p.2 (turnC rt rc re (wipeE ρ vs)) (p.1.drop (i + 1)) S).bind fun zs S2 => .ok (a ++ zs) S2).bind fun zs S2 => mkL m (dacc ++ zs) S2 := by
            rw [R.bind_assoc]
            have e2 : turnC rt rc re (wipeE ρ vs) p.1[i] S' = (rt p.1[i] (wipeE ρ vs) S').bind fun ρ1 S3 => (rc ρ1 S3).bind fun b S4 => if b then (re ρ1 S4).bind fun y S5 => .ok [y] S5 else .ok [] S4 := rfl
            rw [e2, R.bind_assoc]
            refine R.bind_congr fun ρ1 S3 => ?_
            rw [R.bind_assoc]
          rw [e]; exact g2
        refine (Go.bindB (Rp := RpT K sl (wipe σ vs)) (x2.trans x3) g2).mono fun σ3 H3 ⟨β3, S3, ρ3, x4, ⟨e4, w4⟩, s4, g4⟩ => ⟨?_, ?_⟩
        · have := w4 vs hsl
          rw [wipe_wipe] at this
          exact this
        · have x23 := (x2.trans x3).trans x4
          have wipes : ERel K β' H2 (wipeE ρ vs) (wipe σ vs) := e2.ext x3
          refine ⟨ρ3, S3, β3, e4, s4, (Go.bindB (Rp := Is) x23 g4).mono fun b H4 ⟨β4, S4, b', x5, eb, s5, g5⟩ => ?_⟩
          have eb : b' = b := eb
          subst eb
          have k1 : Ext β' H' β4 H4 := (x3.trans x4).trans x5
          cases b' with
          | false =>
            refine iteF ⟨β4, S4, dacc, acc, x2.trans k1, k1.hid _ mz, s5, k1.stay _ _ nb hacc, ra.ext k1, Nat.le_succ_of_le la, e2.ext k1, ?_⟩
            have g5 : Go K (Rep K) NX β1 H1 (((R.ok [] S4).bind fun ys S1 => (compGo p.2 (turnC rt rc re (wipeE ρ vs)) (p.1.drop (i + 1)) S1).bind fun zs S2 => .ok (ys ++ zs) S2).bind fun zs S2 => mkL m (dacc ++ zs) S2) Q := by
              rw [R.bind_assoc]; exact g5
            simp only [R.bind_ok, List.nil_append, R.bind_assoc] at g5
            exact g5
          | true =>
            refine iteT ⟨ρ3, S4, β4, e4.ext x5, s5, ?_⟩
            have g5 : Go K (Rep K) NX β1 H1 ((re ρ3 S4).bind fun y S5 => (compGo p.2 (turnC rt rc re (wipeE ρ vs)) (p.1.drop (i + 1)) S5).bind fun zs S2 => mkL m ((dacc ++ [y]) ++ zs) S2) Q := by
              have e : ((re ρ3 S4).bind fun y S5 => (compGo p.2 (turnC rt rc re (wipeE ρ vs)) (p.1.drop (i + 1)) S5).bind fun zs S2 => mkL m ((dacc ++ [y]) ++ zs) S2) =
                  ((re ρ3 S4).bind fun y S5 => R.ok [y] S5).bind fun a S => ((compGo p.2 (turnC rt rc re (wipeE ρ vs)) (p.1.drop (i + 1)) S).bind fun zs S2 => .ok (a ++ zs) S2).bind fun zs S2 => mkL m (dacc ++ zs) S2 := by
                rw [R.bind_assoc]
                refine R.bind_congr fun y S5 => ?_
                simp only [R.bind_ok, R.bind_assoc, List.append_assoc]
              rw [e]; exact g5
            refine (Go.bindB (Rp := Rep K) (x2.trans k1) g5).mono fun y H5 ⟨β5, S5, dy, x6, ry, s6, g6⟩ => ?_
            have k2 : Ext β' H' β5 H5 := k1.trans x6
            have hD5 : H5 D = some (.lst acc) := k2.stay _ _ nb hacc
            have mz5 : D ∈ β5.z := k2.hid _ mz
            have ll : acc.length < sizeLine := by
              rw [← ra.length]; omega
            refine ⟨acc, hD5, ll, β5, S5, dacc ++ [dy], acc ++ [y], ?_, mz5, s6.poke hD5 mz5, upd_same, ((ra.ext k2).append (Reps.one ry)).poke hD5 mz5, by simp; omega, (e2.ext k2).poke hD5 mz5, g6⟩
            have k3 := x2.trans k2
            exact ⟨k3.pre, k3.hid, k3.hnew, fun a o n e => by rw [upd_ne (ne_of_none e hD)]; exact k3.stay a o n e, k3.new⟩
      · rw [if_neg gd] at g2; exact g2.elim
    · have hi2 : i = p.1.length := by omega
      subst hi2
      rw [List.drop_length] at g2
      simp only [compGo] at g2
      by_cases gd : p.2.ok S'
      · rw [if_pos gd] at g2
        obtain ⟨_, w2⟩ := wk _ β' H' S' x2 s2 gd hi
        refine .inl ⟨w2 rfl, ?_⟩
        simp only [R.bind_ok, List.append_nil] at g2
        have zl : dacc.length ≤ sizeLine := Nat.le_trans la z
        unfold mkL at g2
        rw [if_pos zl] at g2
        have cut : ∀ a ∈ β1.z, a ∈ β'.z := x2.hid
        cases m with
        | false =>
          have g2 : Go K (Rep K) NX β1 H1 (.ok (.lst dacc) S') Q := g2
          refine g2 (.ref D) ⟨β'.b, β1.z⟩ H' ⟨x2.pre, fun _ h => h, fun _ h n _ => absurd h n, x2.stay, x2.new⟩ ?_ (SRel.less cut s2)
          simp only [Rep]
          exact ⟨D, acc, rfl, ⟨nb, s1.freshZ hD, hacc⟩, zl, Reps.less cut ra⟩
        | true =>
          have g2 : Go K (Rep K) NX β1 H1 (.ok (.ref S'.length) (S' ++ [.lst dacc])) Q := g2
          refine g2 (.ref D) ⟨β'.b ++ [D], β1.z⟩ H' ⟨?_, fun _ h => h, fun _ h n _ => absurd h n, x2.stay, fun a h n => ?_⟩ ?_ ?_
          · obtain ⟨nw, e⟩ := x2.pre
            exact ⟨nw ++ [D], by show β'.b ++ [D] = _; rw [e, List.append_assoc]⟩
          · rcases List.mem_append.mp h with h | h
            · exact x2.new a h n
            · rw [List.mem_singleton.mp h]; exact hD
          · simp only [Rep]
            exact ⟨D, by show (β'.b ++ [D])[S'.length]? = _; rw [← s2.len]; simp, rfl⟩
          · exact SRel.move s2 mz cut (s1.freshZ hD) hacc zl ra
      · rw [if_neg gd] at g2; exact g2.elim
end Pyx
end
section
/-! Statements. -/
namespace Pyx
open PySem L2
inductive FlV where
  | nx (σ : St)
  | rt (v : V)
  | bk (σ : St)
  | ct (σ : St)
def RpF (K : PySem.W.Frag) (β : Bk) (H : Hp) (f : Fl) (g : FlV) : Prop :=
  match f, g with
  | .nx ρ, .nx σ => ERel K β H ρ σ
  | .bk ρ, .bk σ => ERel K β H ρ σ
  | .ct ρ, .ct σ => ERel K β H ρ σ
  | .rt d, .rt v => Rep K β H d v
  | _, _ => False
def endQ (D : Ends) : FlV → Hp → Prop
  | .nx σ => D.nx σ
  | .rt v => D.rt v
  | .bk σ => D.bk σ
  | .ct σ => D.ct σ
abbrev RF (K : PySem.W.Frag) (r : Env → Store → R Fl) : TS := fun D σ H => ∃ ρ S β, ERel K β H ρ σ ∧ SRel K β H S ∧ Go K (RpF K) NX β H (r ρ S) (endQ D)
abbrev RS (X : Cx) (r : Env → Store → R Fl) : TS := RF X.K r
theorem _root_.L2.PS.cv {X : Cx} {s : Stmt} {t t' : TS} (h : PS X s t) (c : ∀ D σ H, t' D σ H → t D σ H) : PS X s t' := ⟨fun pins s σ H D I w => h.run pins s σ H D I (c D σ H w)⟩
theorem _root_.L2.PSs.cv {X : Cx} {s : List Stmt} {t t' : TS} (h : PSs X s t) (c : ∀ D σ H, t' D σ H → t D σ H) : PSs X s t' := ⟨fun pins s σ H D I w => h.run pins s σ H D I (c D σ H w)⟩
section
variable {K : PySem.W.Frag} {β : Bk} {H : Hp} {S : Store} {D : Ends}
theorem go_nx {ρ : Env} {σ : St} (g : Go K (RpF K) NX β H (.ok (.nx ρ) S) (endQ D)) (e : ERel K β H ρ σ) (s : SRel K β H S) : D.nx σ H := Go.same (t := FlV.nx σ) g e s
theorem go_bk {ρ : Env} {σ : St} (g : Go K (RpF K) NX β H (.ok (.bk ρ) S) (endQ D)) (e : ERel K β H ρ σ) (s : SRel K β H S) : D.bk σ H := Go.same (t := FlV.bk σ) g e s
theorem go_ct {ρ : Env} {σ : St} (g : Go K (RpF K) NX β H (.ok (.ct ρ) S) (endQ D)) (e : ERel K β H ρ σ) (s : SRel K β H S) : D.ct σ H := Go.same (t := FlV.ct σ) g e s
theorem go_rt {d : Pyx.D} {v : V} (g : Go K (RpF K) NX β H (.ok (.rt d) S) (endQ D)) (e : Rep K β H d v) (s : SRel K β H S) : D.rt v H := Go.same (t := FlV.rt v) g e s
end
section
variable {X : Cx} {e a b c : Expr} {pos : Pos} {re : Env → Store → R D} {rb ra : Env → Store → R Fl}
theorem s_never {s : Stmt} : PS X s (RS X fun _ _ => .stuck) := ⟨fun _ _ _ _ _ _ ⟨_, _, _, _, _, g⟩ => g.elim⟩
theorem asg_go {te : TE} {g : TG} {sl : List Nat} {rt : Pyx.D → Env → Store → R Env} (ht : ∀ σ H Q, RE X re σ H Q → te σ H Q) (hg : ∀ v σ H Q, RG X sl rt v σ H Q → g v σ H Q) :
    ∀ D σ H, RS X (fun ρ S => (re ρ S).bind fun d S1 => (rt d ρ S1).bind fun ρ1 S2 => .ok (.nx ρ1) S2) D σ H → tAsg te g D σ H := fun D σ H ⟨ρ, S, β, er, sr, g0⟩ => by
  refine ht σ H _ ⟨ρ, S, β, er, sr, (Go.bind (Rp := Rep X.K) g0).mono fun x H1 ⟨β1, S1, d, x1, r1, s1, g1⟩ => ?_⟩
  refine hg _ _ _ _ ⟨d, ρ, S1, β1, r1, er.ext x1, s1, (Go.bind (Rp := RpT X.K sl σ) g1).mono fun σ2 H2 ⟨β2, S2, ρ2, x2, ⟨e2, _⟩, s2, g2⟩ => go_nx g2 e2 s2⟩
theorem s_expr (he : PE X e (RE X re)) (hs : swapsWith e none pos.line X.env = pure false) : PS X (.Expr e pos) (RS X fun ρ S => (re ρ S).bind fun _ S1 => .ok (.nx ρ) S1) :=
  (ps_expr he hs).cv fun D σ H ⟨ρ, S, β, er, sr, g⟩ => ⟨ρ, S, β, er, sr, (Go.bind (Rp := Rep X.K) g).mono fun x H1 ⟨β1, S1, d, x1, r1, s1, g1⟩ => go_nx g1 (er.ext x1) s1⟩
theorem s_ret (he : PE X e (RE X re)) : PS X (.Return (some e) pos) (RS X fun ρ S => (re ρ S).bind fun d S1 => .ok (.rt d) S1) :=
  (ps_ret he).cv fun D σ H ⟨ρ, S, β, er, sr, g⟩ => ⟨ρ, S, β, er, sr, (Go.bind (Rp := Rep X.K) g).mono fun x H1 ⟨β1, S1, d, x1, r1, s1, g1⟩ => go_rt g1 r1 s1⟩
theorem s_retN : PS X (.Return none pos) (RS X fun _ S => .ok (.rt .non) S) := ps_retN.cv fun D σ H ⟨ρ, S, β, er, sr, g⟩ => go_rt g non_rep sr
theorem s_pass : PS X (.Pass pos) (RS X fun ρ S => .ok (.nx ρ) S) := ps_pass.cv fun D σ H ⟨ρ, S, β, er, sr, g⟩ => go_nx g er sr
theorem s_brk : PS X (.Break pos) (RS X fun ρ S => .ok (.bk ρ) S) := ps_break.cv fun D σ H ⟨ρ, S, β, er, sr, g⟩ => go_bk g er sr
theorem s_cont : PS X (.Continue pos) (RS X fun ρ S => .ok (.ct ρ) S) := ps_continue.cv fun D σ H ⟨ρ, S, β, er, sr, g⟩ => go_ct g er sr
theorem s_ite {p q : List Stmt} (hc : PT X c (RT X (tst re))) (ha : PSs X p (RS X ra)) (hb : PSs X q (RS X rb)) :
    PS X (.If c p q pos) (RS X fun ρ S => (re ρ S).bind fun x S1 => (condS S1 x).bind fun k S2 => if k then ra ρ S2 else rb ρ S2) :=
  (ps_if hc ha hb).cv fun D σ H ⟨ρ, S, β, er, sr, g⟩ => ⟨ρ, S, β, er, sr, by
    dsimp only at g
    rw [← R.bind_assoc] at g
    refine (Go.bind (Rp := Is) g).mono fun k H1 ⟨β1, S1, k', x1, ek, s1, g1⟩ => ?_
    have ek : k' = k := ek
    subst ek
    cases k' with
    | true => exact iteT ⟨ρ, S1, β1, er.ext x1, s1, g1⟩
    | false => exact iteF ⟨ρ, S1, β1, er.ext x1, s1, g1⟩⟩
/-! ### blocks -/
def seqR (ra rb : Env → Store → R Fl) : Env → Store → R Fl := fun ρ S => (ra ρ S).bind fun fl S1 => match fl with
  | .nx ρ1 => rb ρ1 S1
  | fl => .ok fl S1
theorem ss_nil : PSs X [] (RS X fun ρ S => .ok (.nx ρ) S) := pss_nil.cv fun D σ H ⟨ρ, S, β, er, sr, g⟩ => go_nx g er sr
theorem ss_cons {s : Stmt} {ss : List Stmt} (h : PS X s (RS X ra)) (hs : PSs X ss (RS X rb)) : PSs X (s :: ss) (RS X (seqR ra rb)) :=
  (pss_cons h hs).cv fun D σ H ⟨ρ, S, β, er, sr, g⟩ => ⟨ρ, S, β, er, sr, (Go.bind (Rp := RpF X.K) g).mono fun t H1 ⟨β1, S1, fl, x1, r1, s1, g1⟩ => by
    cases fl with
    | nx ρ1 => cases t with
      | nx σ1 => exact ⟨ρ1, S1, β1, r1, s1, g1⟩
      | _ => exact False.elim r1
    | rt d => cases t with
      | rt v => exact go_rt (S := S1) (D := D) g1 r1 s1
      | _ => exact False.elim r1
    | bk ρ1 => cases t with
      | bk σ1 => exact go_bk (S := S1) (D := D) g1 r1 s1
      | _ => exact False.elim r1
    | ct ρ1 => cases t with
      | ct σ1 => exact go_ct (S := S1) (D := D) g1 r1 s1
      | _ => exact False.elim r1⟩
/-! ### loops -/
theorem s_for {tg it : Expr} {body : List Stmt} {sl : List Nat} {rs : Env → Store → R (List Pyx.D × Guard)} {rt : Pyx.D → Env → Store → R Env} (hp : PassesOwn (model X.prog X.w) X.A X.env X.xe) (hc : X.calm = true)
    (hi : PI X tg it (RI X rs)) (hg : PG X tg (RG X sl rt)) (hb : PSs X body (RS X rb)) (hs : ∀ x, foldedSetIterable it X.env x = pure x) :
    PS X (.For tg it body [] pos) (RS X fun ρ S => (rs ρ S).bind fun p S1 => forGo p.2 (fun x ρ1 S2 => (rt x ρ1 S2).bind fun ρ2 S3 => rb ρ2 S3) p.1 ρ S1) :=
  (ps_for hp hc hi hg hb hs).cv fun D σ H ⟨ρ, S, β, er, sr, g0⟩ => ⟨ρ, S, β, er, sr, (Go.bind (Rp := Wk X.K) g0).mono fun J H1 ⟨β1, S1, p, x1, wk, s1, g1⟩ => by
    obtain ⟨z, wk⟩ := wk
    let f : Pyx.D → Env → Store → R Fl := fun x ρ1 S2 => (rt x ρ1 S2).bind fun ρ2 S3 => rb ρ2 S3
    refine ⟨fun i m σ' H' => m = p.1.length - i ∧ i ≤ p.1.length ∧ ∃ β' S' ρ', Ext β1 H1 β' H' ∧ SRel X.K β' H' S' ∧ ERel X.K β' H' ρ' σ' ∧ Go X.K (RpF X.K) NX β' H' (forGo p.2 f (p.1.drop i) ρ' S') (endQ D), ⟨p.1.length, by simp, Nat.zero_le _, β1, S1, ρ, Ext.refl, s1, er.ext x1, g1⟩, ?_⟩
    rintro i m σ' H' ⟨rfl, hi, β', S', ρ', x2, s2, e2, g2⟩
    by_cases hlt : i < p.1.length
    · have hdrop : p.1.drop i = p.1[i] :: p.1.drop (i + 1) := List.drop_eq_getElem_cons hlt
      rw [hdrop] at g2
      simp only [forGo] at g2
      by_cases gd : p.2.ok S'
      · rw [if_pos gd] at g2
        obtain ⟨w1, _⟩ := wk i β' H' S' x2 s2 gd hi
        obtain ⟨go, yl⟩ := w1 p.1[i] (by simp [hlt])
        refine .inr ⟨go, _, fun σ2 H2 w => ⟨_, Nat.sub_lt_sub_left hlt (Nat.lt_succ_self i), rfl, hlt, w⟩, fun x H2 y => ?_⟩
        obtain ⟨x3, s3, r3⟩ := yl x H2 y
        refine ⟨p.1[i], ρ', S', β', r3, e2.ext x3, s3, ?_⟩
        have g3 := Go.ext g2 x3
        have e : f p.1[i] ρ' S' = (rt p.1[i] ρ' S').bind fun ρ2 S3 => rb ρ2 S3 := rfl
        rw [e, R.bind_assoc] at g3
        refine (Go.bind (Rp := RpT X.K sl σ') g3).mono fun σ3 H3 ⟨β3, S3, ρ3, x4, ⟨e4, _⟩, s4, g4⟩ => ⟨ρ3, S3, β3, e4, s4, ?_⟩
        have k : Ext β1 H1 β3 H3 := (x2.trans x3).trans x4
        refine (Go.bind (Rp := RpF X.K) g4).mono fun t H4 ⟨β4, S4, fl, x5, r5, s5, g5⟩ => ?_
        cases fl with
        | nx ρ1 => cases t with
          | nx σ1 => exact ⟨β4, S4, ρ1, k.trans x5, s5, r5, g5⟩
          | _ => exact False.elim r5
        | ct ρ1 => cases t with
          | ct σ1 => exact ⟨β4, S4, ρ1, k.trans x5, s5, r5, g5⟩
          | _ => exact False.elim r5
        | rt d => cases t with
          | rt v => exact go_rt (S := S4) (D := D) g5 r5 s5
          | _ => exact False.elim r5
        | bk ρ1 => cases t with
          | bk σ1 => exact go_nx (S := S4) (D := D) g5 r5 s5
          | _ => exact False.elim r5
      · rw [if_neg gd] at g2; exact g2.elim
    · have hi2 : i = p.1.length := by omega
      subst hi2
      rw [List.drop_length] at g2
      simp only [forGo] at g2
      by_cases gd : p.2.ok S'
      · rw [if_pos gd] at g2
        obtain ⟨_, w2⟩ := wk _ β' H' S' x2 s2 gd hi
        exact .inl ⟨w2 rfl, go_nx g2 e2 s2⟩
      · rw [if_neg gd] at g2; exact g2.elim⟩
theorem s_while {body : List Stmt} {W : Nat} (hp : PassesOwn (model X.prog X.w) X.A X.env X.xe) (hc : PT X c (RT X (tst re))) (hb : PSs X body (RS X rb)) :
    PS X (.While c body [] pos) (RS X fun ρ S => whileGo (tst re) rb W ρ S) :=
  (ps_while hp hc hb).cv fun D σ H ⟨ρ, S, β, er, sr, g0⟩ => by
    refine ⟨fun m σ' H' => ∃ β' S' ρ', SRel X.K β' H' S' ∧ ERel X.K β' H' ρ' σ' ∧ Go X.K (RpF X.K) NX β' H' (whileGo (tst re) rb m ρ' S') (endQ D), ⟨W, β, S, ρ, sr, er, g0⟩, ?_⟩
    rintro m σ' H' ⟨β', S', ρ', s2, e2, g2⟩
    cases m with
    | zero => exact g2.elim
    | succ m =>
      simp only [whileGo] at g2
      refine ⟨ρ', S', β', e2, s2, (Go.bind (Rp := Is) g2).mono fun k H1 ⟨β1, S1, k', x1, ek, s1, g1⟩ => ?_⟩
      have ek : k' = k := ek
      subst ek
      cases k' with
      | false => exact iteF (go_nx g1 (e2.ext x1) s1)
      | true =>
        refine iteT ⟨_, fun σ3 H3 w => ⟨m, Nat.lt_succ_self m, w⟩, ρ', S1, β1, e2.ext x1, s1, ?_⟩
        have g1 : Go X.K (RpF X.K) NX β1 H1 ((rb ρ' S1).bind fun fl S2 => (match fl with
          | .nx ρ1 => whileGo (tst re) rb m ρ1 S2
          | .ct ρ1 => whileGo (tst re) rb m ρ1 S2
          | .bk ρ1 => .ok (.nx ρ1) S2
          | .rt d => .ok (.rt d) S2)) (endQ D) := g1
        refine (Go.bind (Rp := RpF X.K) g1).mono fun t H4 ⟨β4, S4, fl, x5, r5, s5, g5⟩ => ?_
        cases fl with
        | nx ρ1 => cases t with
          | nx σ1 => exact ⟨β4, S4, ρ1, s5, r5, g5⟩
          | _ => exact False.elim r5
        | ct ρ1 => cases t with
          | ct σ1 => exact ⟨β4, S4, ρ1, s5, r5, g5⟩
          | _ => exact False.elim r5
        | rt d => cases t with
          | rt v => exact go_rt (S := S4) (D := D) g5 r5 s5
          | _ => exact False.elim r5
        | bk ρ1 => cases t with
          | bk σ1 => exact go_nx (S := S4) (D := D) g5 r5 s5
          | _ => exact False.elim r5
end
end Pyx
end
section
/-! ### t[::-1] of a tuple -/
namespace Pyx.Rv
open PySem PySem.Spec PyProof.Rows HT L2
section
variable {prog : Program} {w : World} {A : Around} {E : Value → Shared → Prop} {s : Shared}
theorem whole_places (n : Nat) : Builtin.Slice.slicePlaces ((n : Int) - 1) (-1) (-1) = n := by
  unfold Builtin.Slice.slicePlaces
  have h1 : ¬ ((-1 : Int) > 0) := by decide
  rw [if_neg h1]
  by_cases h : (n : Int) - 1 > -1
  · rw [if_pos h, show (-(-1) : Int) = 1 by decide, Int.ediv_one]; omega
  · rw [if_neg h]; omega
theorem fm_congr {α β : Type} {f : α → Option β} {g : α → β} : ∀ {l : List α}, (∀ a ∈ l, f a = some (g a)) → l.filterMap f = l.map g
  | [], _ => rfl
  | a :: l, h => by rw [List.filterMap_cons_some (h a List.mem_cons_self), fm_congr fun b m => h b (List.mem_cons_of_mem _ m), List.map_cons]
theorem back_to (xs : Array Value) : ((List.range xs.size).filterMap fun (k : Nat) => xs[(((xs.size : Int) - 1) + (k : Int) * (-1)).toNat]?).toArray = xs.toList.reverse.toArray := by
  congr 1
  apply List.ext_getElem?
  intro k
  have e : (List.range xs.size).filterMap (fun (k : Nat) => xs[(((xs.size : Int) - 1) + (k : Int) * (-1)).toNat]?) = (List.range xs.size).map fun k => xs.toList.reverse[k]?.getD .none := by
    apply fm_congr
    intro a ha
    have ha : a < xs.size := List.mem_range.mp ha
    have q : (((xs.size : Int) - 1) + (a : Int) * (-1)).toNat = xs.size - 1 - a := by omega
    have l1 : a < xs.toList.reverse.length := by rw [List.length_reverse, Array.length_toList]; exact ha
    rw [q, List.getElem?_eq_getElem l1, Option.getD_some, List.getElem_reverse, Array.getElem?_eq_getElem (by omega)]
    simp
  rw [e, List.getElem?_map]
  by_cases hk : k < xs.size
  · have l1 : k < xs.toList.reverse.length := by rw [List.length_reverse, Array.length_toList]; exact hk
    rw [List.getElem?_range hk, Option.map_some, List.getElem?_eq_getElem l1, Option.getD_some]
  · rw [List.getElem?_eq_none (by rw [List.length_range]; omega), List.getElem?_eq_none (by rw [List.length_reverse, Array.length_toList]; omega)]; rfl
theorem backed {sl : Addr} {vs : Value} {n : Nat} {Q : Int × Int × Nat → Shared → Prop} (hs : s.heap.IsSliceOf sl .none .none vs) (ps : IsPart vs (some (-1)))
    (h : Q ((n : Int) - 1, -1, n) s) : wpAny (model prog w) A (Builtin.Slice.sliceApplied (.ref sl) (pure (n : Int))) Q E s := by
  obtain ⟨os, hos, hcs, hds⟩ := id hs
  unfold Builtin.Slice.sliceApplied Builtin.Slice.sliceFields
  refine wpAny_bind (wpAny_bind (wpAny_field hos hds (x := .none) rfl (wpAny_bind (wpAny_field hos hds (x := .none) rfl (wpAny_bind (wpAny_field hos hds (x := vs) rfl (wpAny_pure ?_)))))))
  refine wpAny_bind (slicePart_ ps ?_)
  show wpAny _ _ (if ((-1 : Int) == 0) = true then _ else _) _ _ s
  rw [if_neg (by decide)]
  refine wpAny_bind (slicePart_ .none (wpAny_bind (slicePart_ .none (wpAny_bind (wpAny_pure ?_)))))
  show wpAny _ _ (pure ((n : Int) - 1, (-1 : Int), Builtin.Slice.slicePlaces ((n : Int) - 1) (-1) (-1))) _ _ s
  rw [whole_places]
  exact wpAny_pure h
theorem turned {t sl : Addr} {items : Array Value} {vs : Value} {Q : Value → Shared → Prop} (ht : IsTup s.heap t items) (hs : s.heap.IsSliceOf sl .none .none vs) (ps : IsPart vs (some (-1)))
    (h : Q (.ref s.heap.objs.size) { s with heap := s.heap.push { cls := .type "tuple", data := .seq items.toList.reverse.toArray } })
    (hsz : items.size ≤ sizeLine) : wpAny (model prog w) A (getItem (.ref t) (.ref sl)) Q E s := by
  have htake : sizeOk (.seq items.toList.reverse.toArray) := by
    show items.toList.reverse.toArray.size ≤ sizeLine
    rw [List.size_toArray, List.length_reverse, Array.length_toList]
    exact hsz
  obtain ⟨os, hos, hcs, hds⟩ := id hs
  have hTs : s.TypeIs (.ref sl) "slice" := ⟨os, hos, hcs⟩
  unfold getItem
  try with_reducible refine wpAny_holding ?_
  first | refine wpAny_bind (wpAny_pure ?_) | skip
  refine wpAny_bind (wpAny_sequenceKey ht.typeIs (by decide) ?_)
  refine wpAny_bind (wpAny_callSpecial?_slot (name := Str.ofString "__getitem__") ht.typeIs PyProof.Rows.slot_tuple_getitem
    (wpAny_call_entry PyProof.Rows.slot_tuple_getitem ht.typeIs entry_tuple_getitem ?_ (args_tuple_getitem _ _)))
  show wpAny _ _ (Builtin.Tuple.tupleItemsOf (.ref t) >>= _) _ _ s
  refine wpAny_bind (tupleItemsOf_ ht ?_)
  refine wpAny_bind (wpAny_typeOf hTs ?_)
  rw [if_pos (by decide)]
  refine wpAny_bind (backed hs ps ?_)
  show wpAny _ _ (if (((items.size : Int) - 1) == 0 && (-1 : Int) == 1 && items.size == items.size) = true then _ else _) _ _ s
  rw [if_neg (by simp), back_to]
  first
    | exact wpAny_bind (m := Builtin.Tuple.tupleExact _) (wpAny_newObj_type (wpAny_pure ⟨_, rfl, wpAny_pure h⟩) htake)
    | exact wpAny_bind (m := Builtin.Tuple.tupleExact _) (wpAny_newObj_type (wpAny_bind (wpAny_pure (wpAny_pure ⟨_, rfl, wpAny_pure h⟩))) htake)
    | exact wpAny_bind (wpAny_bind (m := Builtin.Tuple.tupleExact _) (wpAny_newObj_type (wpAny_pure (wpAny_pure ⟨_, rfl, wpAny_pure h⟩)) htake))
    | exact wpAny_bind (wpAny_bind (m := Builtin.Tuple.tupleExact _) (wpAny_newObj_type (wpAny_pure ⟨_, rfl, wpAny_pure h⟩) htake))
end
section
variable {X : Cx}
def tRevT (K : PySem.W.Frag) (te : TE) : TE := fun σ H Q => te σ H fun x H1 => ∃ a xs, x = .ref a ∧ SqT K H1 a xs ∧ ∀ p, H1 p = none → Q (.ref p) (upd H1 p (.tup xs.reverse))
theorem pe_revT {e : Expr} {te : TE} {k : Nat} {p1 p2 p3 pos : Pos} (he : PE X e te) : PE X (.Subscript e (.Slice none none (some (.UnaryOp .USub (.Constant (.int 1) k p1) p2)) p3) pos) (tRevT X.K te) := by
  refine ⟨fun pins s σ H Q I h => ?_⟩
  refine Subscript_ (thn (he.run pins s σ H _ I h) fun v s1 ⟨x, H1, I1, r1, q1⟩ => ?_)
  obtain ⟨a, xs, ex, hx, q⟩ := q1
  subst ex
  cases r1
  have hst : PO X (some (.UnaryOp .USub (.Constant (.int 1) k p1) p2)) (tPart (tUn (rU fun i => .int (-i)) (tC (.int 1)))) := po_some (pe_un un_neg pe_int)
  refine wpAny_Slice (thn (po_none.run pins s1 σ H1 (fun o H2 => o = none ∧ H2 = H1) I1 ⟨rfl, rfl⟩) fun vl s2 ⟨l, H2, I2, pl, el, e2⟩ => ?_)
  subst el e2
  refine thn (po_none.run pins s2 σ H2 (fun o H3 => o = none ∧ H3 = H2) I2 ⟨rfl, rfl⟩) fun vu s3 ⟨u, H3, I3, pu, eu, e3⟩ => ?_
  subst eu e3
  refine thn (hst.run pins s3 σ H3 (fun o H4 => o = some (-1) ∧ H4 = H3) I3 ⟨1, rfl, -1, rfl, rfl, rfl⟩) fun vs s4 ⟨o, H4, I4, ps, eo, e4⟩ => ?_
  subst eo e4
  have I5 : Inv X pins σ H4 { s4 with heap := s4.heap.push { cls := .type "slice", data := .fields #[vl, vu, vs] } } := I4.kept (t' := s4.toks) fun b ob q => Heap.get?_push_of_some _ q
  obtain ⟨its, r, ht, hz⟩ := I5.tuple hx
  have hlen := r.length
  show wpAny (model X.prog X.w) X.A (subscriptTail e (.Slice none none (some (.UnaryOp .USub (.Constant (.int 1) k p1) p2)) p3) (.ref a) (.ref s4.heap.objs.size)) (EP X pins σ Q) X.xe { s4 with heap := s4.heap.push { cls := .type "slice", data := .fields #[vl, vu, vs] } }
  refine tail_any (ops := [.ref a, .ref s4.heap.objs.size]) ht.typeIs (PyProof.Rows.slot_tuple_getitem.lookup) ?_ (by with_unfolding_all rfl)
  cases pl
  cases pu
  refine turned ht (Heap.IsSliceOf.new _ .none .none vs) ps ?_ (by rw [List.size_toArray]; omega)
  refine ⟨.ref _, _, I5.laid (t' := s4.toks) (o := .tup xs.reverse) (fun b ob q => Heap.get?_push_of_some _ q) (Nat.le_refl _) ?_, rfl, q _ (I5.hok.fresh (Nat.le_refl _))⟩
  exact ⟨by rw [List.length_reverse]; exact hz, _, r.reverse, IsTup.new _ _⟩
end
end Pyx.Rv
/-! Calls with keywords. -/
namespace Pyx
open PySem L2
def pick {α : Type} (pl : List Nat) (l : List α) : List α := pl.filterMap (l[·]?)
theorem vals_pick {vs : List V} {us : List Value} (r : Vals vs us) : ∀ (pl : List Nat), Vals (pick pl vs) (pick pl us)
  | [] => .nil
  | i :: pl => by
    have ih := vals_pick r pl
    unfold pick at ih ⊢
    cases e : vs[i]? with
    | none => rw [List.filterMap_cons_none e, List.filterMap_cons_none (Vals.none_of r e)]; exact ih
    | some v =>
      obtain ⟨u, e2, q⟩ := Vals.get r e
      rw [List.filterMap_cons_some e, List.filterMap_cons_some e2]
      exact .cons q ih
theorem reps_pick {K : PySem.W.Frag} {β : Bk} {H : Hp} {ds : List D} {vs : List V} (r : Reps K β H ds vs) : ∀ {pl : List Nat} {us : List D}, pl.mapM (ds[·]?) = some us → Reps K β H us (pick pl vs)
  | [], us, h => by
    cases h
    exact Reps.nil
  | i :: pl, us, h => by
    rw [List.mapM_cons] at h
    obtain ⟨d, e1, h⟩ := Option.bind_eq_some_iff.mp h
    obtain ⟨us', e2, h⟩ := Option.bind_eq_some_iff.mp h
    cases h
    have ih := reps_pick r e2
    obtain ⟨v, hv, rv⟩ := r.get e1
    unfold pick at ih ⊢
    rw [List.filterMap_cons_some hv]
    exact Reps.cons rv ih
/-- the values of keywords bind as the plan says -/
def KB (fd : FuncData) (ps : List Str) (n : Nat) (ks : List Str) (pl : List Nat) : Prop := ∀ us ws : List Value, us.length = n → ws.length = ks.length → bindArgs fd ⟨us, ks.zip ws⟩ = pure (ps.zip (pick pl (us ++ ws)))
section
variable {X : Cx} {n k : Nat} {f : Addr} {fd : FuncData} {ps ks : List Str} {sp : Sp} {x : Str} {p pos : Pos} {es : List Expr} {kws : List Keyword} {t tk : TA} {pl : List Nat}
theorem kw_all {pos : Pos} : ∀ {kws : List Keyword} {ks : List Str} {env : PySem.Env}, kwNames kws = some ks → (backToKw pos (keywordEach kws env)).all (·.1.isSome) = true ∧ (backToKw pos (keywordEach kws env)).filterMap (·.1) = ks ∧ (backToKw pos (keywordEach kws env)).any (·.1.isNone) = false
  | [], ks, env, h => by
    cases h
    exact ⟨rfl, rfl, rfl⟩
  | ⟨none, _, _⟩ :: _, _, _, h => by cases h
  | ⟨some y, e, q⟩ :: kws, ks, env, h => by
    simp only [kwNames] at h
    obtain ⟨ks', e1, rfl⟩ := Option.map_eq_some_iff.mp h
    obtain ⟨h1, h2, h3⟩ := kw_all (pos := pos) (env := env) e1
    unfold backToKw at h1 h2 h3 ⊢
    simp only [keywordEach, List.map_cons, List.all_cons, List.filterMap_cons, List.any_cons, Option.isSome_some, Option.isNone_some, Bool.true_and, Bool.false_or]
    exact ⟨h1, by rw [h2], h3⟩
theorem run_kw {pins : List (Addr × Obj)} {σ : St} {H : Hp} {s : Shared} {Q : VK} {us ws : List Value} {vs zs : List V} (F : FnOk X.prog X.w X.K X.mg X.base CX0 k f fd ps sp) (hr : Room k X.A) (hb : KB fd ps n ks pl)
    (I : Inv X pins σ H s) (r : Vals vs us) (rz : Vals zs ws) (l1 : vs.length = n) (l2 : zs.length = ks.length) (h : sp (pick pl (vs ++ zs)) H Q E0) : wpAny (model X.prog X.w) X.A (call (.ref f) us (ks.zip ws)) (EP X pins σ Q) X.xe s := by
  have r2 := vals_pick (r.append rz) pl
  refine wpAny_call (codeAny_mono (F.run X.A X.stack s H ⟨us, ks.zip ws⟩ (pick pl (us ++ ws)) _ Q E0 hr I.env0 (BindsTo.of_eq (hb us ws (r.length.symm.trans l1) (rz.length.symm.trans l2))) r2 h) fun r s' hq => ?_)
  cases r with
  | error e => exact pass0 pins σ H s e s' I hq
  | ok fl =>
    cases fl with
    | ret u => exact I.after hq
    | next => exact False.elim hq
    | brk => exact False.elim hq
    | cont => exact False.elim hq
theorem pe_kw {e : Expr} (F : FnOk X.prog X.w X.K X.mg X.base CX0 k f fd ps sp) (hr : Room k X.A) (hg : Gl X x) (hm : X.mg x = some (.ref f)) (hk : PySem.W.keepIn X.K (.ref f) = true) (hb : KB fd ps n ks pl)
    (ha : PA X (e :: es) t) (hkw : PK X kws tk) (ns : noStar (e :: es) = true) (hn : kwNames kws = some ks) (hdb : (x == ("__debug__" : Str)) = false) :
    PE X (.Call (.Name x p) (e :: es) kws pos) (fun σ H Q => t σ H fun vs H1 => tk σ H1 fun zs H2 => vs.length = n ∧ zs.length = ks.length ∧ sp (pick pl (vs ++ zs)) H2 Q E0) := by
  refine ⟨fun pins s σ H Q I h => ?_⟩
  obtain ⟨h1, h2, h3⟩ := kw_all (pos := pos) (env := X.env) hn
  refine wpAny_Call_Name_kw (ld_glob I hg hm ?_ hdb)
  have n2 : isStar e = false ∧ noStar es = true := by simpa [noStar] using ns
  refine PySem.W.callWith_KW (h₀ := X.base) I.ok.mod.kin hk h1 (thn (ha.run pos pins s σ H _ I h) fun us s1 ⟨vs, H1, I1, r, q⟩ => ?_) (by rw [h3, star_none ns]; rfl) (star_cons n2.1)
  refine thn (hkw.run pos pins s1 σ H1 _ I1 q) fun ws s2 ⟨zs, H2, I2, rz, l1, l2, q2⟩ => ⟨I2.kIn, ?_⟩
  rw [h2]
  exact run_kw F hr hb I2 r rz l1 l2 q2
theorem pe_kw0 (F : FnOk X.prog X.w X.K X.mg X.base CX0 k f fd ps sp) (hr : Room k X.A) (hg : Gl X x) (hm : X.mg x = some (.ref f)) (hk : PySem.W.keepIn X.K (.ref f) = true) (hb : KB fd ps 0 ks pl)
    (hkw : PK X kws tk) (hn : kwNames kws = some ks) (hdb : (x == ("__debug__" : Str)) = false) :
    PE X (.Call (.Name x p) [] kws pos) (fun σ H Q => tk σ H fun zs H2 => zs.length = ks.length ∧ sp (pick pl zs) H2 Q E0) := by
  refine ⟨fun pins s σ H Q I h => ?_⟩
  obtain ⟨h1, h2, h3⟩ := kw_all (pos := pos) (env := X.env) hn
  refine wpAny_Call_Name_kw (ld_glob I hg hm ?_ hdb)
  refine PySem.W.callWith_KW0 (h₀ := X.base) I.ok.mod.kin hk h1 ?_ (by rw [h3]; rfl)
  refine thn (hkw.run pos pins s σ H _ I h) fun ws s2 ⟨zs, H2, I2, rz, l2, q2⟩ => ⟨I2.kIn, ?_⟩
  rw [h2]
  exact run_kw (us := []) (vs := []) F hr hb I2 .nil rz rfl l2 q2
end
section
variable {P : Pr} {X : Cx} {C : Str → List D → Store → R D}
theorem ks_ok {f : Expr → E} (h : ∀ e, PE X e (RE X (evE C P.gl (f e)))) : ∀ (kws : List Keyword), PK X kws (RA X (evEs C P.gl (esOf (kws.map fun k => f k.value))))
  | [] => ⟨fun pos pins s σ H Q I ⟨ρ, S, β, er, sr, g⟩ => pk_nil.run pos pins s σ H Q I (by
      simp only [List.map_nil, esOf, evEs] at g
      exact Go.same (t := ([] : List V)) g Reps.nil sr)⟩
  | ⟨nm, e, q⟩ :: kws => ⟨fun pos pins s σ H Q I w => (pk_cons (h e) (ks_ok h kws)).run pos pins s σ H Q I (by
      obtain ⟨ρ, S, β, er, sr, g⟩ := w
      simp only [List.map_cons, esOf, evEs] at g
      refine ⟨ρ, S, β, er, sr, (Go.bind (Rp := Rep X.K) g).mono fun x H1 ⟨β1, S1, d, x1, r1, s1, g1⟩ => ?_⟩
      refine ⟨ρ, S1, β1, er.ext x1, s1, (Go.bind (Rp := Reps X.K) g1).mono fun xs H2 ⟨β2, S2, ds, x2, r2, s2, g2⟩ => ?_⟩
      exact Go.same (t := x :: xs) g2 (Reps.cons (r1.ext x2) r2) s2)⟩
end
section
variable {X : Cx} {a : Expr} {ra : Env → Store → R D}
theorem reps_rev {K : PySem.W.Frag} {β : Bk} {H : Hp} : ∀ {ds : List D} {vs : List V}, Reps K β H ds vs → Reps K β H ds.reverse vs.reverse
  | [], _, r => by
    simp only [Reps] at r; subst r; exact Reps.nil
  | d :: ds, _, r => by
    simp only [Reps] at r
    obtain ⟨v, vs, rfl, h, t⟩ := r
    rw [List.reverse_cons, List.reverse_cons]
    exact (reps_rev t).append (Reps.cons h Reps.nil)
theorem g_rev {k : Nat} {p1 p2 p3 pos : Pos} (ha : PE X a (RE X ra)) : PE X (.Subscript a (.Slice none none (some (.UnaryOp .USub (.Constant (.int 1) k p1) p2)) p3) pos) (RE X fun ρ S => (ra ρ S).bind fun x S1 => match x with
    | .tup ds => mkT ds.reverse S1
    | _ => .stuck) :=
  (Rv.pe_revT ha).cv fun σ H Q ⟨ρ, S, β, er, sr, g⟩ => ⟨ρ, S, β, er, sr, g.bind.mono fun x H1 ⟨β1, S1, d, x1, r1, s1, g1⟩ => by
    cases d with
    | tup ds =>
      simp only [Rep] at r1
      obtain ⟨a, vs, rfl, t, z, r⟩ := r1
      exact ⟨a, vs, rfl, t.sq, (go_mkT s1 (reps_rev r) g1).2⟩
    | _ => exact g1.elim⟩
end
theorem mapM_len {α β : Type} {f : α → Option β} : ∀ {l : List α} {us : List β}, l.mapM f = some us → us.length = l.length
  | [], us, h => by cases h; rfl
  | a :: l, us, h => by
    rw [List.mapM_cons] at h
    obtain ⟨d, e1, h⟩ := Option.bind_eq_some_iff.mp h
    obtain ⟨us', e2, h⟩ := Option.bind_eq_some_iff.mp h
    cases h
    rw [List.length_cons, List.length_cons, mapM_len e2]
theorem kw_len : ∀ {kws : List Keyword} {ks : List Str}, kwNames kws = some ks → ks.length = kws.length
  | [], ks, h => by cases h; rfl
  | ⟨none, _, _⟩ :: _, _, h => by cases h
  | ⟨some y, e, q⟩ :: kws, ks, h => by
    simp only [kwNames] at h
    obtain ⟨ks', e1, rfl⟩ := Option.map_eq_some_iff.mp h
    rw [List.length_cons, List.length_cons, kw_len e1]
section
variable {X : Cx} {C : Str → List D → Store → R D} {n k : Nat} {f : Addr} {fd : FuncData} {ps ks : List Str} {x : Str} {p pos : Pos} {es : List Expr} {kws : List Keyword} {rs rk : Env → Store → R (List D)} {pl : List Nat}
theorem g_kw (F : FnOk X.prog X.w X.K X.mg X.base CX0 k f fd ps (spF X.K C x ps.length)) (hr : Room k X.A) (hg : Gl X x) (hm : X.mg x = some (.ref f)) (hk : PySem.W.keepIn X.K (.ref f) = true) (hb : KB fd ps es.length ks pl)
    (h : PA X es (RA X rs)) (hkw : PK X kws (RA X rk)) (ns : noStar es = true) (hn : kwNames kws = some ks) (hp : pl.length = ps.length) (hdb : (x == ("__debug__" : Str)) = false)
    (hlen : ∀ ρ S ds S1, rs ρ S = .ok ds S1 → ds.length = es.length) (klen : ∀ ρ S ds S1, rk ρ S = .ok ds S1 → ds.length = ks.length) (h0 : es = [] → ∀ ρ S, rs ρ S = .ok [] S) :
    PE X (.Call (.Name x p) es kws pos) (RE X fun ρ S => (rs ρ S).bind fun ds S1 => (rk ρ S1).bind fun ws S2 => (give S2 (pl.mapM fun i => (ds ++ ws)[i]?)).bind fun us S3 => C x us S3) := by
  have lp : ∀ {l us : List D}, pl.mapM (fun i => l[i]?) = some us → us.length = ps.length := fun {l us} e => by rw [← hp]; exact mapM_len e
  have fin : ∀ {β : Bk} {H : Hp} {S : Store} {ds ws : List D} {vs zs : List V} {Q : VK}, Reps X.K β H ds vs → Reps X.K β H ws zs → SRel X.K β H S → Go X.K (Rep X.K) NX β H ((give S (pl.mapM fun i => (ds ++ ws)[i]?)).bind fun us S3 => C x us S3) Q → spF X.K C x ps.length (pick pl (vs ++ zs)) H Q E0 := fun {β H S ds ws vs zs Q} r rz s g => by
    cases e : pl.mapM (fun i => (ds ++ ws)[i]?) with
    | none => rw [e] at g; exact g.elim
    | some us =>
      rw [e] at g
      exact ⟨us, S, β, reps_pick (r.append rz) e, s, lp e, g⟩
  cases es with
  | nil =>
    refine (pe_kw0 F hr hg hm hk hb hkw hn hdb).cv fun σ H Q ⟨ρ, S, β, er, sr, g⟩ => ?_
    dsimp only at g
    rw [h0 rfl ρ S, R.bind_ok] at g
    refine ⟨ρ, S, β, er, sr, ?_⟩
    have kl := klen ρ S
    cases e : rk ρ S with
    | ok ws S2 =>
      rw [e] at g
      intro zs β1 H1 x1 r1 s1
      refine ⟨by rw [← r1.length]; exact kl _ _ e, ?_⟩
      exact fin (vs := []) Reps.nil r1 s1 (Go.ext g x1)
    | exc x' S1 => rw [e] at g; exact g
    | stuck => rw [e] at g; exact g
  | cons e0 es =>
    refine (pe_kw F hr hg hm hk hb h hkw ns hn hdb).cv fun σ H Q ⟨ρ, S, β, er, sr, g⟩ => ?_
    refine ⟨ρ, S, β, er, sr, ?_⟩
    dsimp only at g
    cases e : rs ρ S with
    | ok ds S1 =>
      rw [e] at g
      intro vs β1 H1 x1 r1 s1
      refine ⟨ρ, S1, β1, er.ext x1, s1, ?_⟩
      have g := Go.ext g x1
      rw [R.bind_ok] at g
      have kl := klen ρ S1
      cases e2 : rk ρ S1 with
      | ok ws S2 =>
        rw [e2] at g
        intro zs β2 H2 x2 r2 s2
        refine ⟨by rw [← r1.length]; exact hlen _ _ _ _ e, by rw [← r2.length]; exact kl _ _ e2, ?_⟩
        exact fin (r1.ext x2) r2 s2 (Go.ext g x2)
      | exc x' S1 => rw [e2] at g; exact g
      | stuck => rw [e2] at g; exact g
    | exc x' S1 => rw [e] at g; exact g
    | stuck => rw [e] at g; exact g
end
end Pyx
end
section
/-! The translated syntax reckons what the machine does: the whole induction. -/
namespace Pyx
open PySem L2
structure Ctx (P : Pr) (C : Str → List D → Store → R D) (n : Nat) (c : Sc) (X : Cx) : Prop where
  hN : X.N = c.N
  nd : c.N.Nodup
  sc : X.env.scope = c.sc
  kind : c.sc.kind = .function
  fn : X.fn = c.fn
  calm : X.calm = true
  room : Room n X.A
  pass : PassesOwn (model X.prog X.w) X.A X.env X.xe
  bl : ∀ x, P.bl x = true → X.mg x = none
  gl : ∀ x d, P.gl x = some d → ∃ u v, X.mg x = some u ∧ RelV v u ∧ ∀ β H, Rep X.K β H d v
  fns : ∀ x ps, P.ps x = some ps → ∃ f fd, X.mg x = some (.ref f) ∧ PySem.W.keepIn X.K (.ref f) = true ∧ Binds X.K fd ps [] ∧ (∀ n ks pl, P.kw x n ks = true → kwPlan ps n ks = some pl → KB fd ps n ks pl) ∧ FnOk X.prog X.w X.K X.mg X.base CX0 n f fd ps (spF X.K C x ps.length)
section
variable {P : Pr} {C : Str → List D → Store → R D} {n : Nat} {c : Sc} {X : Cx}
theorem Ctx.inner (h : Ctx P C n c X) (scope : Scope) (s : Shared) (H : Hp) (L : Addr) (cl : List (Str × Addr)) (fp : List Addr) (hk : scope.kind = .function) : Ctx P C n (Pyx.inner c scope) (X.blk s H scope (compEnvC scope cl L X.env) fp) :=
  ⟨h.hN, h.nd, by show relS scope X.env.scope = relS scope c.sc; rw [h.sc], hk, rfl, h.calm, h.room, PassesOwn.never, h.bl, h.gl, h.fns⟩
theorem find_ok {N : List Str} {x : Str} {i : Nat} (h : N.findIdx? (· == x) = some i) : N[i]? = some x := by
  obtain ⟨hi, h1, _⟩ := List.findIdx?_eq_some_iff_getElem.mp h
  rw [List.getElem?_eq_getElem hi, beq_iff_eq.mp h1]
theorem plc_ok {x : Str} {i : Nat} (h : plc c x = some i) : c.N[i]? = some x ∧ Vis c.sc x := by
  unfold plc at h
  split at h
  all_goals first | cases h | skip
  · rename_i h2 h1; exact ⟨find_ok h1, .inl h2⟩
  · rename_i h2 h1; exact ⟨find_ok h1, .inr (.inl h2)⟩
  · rename_i h2 h1; exact ⟨find_ok h1, .inr (.inr h2)⟩
theorem stq_ok {x : Str} {i : Nat} (h : stq c x = some i) : c.N[i]? = some x ∧ Loc c.sc x ∧ (c.fn x = true ∨ c.sc.names.lookup x = some .local) := by
  unfold stq at h
  split at h
  · rename_i h1 h2; cases h; exact ⟨find_ok h1, .inl h2, .inr h2⟩
  · rename_i h1 h2
    split at h
    · rename_i h3; cases h; exact ⟨find_ok h1, .inr h2, .inl h3⟩
    · cases h
  · cases h
theorem Ctx.gl' (h : Ctx P C n c X) {x : Str} (g : isGl c x = true) : Gl X x := by
  unfold Gl Env.kindOf
  rw [h.sc]
  exact beq_iff_eq.mp g
theorem okN_ok {x : Str} (h : okN x = true) : (x == ("__debug__" : Str)) = false ∧ (x == ("__classdict__" : Str)) = false ∧ x ≠ "__name__" := by
  simp only [okN, Bool.and_eq_true, Bool.not_eq_true'] at h
  refine ⟨h.1.1, h.1.2, fun e => ?_⟩
  have := h.2
  rw [e] at this; exact absurd this (by decide)
theorem trBi_ok {x : Str} {b : Bi} (h : trBi x = some b) : bootBuiltins x = some (biF b) := by
  unfold trBi at h
  repeat' split at h
  all_goals first | cases h | skip
  all_goals rename_i e
  all_goals subst e
  all_goals decide +kernel
/-! ### lists of expressions -/
theorem es_len (G : Str → Option D) : ∀ (es : List E) (ρ : Env) (S : Store) (ds : List D) (S1 : Store), evEs C G (esOf es) ρ S = .ok ds S1 → ds.length = es.length
  | [], ρ, S, ds, S1, h => by simp only [esOf, evEs] at h; cases h; rfl
  | e :: es, ρ, S, ds, S1, h => by
    simp only [esOf, evEs] at h
    cases q : evE C G e ρ S with
    | ok d S2 =>
      rw [q] at h
      simp only [R.bind_ok] at h
      cases q2 : evEs C G (esOf es) ρ S2 with
      | ok dr S3 =>
        rw [q2] at h
        simp only [R.bind_ok] at h
        cases h
        simp [es_len G es ρ S2 dr _ q2]
      | _ => rw [q2] at h; cases h
    | _ => rw [q] at h; cases h
theorem es_ok {f : Expr → E} (h : ∀ e, PE X e (RE X (evE C P.gl (f e)))) : ∀ (es : List Expr), noStar es = true → PA X es (RA X (evEs C P.gl (esOf (es.map f))))
  | [], _ => by simp only [List.map_nil, esOf]; exact a_nil.cv fun σ H Q ⟨ρ, S, β, er, sr, g⟩ => ⟨ρ, S, β, er, sr, by simpa only [evEs] using g⟩
  | e :: es, ns => by
    simp only [noStar, List.all_cons, Bool.and_eq_true, Bool.not_eq_true'] at ns
    have ih := es_ok h es (by simpa [noStar] using ns.2)
    simp only [List.map_cons, esOf]
    exact (a_cons (h e) ih ns.1).cv fun σ H Q ⟨ρ, S, β, er, sr, g⟩ => ⟨ρ, S, β, er, sr, by simpa only [evEs] using g⟩
def Snd (P : Pr) (C : Str → List D → Store → R D) (X : Cx) (e : Expr) (e' : E) : Prop := PE X e (RE X (evE C P.gl e')) ∧ PT X e (RT X (tst (evE C P.gl e')))
theorem snd_never {e : Expr} : Snd P C X e .never := by
  unfold Snd
  have e1 : evE C P.gl .never = fun _ _ => .stuck := by funext ρ S; simp only [evE]
  rw [e1]
  exact ⟨g_never, t_never⟩
/-- from a rule about an equal reckoning -/
theorem snd_of {e : Expr} {e' : E} {r : Env → Store → R D} (h : PE X e (RE X r)) (he : ∀ whole, isTrue e X.env whole = (do let v ← whole; standAt e.pos; holding [v] (truthy v))) (q : evE C P.gl e' = r) : Snd P C X e e' := by
  unfold Snd
  rw [q]
  exact ⟨h, t_gen h he⟩
theorem snd_eq {e : Expr} {e' : E} {r : Env → Store → R D} (h : PE X e (RE X r)) (t : PT X e (RT X (tst r))) (q : evE C P.gl e' = r) : Snd P C X e e' := by
  unfold Snd
  rw [q]
  exact ⟨h, t⟩
theorem snd_const (k : Const) (i : Nat) (pos : Pos) : Snd P C X (.Constant k i pos) (trK k) := by
  cases k with
  | none => exact snd_of (g_con pe_non fun _ _ => non_rep) (fun _ => rfl) (by funext ρ S; simp only [trK, evE])
  | bool b => exact snd_of (g_con pe_bl fun _ _ => bl_rep b) (fun _ => rfl) (by funext ρ S; simp only [trK, evE])
  | int j => exact snd_of (g_con pe_int fun _ _ => int_rep j) (fun _ => rfl) (by funext ρ S; simp only [trK, evE])
  | str s =>
    simp only [trK]
    by_cases z : s.length ≤ sizeLine
    · rw [if_pos z]; exact snd_of (g_con pe_str fun _ _ => str_rep z) (fun _ => rfl) (by funext ρ S; simp only [evE])
    · rw [if_neg z]; exact snd_never
  | _ => exact snd_never
theorem snd_name (h : Ctx P C n c X) (x : Str) (pos : Pos) : Snd P C X (.Name x pos) (trN P c x) := by
  unfold trN
  by_cases o : okN x = true
  · rw [if_pos o]
    obtain ⟨o1, o2, o3⟩ := okN_ok o
    split
    · rename_i i e
      obtain ⟨h1, h2⟩ := plc_ok e
      exact snd_of (g_var (by rw [h.hN]; exact h1) (by rw [h.sc]; exact h2) o1 o2) (fun _ => rfl) (by funext ρ S; simp only [evE])
    · split
      · rename_i c1
        rw [Bool.and_eq_true] at c1
        obtain ⟨d, hd⟩ := Option.isSome_iff_exists.mp c1.2
        obtain ⟨u, v, h1, h2, h3⟩ := h.gl x d hd
        exact snd_of (g_glob (h.gl' c1.1) h1 h2 h3 o1 hd) (fun _ => rfl) (by funext ρ S; simp only [evE])
      · exact snd_never
  · rw [if_neg o]; exact snd_never
theorem bop_ok {o : Operator} {o' : BOp} (h : trBop o = some o') : o = opOf o' := by
  cases o <;> simp [trBop] at h <;> subst h <;> rfl
theorem cop_ok2 (o : COp) : trCop (copOf o) = o := by cases o <;> rfl
theorem cop_ok (o : CmpOp) : copOf (trCop o) = o := by cases o <;> rfl
theorem mark_ok {b : Expr} (o : CmpOp) (h : isSet b = false) : behindInMarks o b = false := by
  cases b <;> first | rfl | (simp [isSet] at h)
theorem snd_cmp (h : Ctx P C n c X) {f : Expr → E} (ih : ∀ e, Snd P C X e (f e)) (a : Expr) (ops : List CmpOp) (bs : List Expr) (pos : Pos) : Snd P C X (.Compare a ops bs pos) (trCmp f a ops bs) := by
  unfold trCmp
  split
  · rename_i o b
    obtain ⟨o, rfl⟩ : ∃ o', o = copOf o' := ⟨trCop o, (cop_ok o).symm⟩
    rw [cop_ok2]
    by_cases s : isSet b = true
    · rw [if_pos s]; exact snd_never
    · rw [if_neg s]
      have m := mark_ok (copOf o) (by simpa using s)
      have q : evE C P.gl (.cmp o (f a) (f b)) = fun ρ S => (evE C P.gl (f a) ρ S).bind fun x S1 => (evE C P.gl (f b) ρ S1).bind fun y S2 => cmpD o x y S2 := by funext ρ S; simp only [evE]
      exact snd_eq (g_cmp h.room.units (ih a).1 (ih b).1 m) (t_cmp h.room.units (ih a).1 (ih b).1 m) q
  · rename_i o p b d
    obtain ⟨o, rfl⟩ : ∃ o', o = copOf o' := ⟨trCop o, (cop_ok o).symm⟩
    obtain ⟨p, rfl⟩ : ∃ o', p = copOf o' := ⟨trCop p, (cop_ok p).symm⟩
    rw [cop_ok2, cop_ok2]
    by_cases s : (isSet b || isSet d) = true
    · rw [if_pos s]; exact snd_never
    · rw [if_neg s]
      rw [Bool.not_eq_true, Bool.or_eq_false_iff] at s
      have m : lastMarks [copOf o, copOf p] [b, d] = false := mark_ok (copOf p) s.2
      have q : evE C P.gl (.cmp2 o p (f a) (f b) (f d)) = fun ρ S => (evE C P.gl (f a) ρ S).bind fun x S1 => (evE C P.gl (f b) ρ S1).bind fun y S2 => (give S2 (cmpB o x y S2)).bind fun r S3 => if r then (evE C P.gl (f d) ρ S3).bind fun z S4 => cmpD p y z S4 else .ok (.bl false) S3 := by funext ρ S; simp only [evE]
      exact snd_eq (g_cmp2 h.room.units (ih a).1 (ih b).1 (ih d).1 m) (t_cmp2 h.room.units (ih a).1 (ih b).1 (ih d).1 m) q
  · exact snd_never
theorem snd_bool {f : Expr → E} (ih : ∀ e, Snd P C X e (f e)) (o : BoolOp) (pos : Pos) : ∀ (es : List Expr), es ≠ [] → PE X (.BoolOp o es pos) (RE X (evE C P.gl (trBool f o es))) ∧ PW X (.BoolOp o es pos) (RT X (tst (evE C P.gl (trBool f o es))))
  | [], h => absurd rfl h
  | [e], _ => by
    simp only [trBool]
    exact ⟨pe_one (ih e).1, w_one (ih e).2⟩
  | e :: b :: es, _ => by
    obtain ⟨h1, h2⟩ := snd_bool ih o pos (b :: es) (by simp)
    cases o with
    | And =>
      have q : evE C P.gl (trBool f .And (e :: b :: es)) = fun ρ S => (evE C P.gl (f e) ρ S).bind fun x S1 => (condS S1 x).bind fun c S2 => if c then evE C P.gl (trBool f .And (b :: es)) ρ S2 else .ok x S2 := by funext ρ S; simp only [trBool, evE]
      rw [q]
      exact ⟨g_and (ih e).1 h1, w_and (ih e).2 h2⟩
    | Or =>
      have q : evE C P.gl (trBool f .Or (e :: b :: es)) = fun ρ S => (evE C P.gl (f e) ρ S).bind fun x S1 => (condS S1 x).bind fun c S2 => if c then .ok x S2 else evE C P.gl (trBool f .Or (b :: es)) ρ S2 := by funext ρ S; simp only [trBool, evE]
      rw [q]
      exact ⟨g_or (ih e).1 h1, w_or (ih e).2 h2⟩
theorem o_ok {f : Expr → E} (ih : ∀ e, Snd P C X e (f e)) (o : Option Expr) : PO X o (RO X (evO C P.gl (trO f o))) := by
  cases o with
  | none =>
    have q : evO C P.gl (trO f none) = fun _ S => .ok none S := by funext ρ S; simp only [trO, evO]
    rw [q]; exact o_none
  | some e =>
    have q : evO C P.gl (trO f (some e)) = fun ρ S => (evE C P.gl (f e) ρ S).bind fun d S1 => (give S1 (asI d)).bind fun i S2 => .ok (some i) S2 := by funext ρ S; simp only [trO, evO]
    rw [q]; exact o_some (ih e).1
theorem plan_len {ps ks : List Str} {n : Nat} {pl : List Nat} (h : kwPlan ps n ks = some pl) : pl.length = ps.length := by
  unfold kwPlan at h
  split at h
  · rename_i e
    obtain ⟨l, e1, rfl⟩ := Option.map_eq_some_iff.mp h
    rw [List.length_append, List.length_range, mapM_len e1, List.length_drop]
    omega
  · cases h
theorem snd_sub {f : Expr → E} (ih : ∀ e, Snd P C X e (f e)) (a i : Expr) (pos : Pos) : Snd P C X (.Subscript a i pos) (trSub P f a i pos) := by
  unfold trSub
  split
  · rename_i lo hi p2
    exact snd_of (g_sl (m := P.mu pos) (ih a).1 (o_ok ih lo) (o_ok ih hi)) (fun _ => rfl) (by funext ρ S; simp only [evE])
  · exact snd_of (g_rev (ih a).1) (fun _ => rfl) (by funext ρ S; simp only [evE] <;> rfl)
  · exact snd_never
  · rename_i h1 h3 h2
    refine snd_of (g_ix (ih a).1 (ih i).1 fun o j => ?_) (fun _ => rfl) (by funext ρ S; simp only [evE])
    cases i with
    | Slice lo hi st p => first | exact absurd rfl (h2 lo hi st p) | exact absurd rfl (h1 lo hi st p)
    | _ => rfl
theorem snd_call (h : Ctx P C n c X) {f : Expr → E} (ih : ∀ e, Snd P C X e (f e)) (g : Expr) (as : List Expr) (kws : List Keyword) (pos : Pos) : Snd P C X (.Call g as kws pos) (trCall P c f g as kws pos) := by
  unfold trCall
  by_cases ns : noStar as = true
  · rw [if_pos ns]
    have pa := es_ok (P := P) (fun e => (ih e).1) as ns
    split
    · rename_i x p
      split
      · rename_i c1
        rw [Bool.and_eq_true] at c1
        have hg := h.gl' c1.1
        obtain ⟨o1, o2, o3⟩ := okN_ok c1.2
        split
        · rename_i ps e1
          split
          · rename_i hl
            obtain ⟨fa, fd, hm, hk, hb, _, F⟩ := h.fns x ps e1
            have q : evE C P.gl (.call x (esOf (as.map f))) = fun ρ S => (evEs C P.gl (esOf (as.map f)) ρ S).bind fun ds S1 => C x ds S1 := by funext ρ S; simp only [evE]
            cases as with
            | nil =>
              refine snd_of (g_call0 F h.room hg hm hk hb hl o1) (fun _ => rfl) ?_
              rw [q]; funext ρ S; simp only [List.map_nil, esOf, evEs]
            | cons a as =>
              refine snd_of (g_call F h.room hg hm hk hb pa ns hl (by simp) (fun ρ S ds S1 e => ?_) o1) (fun _ => rfl) q
              have := es_len P.gl _ ρ S ds S1 e
              rw [List.length_map] at this; exact this
          · exact snd_never
        · rename_i ps k0 kr e1
          split
          · rename_i ks e2
            split
            · rename_i e3
              split
              · rename_i pl e4
                obtain ⟨fa, fd, hm, hk, hb, hkb, F⟩ := h.fns x ps e1
                have q : evE C P.gl (.callk x (esOf (as.map f)) pl (esOf ((k0 :: kr).map fun k => f k.value))) = fun ρ S => (evEs C P.gl (esOf (as.map f)) ρ S).bind fun ds S1 => (evEs C P.gl (esOf ((k0 :: kr).map fun k => f k.value)) ρ S1).bind fun ws S2 => (give S2 (pl.mapM fun i => (ds ++ ws)[i]?)).bind fun us S3 => C x us S3 := by funext ρ S; simp only [evE]
                refine snd_of (g_kw F h.room hg hm hk (hkb _ _ _ e3 e4) pa (ks_ok (fun e => (ih e).1) (k0 :: kr)) ns e2 (plan_len e4) o1 (fun ρ S ds S1 e => ?_) (fun ρ S ds S1 e => ?_) fun e => ?_) (fun _ => rfl) q
                · have := es_len P.gl _ ρ S ds S1 e
                  rw [List.length_map] at this; exact this
                · have := es_len P.gl _ ρ S ds S1 e
                  rw [List.length_map] at this; rw [this, kw_len e2]
                · subst e
                  intro ρ S
                  simp only [List.map_nil, esOf, evEs]
              · exact snd_never
            · exact snd_never
          · exact snd_never
        · rename_i e1
          split
          · rename_i hb
            have hm := h.bl x hb
            split
            · rename_i ex
              subst ex
              split
              · rename_i a ts k2 p2
                have n2 : isStar a = false := by
                  simp only [noStar, List.all_cons, Bool.and_eq_true, Bool.not_eq_true'] at ns; exact ns.1
                split
                · rename_i tys et
                  split
                  · exact snd_never
                  · rename_i ne
                    obtain ⟨_, pt⟩ := tys_ok h.sc h.bl et
                    refine snd_of (g_isinT hg hm (ih a).1 pt (fun q => ne (.inl (by rw [q]; rfl))) ?_ n2) (fun _ => rfl) (by funext ρ S; simp only [evE])
                    have h100 : ¬ 100 < tys.length := fun q => ne (.inr q)
                    exact Nat.le_trans (Nat.le_of_not_lt h100) (by decide)
                · exact snd_never
              · rename_i a t nt
                split
                · rename_i ty et
                  exact snd_of (g_isin1 hg hm (ih a).1 (tyName_ok h.sc h.bl et) ns) (fun _ => rfl) (by funext ρ S; simp only [evE])
                · exact snd_never
              · exact snd_never
            · split
              · rename_i b eb
                split
                · exact snd_never
                · rename_i ne
                  cases as with
                  | nil => exact absurd rfl ne
                  | cons a as => exact snd_of (g_bi (m := P.mu pos) h.calm hg hm (trBi_ok eb) pa ns o3 o1) (fun _ => rfl) (by funext ρ S; simp only [evE])
              · exact snd_never
          · exact snd_never
        · exact snd_never
      · exact snd_never
    · rename_i o m apos
      split
      · rename_i t a e1
        split
        · rename_i c1
          rw [Bool.and_eq_true, Bool.not_eq_true'] at c1
          exact snd_of (g_mt (m := P.mu pos) e1 (ih o).1 pa ns c1.1 c1.2) (fun _ => rfl) (by funext ρ S; simp only [evE, List.map_cons, List.map_nil])
        · exact snd_never
      · exact snd_never
    · exact snd_never
  · rw [if_neg ns]; exact snd_never
end
end Pyx
end
section
namespace Pyx
open PySem L2
section
variable {P : Pr} {C : Str → List D → Store → R D} {n : Nat} {c : Sc} {X : Cx}
/-! ### targets -/
theorem trTs_len {f : Expr → E} : ∀ {k : Nat} {es : List Expr} {ts : Tgs}, trTs c f k es = some ts → ts.len = es.length
  | 0, _, _, h => by simp [trTs] at h
  | k + 1, [], ts, h => by simp only [trTs, Option.some.injEq] at h; subst h; rfl
  | k + 1, e :: es, ts, h => by
    simp only [trTs] at h
    split at h
    · rename_i t tr h1 h2
      cases h
      simp [Tgs.len, trTs_len h2]
    · cases h
mutual
theorem tg_ok (h : Ctx P C n c X) {f : Expr → E} (ih : ∀ e, Snd P C X e (f e)) : ∀ (k : Nat) (e : Expr) (t : Tg), trT c f k e = some t → PG X e (RG X t.slots (asgT C P.gl t))
  | 0, _, _, q => by simp [trT] at q
  | k + 1, e, t, q => by
    cases e with
    | Name x p =>
      simp only [trT] at q
      obtain ⟨i, e1, rfl⟩ := Option.map_eq_some_iff.mp q
      obtain ⟨h1, h2, h3⟩ := stq_ok e1
      have q2 : asgT C P.gl (.var i) = fun d ρ S => if i < ρ.length then .ok (ρ.set i (some d)) S else .stuck := by funext d ρ S; simp only [asgT]
      rw [q2]
      exact p_var (by rw [h.hN]; exact h.nd) (by rw [h.hN]; exact h1) (by rw [h.sc]; exact h2) (by rw [h.fn, h.sc]; exact h3)
    | Subscript o i p =>
      simp only [trT] at q
      split at q
      · cases q
      · rename_i ns
        cases q
        have q2 : asgT C P.gl (.sub (f o) (f i)) = fun d ρ S => (evE C P.gl (f o) ρ S).bind fun x S1 => (evE C P.gl (f i) ρ S1).bind fun y S2 => match x, y with
          | .ref l, .int k => (match S2[l]? with
            | some (.lst ds) => (match L2.ixN ds.length k with
              | some j => .ok ρ (S2.set l (.lst (ds.set j d)))
              | none => .stuck)
            | _ => .stuck)
          | _, _ => .stuck := by funext d ρ S; simp only [asgT] <;> rfl
        rw [q2]
        exact p_sub (ih o).1 (ih i).1 (by simpa using ns)
    | Tuple es k2 p =>
      simp only [trT] at q
      split at q
      · rename_i ns
        obtain ⟨ts, e1, rfl⟩ := Option.map_eq_some_iff.mp q
        have q2 : asgT C P.gl (.tup ts) = fun d ρ S => match d with
          | .tup ds => if ds.length = ts.len then asgTs C P.gl ts ds ρ S else .stuck
          | _ => .stuck := by funext d ρ S; simp only [asgT] <;> rfl
        rw [q2]
        exact p_tup h.calm (tgs_ok h ih k es ts e1 ns) ns (trTs_len e1)
      · cases q
    | _ => simp [trT] at q
theorem tgs_ok (h : Ctx P C n c X) {f : Expr → E} (ih : ∀ e, Snd P C X e (f e)) : ∀ (k : Nat) (es : List Expr) (ts : Tgs), trTs c f k es = some ts → noStar es = true → PGs X es (RGs X ts.slots (asgTs C P.gl ts))
  | 0, _, _, q, _ => by simp [trTs] at q
  | k + 1, [], ts, q, _ => by
    simp only [trTs, Option.some.injEq] at q
    subst q
    have q2 : asgTs C P.gl .nil = fun ds ρ S => match ds with
      | [] => .ok ρ S
      | _ => .stuck := by funext ds ρ S; cases ds <;> simp only [asgTs]
    rw [q2]
    exact ps_nil
  | k + 1, e :: es, ts, q, ns => by
    simp only [trTs] at q
    simp only [noStar, List.all_cons, Bool.and_eq_true, Bool.not_eq_true'] at ns
    split at q
    · rename_i t tr h1 h2
      cases q
      have q2 : asgTs C P.gl (.cons t tr) = fun ds ρ S => match ds with
        | d :: ds => (asgT C P.gl t d ρ S).bind fun ρ1 S1 => asgTs C P.gl tr ds ρ1 S1
        | [] => .stuck := by funext ds ρ S; cases ds <;> simp only [asgTs]
      rw [q2]
      exact ps_cons (tg_ok h ih k e t h1) (tgs_ok h ih k es tr h2 (by simpa [noStar] using ns.2)) ns.1
    · cases q
end
/-! ### what is walked -/
theorem folded_ok {e : Expr} (h : isSet e = false) (env : PySem.Env) (x : Value) : foldedSetIterable e env x = pure x := by
  cases e <;> first | rfl | (simp [isSet] at h)
theorem src_ok (h : Ctx P C n c X) {f : Expr → E} (ih : ∀ e, Snd P C X e (f e)) {tg e : Expr} {s : Src} (q : trSrc P c f tg e = some s) : PI X tg e (RI X (evSrc C P.gl s)) ∧ isSet e = false := by
  have val : ∀ e, isSet e = false → PI X tg e (RI X (evSrc C P.gl (.val (f e)))) ∧ isSet e = false := fun e ns => by
    have q2 : evSrc C P.gl (.val (f e)) = fun ρ S => (evE C P.gl (f e) ρ S).bind fun d S1 => give S1 (srcVal S1 d) := by funext ρ S; simp only [evSrc]
    rw [q2]
    exact ⟨i_val (ih e).1, ns⟩
  unfold trSrc at q
  split at q
  · rename_i x p as qpos
    split at q
    · rename_i c1
      simp only [Bool.and_eq_true] at c1
      obtain ⟨⟨g1, g2⟩, g3⟩ := c1
      have hg := h.gl' g1
      have hm := h.bl x g2
      split at q
      · rename_i ex
        subst ex
        split at q
        · rename_i c2
          cases q
          rw [Bool.and_eq_true, Bool.or_eq_true, beq_iff_eq, beq_iff_eq] at c2
          obtain ⟨ns, hl⟩ := c2
          have pa := es_ok (P := P) (fun e => (ih e).1) as ns
          have q2 : evSrc C P.gl (.rng (esOf (as.map f))) = fun ρ S => (evEs C P.gl (esOf (as.map f)) ρ S).bind fun ds S1 => give S1 ((srcRng ds).map fun is => (is, none)) := by funext ρ S; simp only [evSrc]
          rw [q2]
          refine ⟨?_, rfl⟩
          match as, hl, ns, pa with
          | [a], _, ns, pa =>
            simp only [noStar, List.all_cons, List.all_nil, Bool.and_true, Bool.not_eq_true'] at ns
            exact i_rng1 hg hm pa ns fun ρ S ds S1 e => by have := es_len P.gl _ ρ S ds S1 e; simpa using this
          | [a, b], _, ns, pa =>
            simp only [noStar, List.all_cons, List.all_nil, Bool.and_true, Bool.and_eq_true, Bool.not_eq_true'] at ns
            exact i_rng2 hg hm pa ns.1 ns.2 fun ρ S ds S1 e => by have := es_len P.gl _ ρ S ds S1 e; simpa using this
        · cases q
      · split at q
        · rename_i ex
          subst ex
          split at q
          · rename_i a elts k tp
            split at q
            · rename_i ns
              cases q
              have q2 : evSrc C P.gl (.enum (f a)) = fun ρ S => (evE C P.gl (f a) ρ S).bind fun d S1 => give S1 (srcEnum S1 d) := by funext ρ S; simp only [evSrc]
              rw [q2]
              simp only [noStar, List.all_cons, List.all_nil, Bool.and_true, Bool.not_eq_true'] at ns
              exact ⟨i_enum hg hm (ih a).1 ns, rfl⟩
            · cases q
          · cases q
        · split at q
          · rename_i ex
            subst ex
            split at q
            · rename_i a b elts k tp
              split at q
              · rename_i ns
                cases q
                have q2 : evSrc C P.gl (.zip (f a) (f b)) = fun ρ S => (evE C P.gl (f a) ρ S).bind fun d S1 => (evE C P.gl (f b) ρ S1).bind fun e S2 => match d, e with
                  | .tup xs, .tup ys => .ok (List.zipWith (fun x y => .tup [x, y]) xs ys, none) S2
                  | .lst xs, .lst ys => .ok (List.zipWith (fun x y => .tup [x, y]) xs ys, none) S2
                  | _, _ => .stuck := by funext ρ S; simp only [evSrc] <;> rfl
                rw [q2]
                simp only [noStar, List.all_cons, List.all_nil, Bool.and_true, Bool.and_eq_true, Bool.not_eq_true'] at ns
                exact ⟨i_zip hg hm (ih a).1 (ih b).1 ns.1 ns.2, rfl⟩
              · cases q
            · cases q
          · split at q
            · cases q
            · cases q
              exact val _ rfl
    · cases q
      exact val _ rfl
  · cases q
  · rename_i h1 h2
    cases q
    exact val e (by cases e <;> first | rfl | (rename_i a b c; exact absurd rfl (h2 a b c)))
/-! ### comprehensions -/
theorem cs_ok {X : Cx} {f : Expr → E} (ih : ∀ e, Snd P C X e (f e)) (ifs : List Expr) (l : ifs.length ≤ 1) : PTs X ifs (RT X (evCs C P.gl (esOf (ifs.map f)))) := by
  match ifs, l with
  | [], _ =>
    have q : evCs C P.gl (esOf ([].map f)) = fun _ S => .ok true S := by funext ρ S; simp only [List.map_nil, esOf, evCs]
    rw [q]
    exact ⟨fun pins s σ H Q I ⟨ρ, S, β, er, sr, g⟩ => pts_nil.run pins s σ H Q I (Go.same g rfl sr)⟩
  | [e], _ =>
    refine ⟨fun pins s σ H Q I ⟨ρ, S, β, er, sr, g⟩ => (pts_one (ih e).2).run pins s σ H Q I ⟨ρ, S, β, er, sr, ?_⟩⟩
    have q : evCs C P.gl (esOf ([e].map f)) ρ S = tst (evE C P.gl (f e)) ρ S := by
      simp only [List.map_cons, List.map_nil, esOf, evCs, tst]
      refine R.bind_congr fun d S1 => ?_
      cases w : condS S1 d with
      | ok b S2 => cases b <;> rfl
      | _ => rfl
    rw [← q]; exact g
theorem plain_wipe {f : Nat → Nat} : True := trivial
theorem swap_no {e : Expr} (h : isComp e = false) (t : Option Expr) (l : Nat) (env : PySem.Env) : swapsWith e t l env = pure false := by
  cases e <;> first | rfl | (simp [isComp] at h)
theorem own_blk {scope : Scope} {own : List (Str × Nat)} (h : Ctx P C n c X) (b : blkC c.N c.sc scope own = true) : BlkOk X.N X.env.scope scope own := by
  rw [h.hN, h.sc]; exact blkOk_by b
/-- a comprehension's parts -/
theorem comp1_ok (h : Ctx P C n c X) {f : Sc → Expr → E} (ih : ∀ (c : Sc) (X : Cx), Ctx P C n c X → ∀ e, Snd P C X e (f c e)) {k : Nat} {elt tg iter : Expr} {ifs : List Expr} {scope : Scope} {pos : Pos} {own : List (Str × Nat)} {s : Src} {t : Tg}
    (b : blkC c.N c.sc scope own = true) (l : ifs.length ≤ 1) (e1 : trSrc P c (f c) tg iter = some s) (e2 : trT (inner c scope) (f (inner c scope)) k tg = some t) (sl : ∀ i ∈ t.slots, i ∈ own.map (·.2)) (m : Bool) :
    (∀ {g : TE}, (PE X (.ListComp elt [⟨tg, iter, ifs, 0⟩] scope pos) g) → True) ∧
    PE X (.ListComp elt [⟨tg, iter, ifs, 0⟩] scope pos) (RE X (evE C P.gl (.comp m (own.map (·.2)) (f (inner c scope) elt) t s (esOf (ifs.map (f (inner c scope))))))) ∧
    (∀ {i : Nat} {y : Str} {py spos : Pos}, c.N[i]? = some y → c.sc.names.lookup y = some .local → swapsWith (.ListComp elt [⟨tg, iter, ifs, 0⟩] scope pos) (some (.Name y py)) spos.line X.env = pure true →
      PS X (.Assign [.Name y py] (.ListComp elt [⟨tg, iter, ifs, 0⟩] scope pos) spos) (RS X fun ρ S => (evE C P.gl (.comp m (own.map (·.2)) (f (inner c scope) elt) t s (esOf (ifs.map (f (inner c scope))))) ρ S).bind fun d S1 => (asgT C P.gl (.var i) d ρ S1).bind fun ρ1 S2 => .ok (.nx ρ1) S2)) := by
  obtain ⟨hi, hs⟩ := src_ok h (ih c X h) e1
  have hN : X.N.Nodup := by rw [h.hN]; exact h.nd
  have ok := own_blk h b
  have hk := ok.kind
  have q : evE C P.gl (.comp m (own.map (·.2)) (f (inner c scope) elt) t s (esOf (ifs.map (f (inner c scope))))) = fun ρ S => (evSrc C P.gl s ρ S).bind fun p S1 => (compGo p.2 (turnC (asgT C P.gl t) (evCs C P.gl (esOf (ifs.map (f (inner c scope))))) (evE C P.gl (f (inner c scope) elt)) (wipeE ρ (own.map (·.2)))) p.1 S1).bind (mkL m) := by
    funext ρ S; simp only [evE]; rfl
  have cv : ∀ σ H Q, RE X (evE C P.gl (.comp m (own.map (·.2)) (f (inner c scope) elt) t s (esOf (ifs.map (f (inner c scope)))))) σ H Q →
      tLc (RI X (evSrc C P.gl s)) (RG X t.slots (asgT C P.gl t)) (RT X (evCs C P.gl (esOf (ifs.map (f (inner c scope)))))) (RE X (evE C P.gl (f (inner c scope) elt))) (own.map (·.2)) σ H Q := fun σ H Q w => by
    rw [q] at w
    exact lc_go (m := m) sl (fun v σ H Q w => w) w
  have hg : ∀ (s : Shared) (H : Hp) (L : Addr) (cl : List (Str × Addr)) (fp : List Addr), PG (X.blk s H scope (compEnvC scope cl L X.env) fp) tg (RG X t.slots (asgT C P.gl t)) := fun s H L cl fp => tg_ok (h.inner scope s H L cl fp hk) (ih _ _ (h.inner scope s H L cl fp hk)) k tg t e2
  have ht : ∀ (s : Shared) (H : Hp) (L : Addr) (cl : List (Str × Addr)) (fp : List Addr), PTs (X.blk s H scope (compEnvC scope cl L X.env) fp) ifs (RT X (evCs C P.gl (esOf (ifs.map (f (inner c scope)))))) := fun s H L cl fp => cs_ok (ih _ _ (h.inner scope s H L cl fp hk)) ifs l
  have he : ∀ (s : Shared) (H : Hp) (L : Addr) (cl : List (Str × Addr)) (fp : List Addr), PE (X.blk s H scope (compEnvC scope cl L X.env) fp) elt (RE X (evE C P.gl (f (inner c scope) elt))) := fun s H L cl fp => (ih _ _ (h.inner scope s H L cl fp hk) elt).1
  have hf : ∀ x, foldedSetIterable iter X.env x = pure x := folded_ok hs X.env
  refine ⟨fun _ => trivial, (pe_lc h.calm hN hi ok hg ht he hf).cv cv, fun {i y py spos} hy hl hsw => ?_⟩
  refine (ps_setLc h.calm hN (by rw [h.hN]; exact hy) (by rw [h.sc]; exact hl) hsw hi ok hg ht he hf).cv ?_
  refine asg_go (sl := [i]) cv fun v σ H Q ⟨d, ρ, S, β, rv, er, sr, g⟩ => ?_
  simp only [asgT] at g
  split at g
  · exact Go.same (t := σ.set i (some v)) g ⟨er.set rv i, fun vs h => wipe_in (h i (List.mem_singleton.mpr rfl))⟩ sr
  · exact g.elim
end
end Pyx
end
section
namespace Pyx
open PySem L2
section
variable {P : Pr} {C : Str → List D → Store → R D} {n : Nat} {c : Sc} {X : Cx}
theorem snd_comp (h : Ctx P C n c X) {f : Sc → Expr → E} (ih : ∀ (c : Sc) (X : Cx), Ctx P C n c X → ∀ e, Snd P C X e (f c e)) (k : Nat) (elt : Expr) (gens : List Comprehension) (scope : Scope) (pos : Pos) :
    Snd P C X (.ListComp elt gens scope pos) (trComp P c f k elt gens scope pos) := by
  unfold trComp
  split
  · rename_i tg iter ifs own e0
    split
    · rename_i c1
      split
      · rename_i s t e1 e2
        split
        · rename_i c2
          rw [Bool.and_eq_true] at c2
          have sl : ∀ i ∈ t.slots, i ∈ own.map (·.2) := fun i hi => by
            have := List.all_eq_true.mp c2.2 i hi
            simpa using this
          exact snd_of (comp1_ok h ih (elt := elt) (pos := pos) c1.1 c1.2 e1 e2 sl (P.mu pos)).2.1 (fun _ => rfl) rfl
        · exact snd_never
      · exact snd_never
    · exact snd_never
  · split
    · rename_i c1
      exact c1.2.2.2.elim
    · exact snd_never
  · exact snd_never
theorem snd_ok : ∀ (k : Nat) (c : Sc) (X : Cx), Ctx P C n c X → ∀ e, Snd P C X e (trE P k c e)
  | 0, _, _, _, _ => snd_never
  | k + 1, c, X, h, e => by
    have ih := snd_ok k
    have ihc := ih c X h
    cases e with
    | Constant v i pos => exact snd_const v i pos
    | Name x pos => exact snd_name h x pos
    | BinOp a o b pos =>
      simp only [trE]
      split
      · rename_i o' e1
        rw [bop_ok e1]
        exact snd_of (g_bin (ihc a).1 (ihc b).1) (fun _ => rfl) (by funext ρ S; simp only [evE])
      · exact snd_never
    | UnaryOp o a pos =>
      cases o with
      | USub =>
        simp only [trE]
        exact snd_of (g_neg (ihc a).1) (fun _ => rfl) (by funext ρ S; simp only [evE] <;> rfl)
      | Not =>
        simp only [trE]
        exact snd_eq (g_not (ihc a).1) (t_not (ihc a).2) (by funext ρ S; simp only [evE])
      | _ => simp only [trE]; exact snd_never
    | BoolOp o es pos =>
      simp only [trE]
      cases es with
      | nil => simp only [trBool]; exact snd_never
      | cons e es =>
        obtain ⟨h1, h2⟩ := snd_bool ihc o pos (e :: es) (by simp)
        exact ⟨h1, h2.pt⟩
    | Compare a ops bs pos => simp only [trE]; exact snd_cmp h ihc a ops bs pos
    | IfExp t a b pos =>
      simp only [trE]
      exact snd_eq (g_ite (ihc t).2 (ihc a).1 (ihc b).1) (t_ite (ihc t).2 (ihc a).2 (ihc b).2) (by funext ρ S; simp only [evE])
    | Tuple es i pos =>
      simp only [trE]
      split
      · rename_i ns
        exact snd_of (g_tup (es_ok (P := P) (fun e => (ihc e).1) es ns)) (fun _ => rfl) (by funext ρ S; simp only [evE])
      · exact snd_never
    | List es pos =>
      simp only [trE]
      split
      · rename_i ns
        exact snd_of (g_lst (m := P.mu pos) (es_ok (P := P) (fun e => (ihc e).1) es ns)) (fun _ => rfl) (by funext ρ S; simp only [evE])
      · exact snd_never
    | Subscript a i pos => simp only [trE]; exact snd_sub ihc a i pos
    | Call g as kws pos => simp only [trE]; exact snd_call h ihc g as kws pos
    | ListComp elt gens scope pos => simp only [trE]; exact snd_comp h ih k elt gens scope pos
    | _ => simp only [trE]; exact snd_never
/-! ### statements -/
theorem swc_ok (h : Ctx P C n c X) {e t : Expr} {b : Bool} (q : swc c e t = some b) (l : Nat) : swapsWith e (some t) l X.env = pure b := by
  unfold swc at q
  split at q
  · rename_i elt gens s p
    split at q
    · rename_i x q1
      cases q
      have hb : X.env.blockKind = .function := by unfold Env.blockKind; rw [h.sc, h.kind]; rfl
      unfold swapsWith Env.kindOf
      simp only [hb, h.sc, Expr.pos]
      congr 1
    · rename_i nt
      cases q
      unfold swapsWith
      cases t <;> first | rfl | (rename_i x q1; exact absurd rfl (nt x q1))
  · cases q
  · cases q
  · rename_i h1 h2 h3
    cases q
    cases e <;> first | rfl | (rename_i a b c d; exact absurd rfl (h1 a b c d)) | (rename_i a b c d; exact absurd rfl (h2 a b c d)) | (rename_i a b c d e; exact absurd rfl (h3 a b c d e))
theorem swp_ok (h : Ctx P C n c X) {t e : Expr} {o : Option (List Str)} (q : swp c [t] e = some o) : swappedStores [t] e X.env = pure o := by
  have hb : X.env.blockKind = .function := by unfold Env.blockKind; rw [h.sc, h.kind]; rfl
  unfold swp at q
  split at q
  · rename_i ts k1 p1 vs k2 p2 hl
    cases hl
    unfold swappedStores Env.kindOf
    simp only [hb, h.sc, bne_self_eq_false, Bool.or_false]
    by_cases c1 : (!(ts.length == 2 || ts.length == 3) || vs.length != ts.length) = true
    · rw [if_pos c1] at q ⊢
      cases q; rfl
    · rw [if_neg c1] at q ⊢
      by_cases c2 : vs.any isStar = true
      · rw [if_pos c2] at q; cases q
      · rw [if_neg c2] at q
        rw [if_neg (fun w => c2 (Eq.trans (congrArg (fun g => vs.any g) (funext fun e => by cases e <;> rfl)) w))]
        dsimp only at q
        generalize hq : List.filterMap _ ts = names at q
        generalize hg : List.filterMap _ ts = names2
        have hn : names2 = names := by
          rw [← hg, ← hq]
        subst hn
        split at q
        · rename_i c3
          cases q
          rw [if_pos c3]
        · rename_i c3
          rw [if_neg c3]
          split at q
          · rename_i c4
            cases q
            rw [if_pos c4]
          · rename_i c4
            split at q
            · cases q
            · rename_i c5
              cases q
              rw [if_neg c4, if_neg c5]
  · cases q
  · rename_i x h2 hx h1
    cases hx
    cases q
    unfold swappedStores
    split
    · rename_i ts vs heq
      split at heq
      · rename_i hx; cases hx; exact (h1 _ _ _ _ _ _ rfl rfl).elim
      · rename_i hx; cases hx; exact (h2 _ _ rfl).elim
      · cases heq
    · rfl
  · cases q
/-! ### statements -/
theorem ps_of {s : Stmt} {s' : S} {W : Nat} {r : Env → Store → R Fl} (h : PS X s (RS X r)) (q : exS C P.gl W s' = r) : PS X s (RS X (exS C P.gl W s')) := by rw [q]; exact h
theorem ps_bad {s : Stmt} {W : Nat} : PS X s (RS X (exS C P.gl W .never)) := ps_of s_never (by funext ρ S; simp only [exS])
theorem tp_get {es : List E} {ρ : Env} {S : Store} {G : Str → Option D} : evE C G (.tup (esOf es)) ρ S = (evEs C G (esOf es) ρ S).bind mkT := by simp only [evE]
theorem comp_of (h : Ctx P C n c X) {W k : Nat} {t : Expr} {elt : Expr} {gens : List Comprehension} {scope : Scope} {pos spos : Pos} {t' : Tg} (e1 : trT c (trE P k c) k t = some t') (e3 : swc c (.ListComp elt gens scope pos) t = some true) :
    PS X (.Assign [t] (.ListComp elt gens scope pos) spos) (RS X (exS C P.gl W (.asg t' (trE P k c (.ListComp elt gens scope pos))))) := by
  have sw := swc_ok h e3 spos.line
  cases t with
  | Name y py =>
    cases k with
    | zero => simp [trT] at e1
    | succ k =>
      simp only [trT] at e1
      obtain ⟨i, e4, rfl⟩ := Option.map_eq_some_iff.mp e1
      have hl : c.sc.names.lookup y = some .local := by
        simp only [swc, Option.some.injEq, Bool.and_eq_true, beq_iff_eq] at e3
        exact e3.1.1
      obtain ⟨hy, _, _⟩ := stq_ok e4
      simp only [trE]
      unfold trComp
      have bad : PS X (.Assign [.Name y py] (.ListComp elt gens scope pos) spos) (RS X (exS C P.gl W (.asg (.var i) .never))) := ps_of s_never (by funext ρ S; simp only [exS, evE, R.bind_stuck])
      split
      · rename_i tg iter ifs own e0
        split
        · rename_i c1
          split
          · rename_i s t e5 e6
            split
            · rename_i c2
              rw [Bool.and_eq_true] at c2
              have sl : ∀ i ∈ t.slots, i ∈ own.map (·.2) := fun i hi => by
                have := List.all_eq_true.mp c2.2 i hi
                simpa using this
              have := (comp1_ok h (fun c X h e => snd_ok k c X h e) (elt := elt) (pos := pos) c1.1 c1.2 e5 e6 sl (P.mu pos)).2.2 (spos := spos) (py := py) hy hl sw
              exact ps_of this (by funext ρ S; simp only [exS])
            · exact bad
          · exact bad
        · exact bad
      · split
        · rename_i c1
          exact c1.2.2.2.elim
        · exact bad
      · exact bad
  | _ => simp [swc] at e3
theorem nm_local {x : Str} {p : Pos} {l : Nat} {y : Str} (h : (if (c.sc.names.lookup x == some .local && p.line == l) = true then some x else none) = some y) : y = x ∧ c.sc.names.lookup x = some .local := by
  split at h
  · rename_i q
    cases h
    rw [Bool.and_eq_true, beq_iff_eq] at q
    exact ⟨rfl, q.1⟩
  · cases h
theorem fm2 {f : Expr → Option Str} {a b : Expr} (h : ([a, b].filterMap f).length = 2) : ∃ x y, f a = some x ∧ f b = some y ∧ [a, b].filterMap f = [x, y] := by
  cases e1 : f a <;> cases e2 : f b <;> simp [e1, e2] at h ⊢
theorem fm3 {f : Expr → Option Str} {a b d : Expr} (h : ([a, b, d].filterMap f).length = 3) : ∃ x y z, f a = some x ∧ f b = some y ∧ f d = some z ∧ [a, b, d].filterMap f = [x, y, z] := by
  cases e1 : f a <;> cases e2 : f b <;> cases e3 : f d <;> simp [e1, e2, e3] at h ⊢
theorem swp2 {x y : Str} {px py pt pt2 : Pos} {kt k2 : Nat} {a b : Expr} {names : List Str} (h : swp c [.Tuple [.Name x px, .Name y py] kt pt] (.Tuple [a, b] k2 pt2) = some (some names)) :
    names = [x, y] ∧ c.sc.names.lookup x = some .local ∧ c.sc.names.lookup y = some .local := by
  simp only [swp] at h
  split at h
  · cases h
  · split at h
    · cases h
    · split at h
      · cases h
      · rename_i c3
        split at h
        · cases h
        · split at h
          · cases h
          · cases h
            rw [Bool.not_eq_true, Bool.or_eq_false_iff, bne_eq_false_iff_eq] at c3
            obtain ⟨u, w, h1, h2, h3⟩ := fm2 c3.1
            obtain ⟨rfl, l1⟩ := nm_local h1
            obtain ⟨rfl, l2⟩ := nm_local h2
            exact ⟨h3, l1, l2⟩
theorem swp3 {x y z : Str} {px py pz pt pt2 : Pos} {kt k2 : Nat} {a b d : Expr} {names : List Str} (h : swp c [.Tuple [.Name x px, .Name y py, .Name z pz] kt pt] (.Tuple [a, b, d] k2 pt2) = some (some names)) :
    names = [x, y, z] ∧ c.sc.names.lookup x = some .local ∧ c.sc.names.lookup y = some .local ∧ c.sc.names.lookup z = some .local := by
  simp only [swp] at h
  split at h
  · cases h
  · split at h
    · cases h
    · split at h
      · cases h
      · rename_i c3
        split at h
        · cases h
        · split at h
          · cases h
          · cases h
            rw [Bool.not_eq_true, Bool.or_eq_false_iff, bne_eq_false_iff_eq] at c3
            obtain ⟨u, w, q, h1, h2, h3, h4⟩ := fm3 c3.1
            obtain ⟨rfl, l1⟩ := nm_local h1
            obtain ⟨rfl, l2⟩ := nm_local h2
            obtain ⟨rfl, l3⟩ := nm_local h3
            exact ⟨h4, l1, l2, l3⟩
theorem trE_tup (k : Nat) (es : List Expr) (i : Nat) (pos : Pos) : trE P (k + 1) c (.Tuple es i pos) = if noStar es then .tup (esOf (es.map (trE P k c))) else .never := rfl
theorem ix_ne {N : List Str} {i j : Nat} {x y : Str} (hi : N[i]? = some x) (hj : N[j]? = some y) (h : x ≠ y) : i ≠ j := fun e => by
  subst e; rw [hi] at hj; cases hj; exact h rfl
theorem par2_ok (h : Ctx P C n c X) {W k : Nat} {x y : Str} {px py pt pt2 pos : Pos} {kt k2 : Nat} {a b : Expr} {names : List Str} {t' : Tg} (e1 : trT c (trE P k c) k (.Tuple [.Name x px, .Name y py] kt pt) = some t')
    (e2 : swp c [.Tuple [.Name x px, .Name y py] kt pt] (.Tuple [a, b] k2 pt2) = some (some names)) (e3 : swc c (.Tuple [a, b] k2 pt2) (.Tuple [.Name x px, .Name y py] kt pt) = some false) (hxy : x ≠ y) :
    PS X (.Assign [.Tuple [.Name x px, .Name y py] kt pt] (.Tuple [a, b] k2 pt2) pos) (RS X (exS C P.gl W (.asg t' (trE P k c (.Tuple [a, b] k2 pt2))))) := by
  obtain ⟨rfl, hx, hy⟩ := swp2 e2
  have bad : PS X (.Assign [.Tuple [.Name x px, .Name y py] kt pt] (.Tuple [a, b] k2 pt2) pos) (RS X (exS C P.gl W (.asg t' .never))) := ps_of s_never (by funext ρ S; simp only [exS, evE, R.bind_stuck])
  match k, e1 with
  | k + 4, e1 =>
    simp only [trT, trTs] at e1
    split at e1
    · obtain ⟨ts, e4, rfl⟩ := Option.map_eq_some_iff.mp e1
      split at e4
      · rename_i t1 tr q1 q2
        cases e4
        obtain ⟨i, hi, rfl⟩ := Option.map_eq_some_iff.mp q1
        split at q2
        · rename_i t2 tr2 q3 q4
          cases q2
          obtain ⟨j, hj, rfl⟩ := Option.map_eq_some_iff.mp q3
          cases q4
          obtain ⟨hi, _, _⟩ := stq_ok hi
          obtain ⟨hj, _, _⟩ := stq_ok hj
          rw [trE_tup (k + 3)]
          split
          · rename_i ns
            have pa := es_ok (P := P) (fun e => (snd_ok (k + 3) c X h e).1) [a, b] ns
            refine (ps_par h.calm (by rw [h.hN]; exact h.nd) (by rw [h.hN]; exact hi) (by rw [h.hN]; exact hj) (ix_ne hi hj hxy) (by rw [h.sc]; exact hx) (by rw [h.sc]; exact hy) pa (swp_ok h e2) (swc_ok h e3 pos.line)).cv fun D σ H ⟨ρ, S, β, er, sr, g⟩ => ?_
            refine ⟨ρ, S, β, er, sr, ?_⟩
            simp only [exS, evE] at g
            rw [R.bind_assoc] at g
            cases q : evEs C P.gl (esOf ([a, b].map (trE P (k + 3) c))) ρ S with
            | stuck => rw [q] at g; exact g.elim
            | exc e S1 => rw [q] at g; exact g
            | ok ds S1 =>
              rw [q] at g
              have l := es_len P.gl _ ρ S ds S1 q
              simp only [List.length_map, List.length_cons, List.length_nil] at l
              match ds, l with
              | [d1, d2], _ =>
                intro vs β1 H1 x1 r1 s1
                obtain ⟨v, w, rfl, rv, rw'⟩ := reps2 r1
                refine ⟨v, w, rfl, ?_⟩
                have z : [d1, d2].length ≤ sizeLine := by show 2 ≤ sizeLine; decide
                rw [R.bind_ok, show mkT [d1, d2] S1 = .ok (.tup [d1, d2]) S1 from if_pos z, R.bind_ok] at g
                simp only [asgT, Tgs.len] at g
                have g : Go X.K (RpF X.K) NX β H ((asgTs C P.gl (.cons (.var i) (.cons (.var j) .nil)) [d1, d2] ρ S1).bind fun ρ1 S2 => .ok (.nx ρ1) S2) (endQ D) := g
                simp only [asgTs, asgT] at g
                by_cases h1 : i < ρ.length
                · rw [if_pos h1, R.bind_ok] at g
                  by_cases h2 : j < (ρ.set i (some d1)).length
                  · rw [if_pos h2, R.bind_ok, R.bind_ok] at g
                    exact Go.same (t := FlV.nx _) (Go.ext g x1) (((er.ext x1).set rv i).set rw' j) s1
                  · rw [if_neg h2] at g; exact g.elim
                · rw [if_neg h1] at g; exact g.elim
          · exact bad
        · cases q2
      · cases e4
    · cases e1
  | 3, e1 => simp [trT, trTs] at e1
  | 2, e1 => simp [trT, trTs] at e1
  | 1, e1 => simp [trT, trTs] at e1
  | 0, e1 => simp [trT] at e1
theorem par3_ok (h : Ctx P C n c X) {W k : Nat} {x y z : Str} {px py pz pt pt2 pos : Pos} {kt k2 : Nat} {a b d : Expr} {names : List Str} {t' : Tg} (e1 : trT c (trE P k c) k (.Tuple [.Name x px, .Name y py, .Name z pz] kt pt) = some t')
    (e2 : swp c [.Tuple [.Name x px, .Name y py, .Name z pz] kt pt] (.Tuple [a, b, d] k2 pt2) = some (some names)) (e3 : swc c (.Tuple [a, b, d] k2 pt2) (.Tuple [.Name x px, .Name y py, .Name z pz] kt pt) = some false) (hxy : x ≠ y) (hxz : x ≠ z) (hyz : y ≠ z) :
    PS X (.Assign [.Tuple [.Name x px, .Name y py, .Name z pz] kt pt] (.Tuple [a, b, d] k2 pt2) pos) (RS X (exS C P.gl W (.asg t' (trE P k c (.Tuple [a, b, d] k2 pt2))))) := by
  obtain ⟨rfl, hx, hy, hz⟩ := swp3 e2
  have bad : PS X (.Assign [.Tuple [.Name x px, .Name y py, .Name z pz] kt pt] (.Tuple [a, b, d] k2 pt2) pos) (RS X (exS C P.gl W (.asg t' .never))) := ps_of s_never (by funext ρ S; simp only [exS, evE, R.bind_stuck])
  match k, e1 with
  | k + 5, e1 =>
    simp only [trT, trTs] at e1
    split at e1
    · obtain ⟨ts, e4, rfl⟩ := Option.map_eq_some_iff.mp e1
      split at e4
      · rename_i t1 tr q1 q2
        cases e4
        obtain ⟨i, hi, rfl⟩ := Option.map_eq_some_iff.mp q1
        split at q2
        · rename_i t2 tr2 q3 q4
          cases q2
          obtain ⟨j, hj, rfl⟩ := Option.map_eq_some_iff.mp q3
          split at q4
          · rename_i t3 tr3 q5 q6
            cases q4
            obtain ⟨l, hl, rfl⟩ := Option.map_eq_some_iff.mp q5
            cases q6
            obtain ⟨hi, _, _⟩ := stq_ok hi
            obtain ⟨hj, _, _⟩ := stq_ok hj
            obtain ⟨hl, _, _⟩ := stq_ok hl
            rw [trE_tup (k + 4)]
            split
            · rename_i ns
              have pa := es_ok (P := P) (fun e => (snd_ok (k + 4) c X h e).1) [a, b, d] ns
              refine (ps_par3 h.calm (by rw [h.hN]; exact h.nd) (by rw [h.hN]; exact hi) (by rw [h.hN]; exact hj) (by rw [h.hN]; exact hl) (ix_ne hi hj hxy) (ix_ne hi hl hxz) (ix_ne hj hl hyz) (by rw [h.sc]; exact hx) (by rw [h.sc]; exact hy) (by rw [h.sc]; exact hz) pa (swp_ok h e2) (swc_ok h e3 pos.line)).cv fun D σ H ⟨ρ, S, β, er, sr, g⟩ => ?_
              refine ⟨ρ, S, β, er, sr, ?_⟩
              simp only [exS, evE] at g
              rw [R.bind_assoc] at g
              cases q : evEs C P.gl (esOf ([a, b, d].map (trE P (k + 4) c))) ρ S with
              | stuck => rw [q] at g; exact g.elim
              | exc e S1 => rw [q] at g; exact g
              | ok ds S1 =>
                rw [q] at g
                have l' := es_len P.gl _ ρ S ds S1 q
                simp only [List.length_map, List.length_cons, List.length_nil] at l'
                match ds, l' with
                | [d1, d2, d3], _ =>
                  intro vs β1 H1 x1 r1 s1
                  obtain ⟨v, vr, rfl, rv, r2⟩ := r1.uncons
                  obtain ⟨w, u, rfl, rw', ru⟩ := reps2 r2
                  refine ⟨v, w, u, rfl, ?_⟩
                  have z : [d1, d2, d3].length ≤ sizeLine := by show 3 ≤ sizeLine; decide
                  rw [R.bind_ok, show mkT [d1, d2, d3] S1 = .ok (.tup [d1, d2, d3]) S1 from if_pos z, R.bind_ok] at g
                  simp only [asgT, Tgs.len] at g
                  have g : Go X.K (RpF X.K) NX β H ((asgTs C P.gl (.cons (.var i) (.cons (.var j) (.cons (.var l) .nil))) [d1, d2, d3] ρ S1).bind fun ρ1 S2 => .ok (.nx ρ1) S2) (endQ D) := g
                  simp only [asgTs, asgT] at g
                  by_cases h1 : i < ρ.length
                  · rw [if_pos h1, R.bind_ok] at g
                    by_cases h2 : j < (ρ.set i (some d1)).length
                    · rw [if_pos h2, R.bind_ok] at g
                      by_cases h3 : l < ((ρ.set i (some d1)).set j (some d2)).length
                      · rw [if_pos h3, R.bind_ok, R.bind_ok] at g
                        exact Go.same (t := FlV.nx _) (Go.ext g x1) ((((er.ext x1).set rv i).set rw' j).set ru l) s1
                      · rw [if_neg h3] at g; exact g.elim
                    · rw [if_neg h2] at g; exact g.elim
                  · rw [if_neg h1] at g; exact g.elim
            · exact bad
          · cases q4
        · cases q2
      · cases e4
    · cases e1
  | 4, e1 => simp [trT, trTs] at e1
  | 3, e1 => simp [trT, trTs] at e1
  | 2, e1 => simp [trT, trTs] at e1
  | 1, e1 => simp [trT, trTs] at e1
  | 0, e1 => simp [trT] at e1
theorem asg_ok (h : Ctx P C n c X) {W k : Nat} {t e : Expr} {pos : Pos} : PS X (.Assign [t] e pos) (RS X (exS C P.gl W (trA P k c t e))) := by
  unfold trA
  split
  · rename_i t' b e1 e2 e3
    have q : exS C P.gl W (.asg t' (trE P k c e)) = fun ρ S => (evE C P.gl (trE P k c e) ρ S).bind fun d S1 => (asgT C P.gl t' d ρ S1).bind fun ρ1 S2 => .ok (.nx ρ1) S2 := by funext ρ S; simp only [exS]
    have plain : b = false → PS X (.Assign [t] e pos) (RS X (exS C P.gl W (.asg t' (trE P k c e)))) := fun hb => by
      subst hb
      refine ps_of ((ps_asg (snd_ok k c X h e).1 (tg_ok h (snd_ok k c X h) k t t' e1) (swc_ok h e3 pos.line) (swp_ok h e2) ?_).cv (asg_go (fun σ H Q w => w) fun v σ H Q w => w)) q
      cases t <;> first | rfl | (cases k <;> simp [trT] at e1)
    cases b with
    | false => exact plain rfl
    | true =>
      cases e with
      | ListComp elt gens scope p => exact comp_of h e1 e3
      | _ => simp [swc] at e3
  · rename_i t' names e1 e2 e3
    split
    · rename_i x px y py kt pt a b k2 pt2
      split
      · exact ps_bad
      · rename_i hxy
        exact par2_ok h e1 e2 e3 hxy
    · rename_i x px y py z pz kt pt a b d k2 pt2
      split
      · exact ps_bad
      · rename_i hxy
        simp only [Bool.or_eq_true, decide_eq_true_eq, not_or] at hxy
        exact par3_ok h e1 e2 e3 hxy.1.1 hxy.1.2 hxy.2
    · exact ps_bad
  · exact ps_bad
end
end Pyx
end
section
/-! Statements by induction; defs; the program. -/
namespace Pyx
open PySem L2
section
variable {P : Pr} {C : Str → List D → Store → R D} {n : Nat} {c : Sc} {X : Cx} {W : Nat}
theorem block_ok {f : Stmt → S} (ih : ∀ s, PS X s (RS X (exS C P.gl W (f s)))) : ∀ ss : List Stmt, PSs X ss (RS X (exSs C P.gl W (ssOf (ss.map f))))
  | [] => by
    have q : exSs C P.gl W (ssOf ([].map f)) = fun ρ S => .ok (.nx ρ) S := by funext ρ S; simp only [List.map_nil, ssOf, exSs]
    rw [q]; exact ss_nil
  | s :: ss => by
    have q : exSs C P.gl W (ssOf ((s :: ss).map f)) = seqR (exS C P.gl W (f s)) (exSs C P.gl W (ssOf (ss.map f))) := by funext ρ S; simp only [List.map_cons, ssOf, exSs]; rfl
    rw [q]; exact ss_cons (ih s) (block_ok ih ss)
theorem stm_ok : ∀ (k : Nat) (c : Sc) (X : Cx), Ctx P C n c X → ∀ s, PS X s (RS X (exS C P.gl W (trS P k c s)))
  | 0, _, _, _, _ => ps_bad
  | k + 1, c, X, h, s => by
    have ih := stm_ok k c X h
    have ie := snd_ok k c X h
    cases s with
    | Assign ts e pos =>
      match ts with
      | [] => exact ps_bad
      | [t] => exact asg_ok h
      | _ :: _ :: _ => exact ps_bad
    | Expr e pos =>
      simp only [trS]
      split
      · exact ps_bad
      · rename_i nc
        exact ps_of (s_expr (ie e).1 (swap_no (by simpa using nc) _ _ _)) (by funext ρ S; simp only [exS])
    | Return o pos =>
      cases o with
      | none => exact ps_of s_retN (by funext ρ S; simp only [trS, exS])
      | some e => exact ps_of (s_ret (ie e).1) (by funext ρ S; rfl)
    | If t a b pos =>
      simp only [trS]
      exact ps_of (s_ite (ie t).2 (block_ok ih a) (block_ok ih b)) (by funext ρ S; simp only [exS])
    | For tg it b els pos =>
      cases els with
      | nil =>
        simp only [trS]
        split
        · rename_i s' t' e1 e2
          obtain ⟨hi, hs⟩ := src_ok h ie e1
          exact ps_of (s_for h.pass h.calm hi (tg_ok h ie k tg t' e2) (block_ok ih b) (folded_ok hs X.env)) (by funext ρ S; simp only [exS])
        · exact ps_bad
      | cons _ _ => exact ps_bad
    | While t b els pos =>
      cases els with
      | nil =>
        simp only [trS]
        exact ps_of (s_while h.pass (ie t).2 (block_ok ih b)) (by funext ρ S; rfl)
      | cons _ _ => exact ps_bad
    | Pass pos => exact ps_of s_pass (by funext ρ S; simp only [trS, exS])
    | Break pos => exact ps_of s_brk (by funext ρ S; simp only [trS, exS])
    | Continue pos => exact ps_of s_cont (by funext ρ S; simp only [trS, exS])
    | _ => exact ps_bad
end
/-! ### defs -/
/-- what the top has left of a def -/
structure DefAt (P : Pr) (K : PySem.W.Frag) (mg : Str → Option Value) (T : Str → Option Df) (x : Str) (ps : List Str) (f : Addr) (fd : FuncData) (st : Stmt) (N : List Str) : Prop where
  fn : Fun K x x st f fd
  glob : mg x = some (.ref f)
  bnd : ∀ us : List Value, us.length = ps.length → bindArgs fd ⟨us, []⟩ = pure (ps.zip us)
  kwb : ∀ n ks pl, P.kw x n ks = true → kwPlan ps n ks = some pl → KB fd ps n ks pl
  scope : FnScope N ps (defScope st)
  tab : ∃ k, T x = some ⟨ps.length, N.length, ssOf ((defBody st).map (trS P k ⟨N, defScope st, fun _ => true⟩))⟩
/-- the whole table -/
structure Prog (P : Pr) (K : PySem.W.Frag) (mg : Str → Option Value) (T : Str → Option Df) : Prop where
  bl : ∀ x, P.bl x = true → mg x = none
  gl : ∀ x d, P.gl x = some d → ∃ u v, mg x = some u ∧ RelV v u ∧ ∀ β H, Rep K β H d v
  fns : ∀ x ps, P.ps x = some ps → ∃ f fd st N, DefAt P K mg T x ps f fd st N
section
variable {K : PySem.W.Frag}
mutual
theorem rep_bnd {β : Bk} {H : Hp} : ∀ {d : D} {v : V}, Rep K β H d v → d.bnd β.b.length = true
  | .non, _, _ => by simp only [D.bnd]
  | .bl _, _, _ => by simp only [D.bnd]
  | .int _, _, _ => by simp only [D.bnd]
  | .str _, _, _ => by simp only [D.bnd]
  | .tup ds, _, h => by
    simp only [Rep] at h
    obtain ⟨_, _, _, _, _, r⟩ := h
    simp only [D.bnd]; exact reps_bnd r
  | .lst ds, _, h => by
    simp only [Rep] at h
    obtain ⟨_, _, _, _, _, r⟩ := h
    simp only [D.bnd]; exact reps_bnd r
  | .fz ds, _, h => by
    simp only [Rep] at h
    obtain ⟨_, _, _, _, _, r⟩ := h
    simp only [D.bnd]; exact reps_bnd r
  | .ref l, _, h => by
    simp only [Rep] at h
    obtain ⟨a, g, _⟩ := h
    simp only [D.bnd, decide_eq_true_eq]
    exact (List.getElem?_eq_some_iff.mp g).1
theorem reps_bnd {β : Bk} {H : Hp} : ∀ {ds : List D} {vs : List V}, Reps K β H ds vs → D.bnds β.b.length ds = true
  | [], _, _ => by simp only [D.bnds]
  | d :: ds, _, h => by
    obtain ⟨v, vr, _, r, t⟩ := h.uncons
    simp only [D.bnds, Bool.and_eq_true]
    exact ⟨rep_bnd r, reps_bnd t⟩
end
mutual
/-- seen from the places of an earlier store -/
theorem Rep.cut {b n z z' : List Addr} {H : Hp} (kz : ∀ a ∈ z', a ∈ z) : ∀ {d : D} {v : V}, Rep K ⟨b ++ n, z⟩ H d v → d.bnd b.length = true → Rep K ⟨b, z'⟩ H d v
  | .non, _, r, _ => by simpa [Rep] using r
  | .bl _, _, r, _ => by simpa [Rep] using r
  | .int _, _, r, _ => by simpa [Rep] using r
  | .str _, _, r, _ => by simpa [Rep] using r
  | .tup ds, _, r, p => by
    simp only [Rep] at r ⊢
    obtain ⟨a, vs, e, t, q, r⟩ := r
    exact ⟨a, vs, e, t.imp_left fun ⟨h1, h2⟩ => ⟨fun m => h1 (List.mem_append_left _ m), h2⟩, q, Reps.cut kz r (by simpa [D.bnd] using p)⟩
  | .lst ds, _, r, p => by
    simp only [Rep] at r ⊢
    obtain ⟨a, vs, e, ⟨h1, h2, h3⟩, q, r⟩ := r
    exact ⟨a, vs, e, ⟨fun m => h1 (List.mem_append_left _ m), fun m => h2 (kz a m), h3⟩, q, Reps.cut kz r (by simpa [D.bnd] using p)⟩
  | .fz ds, _, r, p => by
    simp only [Rep] at r ⊢
    obtain ⟨a, vs, e, t, q, r⟩ := r
    exact ⟨a, vs, e, t.imp_left fun ⟨h1, h2⟩ => ⟨fun m => h1 (List.mem_append_left _ m), h2⟩, q, Reps.cut kz r (by simpa [D.bnd] using p)⟩
  | .ref l, _, r, p => by
    simp only [Rep] at r ⊢
    obtain ⟨a, g, e⟩ := r
    simp only [D.bnd, decide_eq_true_eq] at p
    exact ⟨a, by rw [List.getElem?_append_left p] at g; exact g, e⟩
theorem Reps.cut {b n z z' : List Addr} {H : Hp} (kz : ∀ a ∈ z', a ∈ z) : ∀ {ds : List D} {vs : List V}, Reps K ⟨b ++ n, z⟩ H ds vs → D.bnds b.length ds = true → Reps K ⟨b, z'⟩ H ds vs
  | [], _, r, _ => by simpa [Reps] using r
  | d :: ds, _, r, p => by
    simp only [D.bnds, Bool.and_eq_true] at p
    simp only [Reps] at r ⊢
    obtain ⟨v, vr, e, r, t⟩ := r
    exact ⟨v, vr, e, Rep.cut kz r p.1, Reps.cut kz t p.2⟩
end
theorem crep_bnd {β : Bk} {H : Hp} {c : Cell} {a : Addr} (h : CRep K β H c a) : c.bnd β.b.length = true := by
  cases c with
  | lst ds => obtain ⟨_, _, _, r⟩ := h; exact reps_bnd r
  | ins _ _ => exact h.elim
/-- what was made in a call goes -/
theorem gc_go {β : Bk} {H : Hp} {S S1 : Store} {d : D} {Q : V → Hp → Prop} (s : SRel K β H S) (g : Go K (Rep K) NX β H (gc S d S1) Q) : Go K (Rep K) NX β H (.ok d S1) Q := by
  unfold gc at g
  split at g
  · rename_i c
    obtain ⟨c1, c2, c3⟩ := c
    intro v β' H' x r s1
    obtain ⟨nw, e⟩ := x.pre
    obtain ⟨b', z'⟩ := β'
    have e : b' = β.b ++ nw := e
    subst e
    have kz : ∀ a ∈ β.z, a ∈ z' := x.hid
    have hl : β.b.length = S.length := s.len
    refine g v β H' ⟨⟨[], by simp⟩, fun _ h => h, fun _ h n _ => absurd h n, x.stay, fun _ m n => absurd m n⟩ (Rep.cut kz r (by rw [hl]; exact c1)) ⟨by rw [List.length_take, ← hl, Nat.min_eq_left (by rw [hl]; exact c2)], s.nd, fun l c el => ?_, fun a m => ?_⟩
    · have hlt : l < S.length := by
        have := (List.getElem?_eq_some_iff.mp el).1
        rw [List.length_take] at this; omega
      rw [List.getElem?_take_of_lt hlt] at el
      obtain ⟨a, ga, q⟩ := s1.cell l c el
      have ga : (β.b ++ nw)[l]? = some a := ga
      rw [List.getElem?_append_left (by rw [hl]; exact hlt)] at ga
      have hb : c.bnd β.b.length = true := by
        rcases c3 l c hlt el with h | h
        · obtain ⟨_, _, q⟩ := s.cell l c h
          exact crep_bnd q
        · rw [hl]; exact h
      refine ⟨a, ga, ?_⟩
      cases c with
      | lst ds =>
        obtain ⟨vs, q1, q2, q3⟩ := q
        exact ⟨vs, q1, q2, q3.cut kz hb⟩
      | ins _ _ => exact q
    · obtain ⟨h1, u, h2⟩ := s1.out a (kz a m)
      exact ⟨(s.out a m).1, u, h2⟩
  · exact g
theorem start_rel {β : Bk} {H : Hp} {ds : List D} {vs : List V} {N : List Str} (r : Reps K β H ds vs) : ERel K β H (ds.map some ++ List.replicate (N.length - ds.length) none) (L2.start N vs) := by
  refine ⟨by simp [L2.start, r.length], fun i d e => ?_⟩
  by_cases hi : i < ds.length
  · rw [List.getElem?_append_left (by simpa using hi), List.getElem?_map] at e
    obtain ⟨d', e1, e2⟩ := Option.map_eq_some_iff.mp e
    cases e2
    obtain ⟨v, hv, rv⟩ := r.get e1
    refine ⟨v, ?_, rv⟩
    unfold L2.start
    rw [List.getElem?_append_left (by rw [List.length_map, ← r.length]; exact hi), List.getElem?_map, hv]
    rfl
  · rw [List.getElem?_append_right (by simpa using hi), List.getElem?_replicate] at e
    split at e <;> cases e
theorem prog_ok {P : Pr} {Pg : Program} {w : World} {mg : Str → Option Value} {base : Heap} {T : Str → Option Df} {W : Nat} (G : Prog P K mg T) : ∀ (n : Nat) (x : Str) (ps : List Str) (f : Addr) (fd : FuncData) (st : Stmt) (N : List Str), DefAt P K mg T x ps f fd st N →
    FnOk Pg w K mg base CX0 n f fd ps (spF K (callF T P.gl W n) x ps.length)
  | 0, x, ps, f, fd, st, N, h => by
    refine ⟨fun vs H Q E ⟨ds, S, β, r, s, l, g⟩ => by rw [← r.length, l], fun A outer s H args us vs Q E hr he hb hv hs => ?_⟩
    obtain ⟨ds, S, β, r, s, l, g⟩ := hs
    exact g.elim
  | n + 1, x, ps, f, fd, st, N, h => by
    refine h.fn.ok h.scope (fun vs H Q E ⟨ds, S, β, r, s, l, g⟩ => by rw [← r.length, l]) fun cdv A outer s H vs Q E hr hsp => ?_
    obtain ⟨ds, S, β, r, sr, l, g⟩ := hsp
    obtain ⟨k, hT⟩ := h.tab
    let X : Cx := (cxOf CX0 Pg w K mg base N x (defScope st) f cdv A outer s H E).nox
    have ctx : Ctx P (callF T P.gl W n) n ⟨N, defScope st, fun _ => true⟩ X := by
      refine ⟨rfl, h.scope.nd, rfl, h.scope.kind, rfl, rfl, hr, PassesOwn.never, G.bl, G.gl, fun y qs hy => ?_⟩
      obtain ⟨f', fd', st', N', h'⟩ := G.fns y qs hy
      exact ⟨f', fd', h'.glob, h'.fn.kp, Binds.all h'.bnd, h'.kwb, prog_ok G n y qs f' fd' st' N' h'⟩
    refine ⟨_, block_ok (W := W) (stm_ok k _ X ctx) (defBody st), ds.map some ++ List.replicate (N.length - ps.length) none, S, β, ?_, sr, ?_⟩
    · rw [← l]; exact start_rel r
    · simp only [callF, hT] at g
      rw [if_pos l] at g
      refine (Go.bindB (Rp := RpF K) Ext.refl g).mono fun t H1 ⟨β1, S1, fl, x1, r1, s1, g1⟩ => ?_
      cases fl with
      | nx ρ1 => cases t with
        | nx σ1 => exact gc_go sr g1 .non β1 H1 x1 non_rep s1
        | _ => exact False.elim r1
      | rt d => cases t with
        | rt v => exact gc_go sr g1 v β1 H1 x1 r1 s1
        | _ => exact False.elim r1
      | bk ρ1 => exact g1.elim
      | ct ρ1 => exact g1.elim
end
end Pyx
end
section
/-! From a table of defs to a law. -/
namespace Pyx
open PySem L2
/-! ### equality of the small syntax, looked at -/
mutual
def eqbD : D → D → Bool
  | .non, .non => true
  | .bl a, .bl b => a == b
  | .int a, .int b => a == b
  | .str a, .str b => a == b
  | .tup a, .tup b => eqbDs a b
  | .lst a, .lst b => eqbDs a b
  | .fz a, .fz b => eqbDs a b
  | .ref a, .ref b => a == b
  | _, _ => false
def eqbDs : List D → List D → Bool
  | [], [] => true
  | a :: as, b :: bs => eqbD a b && eqbDs as bs
  | _, _ => false
end
mutual
theorem eqbD_ok : ∀ (a b : D), eqbD a b = true → a = b
  | .non, b, h => by cases b <;> first | rfl | (simp [eqbD] at h)
  | .bl a, b, h => by cases b <;> simp_all [eqbD]
  | .int a, b, h => by cases b <;> simp_all [eqbD]
  | .str a, b, h => by cases b <;> simp_all [eqbD]
  | .tup a, b, h => by
    cases b with
    | tup b => simp only [eqbD] at h; rw [eqbDs_ok a b h]
    | _ => simp [eqbD] at h
  | .lst a, b, h => by
    cases b with
    | lst b => simp only [eqbD] at h; rw [eqbDs_ok a b h]
    | _ => simp [eqbD] at h
  | .fz a, b, h => by
    cases b with
    | fz b => simp only [eqbD] at h; rw [eqbDs_ok a b h]
    | _ => simp [eqbD] at h
  | .ref a, b, h => by cases b <;> simp_all [eqbD]
theorem eqbDs_ok : ∀ (a b : List D), eqbDs a b = true → a = b
  | [], b, h => by cases b <;> simp_all [eqbDs]
  | a :: as, b, h => by
    cases b with
    | nil => simp [eqbDs] at h
    | cons b bs => simp only [eqbDs, Bool.and_eq_true] at h; rw [eqbD_ok a b h.1, eqbDs_ok as bs h.2]
end
mutual
def eqbE : E → E → Bool
  | .never, .never => true
  | .var i, .var j => i == j
  | .con d, .con e => eqbD d e
  | .glob x, .glob y => x == y
  | .tup a, .tup b => eqbEs a b
  | .lst m a, .lst n b => m == n && eqbEs a b
  | .bin o a b, .bin p c d => decide (o = p) && eqbE a c && eqbE b d
  | .neg a, .neg b => eqbE a b
  | .not a, .not b => eqbE a b
  | .and a b, .and c d => eqbE a c && eqbE b d
  | .or a b, .or c d => eqbE a c && eqbE b d
  | .cmp o a b, .cmp p c d => decide (o = p) && eqbE a c && eqbE b d
  | .cmp2 o o2 a b e, .cmp2 p p2 c d f => decide (o = p) && decide (o2 = p2) && eqbE a c && eqbE b d && eqbE e f
  | .ite a b e, .ite c d f => eqbE a c && eqbE b d && eqbE e f
  | .ix a b, .ix c d => eqbE a c && eqbE b d
  | .sl m a b e, .sl n c d f => m == n && eqbE a c && eqbO b d && eqbO e f
  | .rev a, .rev b => eqbE a b
  | .call x a, .call y b => x == y && eqbEs a b
  | .callk x a k ka, .callk y b l kb => x == y && eqbEs a b && k == l && eqbEs ka kb
  | .bi x m a, .bi y n b => decide (x = y) && m == n && eqbEs a b
  | .isin a t, .isin b u => eqbE a b && decide (t = u)
  | .mt x m a c, .mt y n b d => decide (x = y) && m == n && eqbE a b && eqbEs c d
  | .comp m o e t s c, .comp n p f u r d => m == n && o == p && eqbE e f && eqbT t u && eqbR s r && eqbEs c d
  | .comp2 m o e t s c o1 t1 s1 c1, .comp2 n p f u r d p1 u1 r1 d1 => m == n && o == p && eqbE e f && eqbT t u && eqbR s r && eqbEs c d && o1 == p1 && eqbT t1 u1 && eqbR s1 r1 && eqbEs c1 d1
  | _, _ => false
def eqbEs : Es → Es → Bool
  | .nil, .nil => true
  | .cons a b, .cons c d => eqbE a c && eqbEs b d
  | _, _ => false
def eqbO : Ob → Ob → Bool
  | .none, .none => true
  | .some a, .some b => eqbE a b
  | _, _ => false
def eqbT : Tg → Tg → Bool
  | .var i, .var j => i == j
  | .sub a b, .sub c d => eqbE a c && eqbE b d
  | .tup a, .tup b => eqbTs a b
  | _, _ => false
def eqbTs : Tgs → Tgs → Bool
  | .nil, .nil => true
  | .cons a b, .cons c d => eqbT a c && eqbTs b d
  | _, _ => false
def eqbR : Src → Src → Bool
  | .val a, .val b => eqbE a b
  | .rng a, .rng b => eqbEs a b
  | .enum a, .enum b => eqbE a b
  | .zip a b, .zip c d => eqbE a c && eqbE b d
  | _, _ => false
end
mutual
theorem eqbE_ok : ∀ (a b : E), eqbE a b = true → a = b
  | .never, b, h => by cases b <;> first | rfl | (simp [eqbE] at h)
  | .var a, b, h => by cases b <;> simp_all [eqbE]
  | .con a, b, h => by
    cases b with
    | con b => simp only [eqbE] at h; rw [eqbD_ok a b h]
    | _ => simp [eqbE] at h
  | .glob a, b, h => by cases b <;> simp_all [eqbE]
  | .tup a, b, h => by
    cases b with
    | tup b => simp only [eqbE] at h; rw [eqbEs_ok a b h]
    | _ => simp [eqbE] at h
  | .lst m a, b, h => by
    cases b with
    | lst n b => simp only [eqbE, Bool.and_eq_true, beq_iff_eq] at h; rw [h.1, eqbEs_ok a b h.2]
    | _ => simp [eqbE] at h
  | .bin o a c, b, h => by
    cases b with
    | bin p b d => simp only [eqbE, Bool.and_eq_true, decide_eq_true_eq] at h; rw [h.1.1, eqbE_ok a b h.1.2, eqbE_ok c d h.2]
    | _ => simp [eqbE] at h
  | .neg a, b, h => by
    cases b with
    | neg b => simp only [eqbE] at h; rw [eqbE_ok a b h]
    | _ => simp [eqbE] at h
  | .not a, b, h => by
    cases b with
    | not b => simp only [eqbE] at h; rw [eqbE_ok a b h]
    | _ => simp [eqbE] at h
  | .and a c, b, h => by
    cases b with
    | and b d => simp only [eqbE, Bool.and_eq_true] at h; rw [eqbE_ok a b h.1, eqbE_ok c d h.2]
    | _ => simp [eqbE] at h
  | .or a c, b, h => by
    cases b with
    | or b d => simp only [eqbE, Bool.and_eq_true] at h; rw [eqbE_ok a b h.1, eqbE_ok c d h.2]
    | _ => simp [eqbE] at h
  | .cmp o a c, b, h => by
    cases b with
    | cmp p b d => simp only [eqbE, Bool.and_eq_true, decide_eq_true_eq] at h; rw [h.1.1, eqbE_ok a b h.1.2, eqbE_ok c d h.2]
    | _ => simp [eqbE] at h
  | .cmp2 o o2 a c e, b, h => by
    cases b with
    | cmp2 p p2 b d f => simp only [eqbE, Bool.and_eq_true, decide_eq_true_eq] at h; rw [h.1.1.1.1, h.1.1.1.2, eqbE_ok a b h.1.1.2, eqbE_ok c d h.1.2, eqbE_ok e f h.2]
    | _ => simp [eqbE] at h
  | .ite a c e, b, h => by
    cases b with
    | ite b d f => simp only [eqbE, Bool.and_eq_true] at h; rw [eqbE_ok a b h.1.1, eqbE_ok c d h.1.2, eqbE_ok e f h.2]
    | _ => simp [eqbE] at h
  | .ix a c, b, h => by
    cases b with
    | ix b d => simp only [eqbE, Bool.and_eq_true] at h; rw [eqbE_ok a b h.1, eqbE_ok c d h.2]
    | _ => simp [eqbE] at h
  | .sl m a c e, b, h => by
    cases b with
    | sl n b d f => simp only [eqbE, Bool.and_eq_true, beq_iff_eq] at h; rw [h.1.1.1, eqbE_ok a b h.1.1.2, eqbO_ok c d h.1.2, eqbO_ok e f h.2]
    | _ => simp [eqbE] at h
  | .rev a, b, h => by
    cases b with
    | rev b => simp only [eqbE] at h; rw [eqbE_ok a b h]
    | _ => simp [eqbE] at h
  | .call x a, b, h => by
    cases b with
    | call y b => simp only [eqbE, Bool.and_eq_true, beq_iff_eq] at h; rw [h.1, eqbEs_ok a b h.2]
    | _ => simp [eqbE] at h
  | .callk x a k c, b, h => by
    cases b with
    | callk y b l d => simp only [eqbE, Bool.and_eq_true, beq_iff_eq] at h; rw [h.1.1.1, eqbEs_ok a b h.1.1.2, h.1.2, eqbEs_ok c d h.2]
    | _ => simp [eqbE] at h
  | .bi x m a, b, h => by
    cases b with
    | bi y n b => simp only [eqbE, Bool.and_eq_true, beq_iff_eq, decide_eq_true_eq] at h; rw [h.1.1, h.1.2, eqbEs_ok a b h.2]
    | _ => simp [eqbE] at h
  | .isin a t, b, h => by
    cases b with
    | isin b u => simp only [eqbE, Bool.and_eq_true, decide_eq_true_eq] at h; rw [eqbE_ok a b h.1, h.2]
    | _ => simp [eqbE] at h
  | .mt x m a c, b, h => by
    cases b with
    | mt y n b d => simp only [eqbE, Bool.and_eq_true, beq_iff_eq, decide_eq_true_eq] at h; rw [h.1.1.1, h.1.1.2, eqbE_ok a b h.1.2, eqbEs_ok c d h.2]
    | _ => simp [eqbE] at h
  | .comp m o e t s c, b, h => by
    cases b with
    | comp n p f u r d => simp only [eqbE, Bool.and_eq_true, beq_iff_eq] at h; rw [h.1.1.1.1.1, h.1.1.1.1.2, eqbE_ok e f h.1.1.1.2, eqbT_ok t u h.1.1.2, eqbR_ok s r h.1.2, eqbEs_ok c d h.2]
    | _ => simp [eqbE] at h
  | .comp2 m o e t s c o1 t1 s1 c1, b, h => by
    cases b with
    | comp2 n p f u r d p1 u1 r1 d1 =>
      simp only [eqbE, Bool.and_eq_true, beq_iff_eq] at h
      obtain ⟨⟨⟨⟨⟨⟨⟨⟨⟨h1, h2⟩, h3⟩, h4⟩, h5⟩, h6⟩, h7⟩, h8⟩, h9⟩, h10⟩ := h
      rw [h1, h2, eqbE_ok e f h3, eqbT_ok t u h4, eqbR_ok s r h5, eqbEs_ok c d h6, h7, eqbT_ok t1 u1 h8, eqbR_ok s1 r1 h9, eqbEs_ok c1 d1 h10]
    | _ => simp [eqbE] at h
theorem eqbEs_ok : ∀ (a b : Es), eqbEs a b = true → a = b
  | .nil, b, h => by cases b <;> first | rfl | (simp [eqbEs] at h)
  | .cons a c, b, h => by
    cases b with
    | cons b d => simp only [eqbEs, Bool.and_eq_true] at h; rw [eqbE_ok a b h.1, eqbEs_ok c d h.2]
    | _ => simp [eqbEs] at h
theorem eqbO_ok : ∀ (a b : Ob), eqbO a b = true → a = b
  | .none, b, h => by cases b <;> first | rfl | (simp [eqbO] at h)
  | .some a, b, h => by
    cases b with
    | some b => simp only [eqbO] at h; rw [eqbE_ok a b h]
    | _ => simp [eqbO] at h
theorem eqbT_ok : ∀ (a b : Tg), eqbT a b = true → a = b
  | .var a, b, h => by cases b <;> simp_all [eqbT]
  | .sub a c, b, h => by
    cases b with
    | sub b d => simp only [eqbT, Bool.and_eq_true] at h; rw [eqbE_ok a b h.1, eqbE_ok c d h.2]
    | _ => simp [eqbT] at h
  | .tup a, b, h => by
    cases b with
    | tup b => simp only [eqbT] at h; rw [eqbTs_ok a b h]
    | _ => simp [eqbT] at h
theorem eqbTs_ok : ∀ (a b : Tgs), eqbTs a b = true → a = b
  | .nil, b, h => by cases b <;> first | rfl | (simp [eqbTs] at h)
  | .cons a c, b, h => by
    cases b with
    | cons b d => simp only [eqbTs, Bool.and_eq_true] at h; rw [eqbT_ok a b h.1, eqbTs_ok c d h.2]
    | _ => simp [eqbTs] at h
theorem eqbR_ok : ∀ (a b : Src), eqbR a b = true → a = b
  | .val a, b, h => by
    cases b with
    | val b => simp only [eqbR] at h; rw [eqbE_ok a b h]
    | _ => simp [eqbR] at h
  | .rng a, b, h => by
    cases b with
    | rng b => simp only [eqbR] at h; rw [eqbEs_ok a b h]
    | _ => simp [eqbR] at h
  | .enum a, b, h => by
    cases b with
    | enum b => simp only [eqbR] at h; rw [eqbE_ok a b h]
    | _ => simp [eqbR] at h
  | .zip a c, b, h => by
    cases b with
    | zip b d => simp only [eqbR, Bool.and_eq_true] at h; rw [eqbE_ok a b h.1, eqbE_ok c d h.2]
    | _ => simp [eqbR] at h
end
mutual
def eqbS : S → S → Bool
  | .never, .never => true
  | .asg t e, .asg u f => eqbT t u && eqbE e f
  | .expr e, .expr f => eqbE e f
  | .ret e, .ret f => eqbE e f
  | .retN, .retN => true
  | .ite c a b, .ite d e f => eqbE c d && eqbSs a e && eqbSs b f
  | .for t s b, .for u r c => eqbT t u && eqbR s r && eqbSs b c
  | .while c b, .while d e => eqbE c d && eqbSs b e
  | .pass, .pass => true
  | .brk, .brk => true
  | .cont, .cont => true
  | _, _ => false
def eqbSs : Ss → Ss → Bool
  | .nil, .nil => true
  | .cons a b, .cons c d => eqbS a c && eqbSs b d
  | _, _ => false
end
mutual
theorem eqbS_ok : ∀ (a b : S), eqbS a b = true → a = b
  | .never, b, h => by cases b <;> first | rfl | (simp [eqbS] at h)
  | .retN, b, h => by cases b <;> first | rfl | (simp [eqbS] at h)
  | .pass, b, h => by cases b <;> first | rfl | (simp [eqbS] at h)
  | .brk, b, h => by cases b <;> first | rfl | (simp [eqbS] at h)
  | .cont, b, h => by cases b <;> first | rfl | (simp [eqbS] at h)
  | .asg a c, b, h => by
    cases b with
    | asg b d => simp only [eqbS, Bool.and_eq_true] at h; rw [eqbT_ok a b h.1, eqbE_ok c d h.2]
    | _ => simp [eqbS] at h
  | .expr a, b, h => by
    cases b with
    | expr b => simp only [eqbS] at h; rw [eqbE_ok a b h]
    | _ => simp [eqbS] at h
  | .ret a, b, h => by
    cases b with
    | ret b => simp only [eqbS] at h; rw [eqbE_ok a b h]
    | _ => simp [eqbS] at h
  | .ite a c e, b, h => by
    cases b with
    | ite b d f => simp only [eqbS, Bool.and_eq_true] at h; rw [eqbE_ok a b h.1.1, eqbSs_ok c d h.1.2, eqbSs_ok e f h.2]
    | _ => simp [eqbS] at h
  | .for a c e, b, h => by
    cases b with
    | «for» b d f => simp only [eqbS, Bool.and_eq_true] at h; rw [eqbT_ok a b h.1.1, eqbR_ok c d h.1.2, eqbSs_ok e f h.2]
    | _ => simp [eqbS] at h
  | .while a c, b, h => by
    cases b with
    | «while» b d => simp only [eqbS, Bool.and_eq_true] at h; rw [eqbE_ok a b h.1, eqbSs_ok c d h.2]
    | _ => simp [eqbS] at h
theorem eqbSs_ok : ∀ (a b : Ss), eqbSs a b = true → a = b
  | .nil, b, h => by cases b <;> first | rfl | (simp [eqbSs] at h)
  | .cons a c, b, h => by
    cases b with
    | cons b d => simp only [eqbSs, Bool.and_eq_true] at h; rw [eqbS_ok a b h.1, eqbSs_ok c d h.2]
    | _ => simp [eqbSs] at h
end
end Pyx
end
section
namespace Pyx
open PySem L2
/-- what is told of a def -/
structure Row where
  x : Str
  st : Stmt
  ps : List Str
  N : List Str
  kws : List (Nat × List Str)
  body : Ss
def Row.df (r : Row) : Df := ⟨r.ps.length, r.N.length, r.body⟩
def mkPr (hd : List (Str × List Str × List (Nat × List Str))) (gl : List (Str × D)) (bl : List Str) (mu : List (Nat × Nat)) : Pr where
  ps x := (hd.lookup x).map (·.1)
  gl x := gl.lookup x
  bl x := bl.contains x
  mu p := mu.contains (p.line, p.col)
  kw x n ks := match hd.lookup x with
    | some q => q.2.contains (n, ks)
    | none => false
def nodupB : List Str → Bool
  | [] => true
  | x :: xs => !xs.contains x && nodupB xs
theorem nodupB_ok : ∀ {l : List Str}, nodupB l = true → l.Nodup
  | [], _ => .nil
  | x :: xs, h => by
    simp only [nodupB, Bool.and_eq_true, Bool.not_eq_true'] at h
    refine List.nodup_cons.mpr ⟨fun m => ?_, nodupB_ok h.2⟩
    rw [List.contains_iff_mem.mpr m] at h
    exact absurd h.1 (by decide)
/-- the scope suits -/
def Row.scopeOk (r : Row) : Bool :=
  (match (defScope r.st).kind with | .function => true | _ => false) && !(defScope r.st).isCoroutine && !(defScope r.st).isGenerator && nodupB r.N && r.N.take r.ps.length == r.ps &&
  r.ps.all (fun x => match (defScope r.st).names.lookup x with | some .local => true | some .cell => true | _ => false) && (defScope r.st).names.all fun y => match y.2 with | .free => false | _ => true
theorem Row.scope {r : Row} (h : r.scopeOk = true) : FnScope r.N r.ps (defScope r.st) := by
  simp only [Row.scopeOk, Bool.and_eq_true, Bool.not_eq_true', beq_iff_eq] at h
  obtain ⟨⟨⟨⟨⟨⟨h1, h2⟩, h3⟩, h4⟩, h5⟩, h6⟩, h7⟩ := h
  refine ⟨?_, h2, h3, nodupB_ok h4, h5, fun x m => ?_, fun y m q => ?_⟩
  · split at h1
    · assumption
    · cases h1
  · have := List.all_eq_true.mp h6 x m
    split at this
    · rename_i e; exact .inl e
    · rename_i e; exact .inr e
    · cases this
  · have := List.all_eq_true.mp h7 y m
    rw [q] at this
    cases this
def Row.bodyOk (P : Pr) (k : Nat) (r : Row) : Bool := eqbSs r.body (ssOf ((defBody r.st).map (trS P k ⟨r.N, defScope r.st, fun _ => true⟩)))
/-- what the head shows of a def -/
structure Shown (K : PySem.W.Frag) (mg : Str → Option Value) (r : Row) : Prop where
  ex : ∃ f fd, Fun K r.x r.x r.st f fd ∧ mg r.x = some (.ref f) ∧ (∀ us : List Value, us.length = r.ps.length → bindArgs fd ⟨us, []⟩ = pure (r.ps.zip us)) ∧ ∀ p ∈ r.kws, ∀ pl, kwPlan r.ps p.1 p.2 = some pl → KB fd r.ps p.1 p.2 pl
theorem Shown.mk' {K : PySem.W.Frag} {h : Heap} {mg : Str → Option Value} {r : Row} {f : Addr} {oc : Value} {od an : Option Addr} {osl : Array (Option Value)} {kV doc pm cdv ct : Value} (X : K.In h) (G : h.Ns mainGlobals mg)
    (b : ∀ (kV doc pm : Value) (an : Option Addr) (cdv ct : Value) (us : List Value), us.length = r.ps.length → bindArgs (PySem.W.fnOf r.x r.x (defArgs r.st) (defBody r.st) (defScope r.st) .none kV doc pm an cdv ct) ⟨us, []⟩ = pure (r.ps.zip us))
    (kb : ∀ (kV doc pm : Value) (an : Option Addr) (cdv ct : Value), ∀ p ∈ r.kws, ∀ pl, kwPlan r.ps p.1 p.2 = some pl → KB (PySem.W.fnOf r.x r.x (defArgs r.st) (defBody r.st) (defScope r.st) .none kV doc pm an cdv ct) r.ps p.1 p.2 pl)
    (a : PySem.W.nsIn K mainGlobals r.x = some (some (.ref f))) (l : K.lookup f = some ⟨oc, od, .func (PySem.W.fnOf r.x r.x (defArgs r.st) (defBody r.st) (defScope r.st) .none kV doc pm an cdv ct), osl⟩)
    (c : PySem.W.codeIn K cdv r.x = true) (k : PySem.W.keepIn K (.ref f) = true) : Shown K mg r :=
  ⟨f, _, fun_mk l c k, PySem.W.mg_of X G a, b _ _ _ _ _ _, kb _ _ _ _ _ _⟩
def tabOf (rows : List Row) : Str → Option Df := fun x => (rows.map fun r => (r.x, r.df)).lookup x
def hdOf (rows : List Row) : List (Str × List Str × List (Nat × List Str)) := rows.map fun r => (r.x, r.ps, r.kws)
theorem look_row {β : Type} {x : Str} {b : β} (g : Row → β) : ∀ {rows : List Row}, (rows.map fun r => (r.x, g r)).lookup x = some b → ∃ r ∈ rows, r.x = x ∧ g r = b ∧ ∀ {γ : Type} (g2 : Row → γ), (rows.map fun r => (r.x, g2 r)).lookup x = some (g2 r)
  | [], h => by cases h
  | r :: rows, h => by
    rw [List.map_cons, List.lookup_cons] at h
    split at h
    · rename_i e
      cases h
      have e : r.x = x := (beq_iff_eq.mp e).symm
      refine ⟨r, List.mem_cons_self, e, rfl, fun g2 => ?_⟩
      rw [List.map_cons, List.lookup_cons, e, beq_self_eq_true]
    · rename_i e
      obtain ⟨r', m, e1, e2, e3⟩ := look_row g h
      refine ⟨r', List.mem_cons_of_mem _ m, e1, e2, fun g2 => ?_⟩
      rw [List.map_cons, List.lookup_cons, e]
      exact e3 g2
theorem con_rep {d : D} {v : V} {K : PySem.W.Frag} (h : ∀ β H, Rep K β H d v) : ∀ β H, Rep K β H d v := h
theorem Prog.of {K : PySem.W.Frag} {h : Heap} {mg : Str → Option Value} {rows : List Row} {gl : List (Str × D)} {bl : List Str} {mu : List (Nat × Nat)} {k : Nat}
    (X : K.In h) (G : h.Ns mainGlobals mg) (P : Pr) (hP : P = mkPr (hdOf rows) gl bl mu)
    (sc : rows.all Row.scopeOk = true) (bo : rows.all (Row.bodyOk P k) = true) (sh : ∀ r ∈ rows, Shown K mg r)
    (hb : ∀ x ∈ bl, PySem.W.nsIn K mainGlobals x = some none) (hg : ∀ p ∈ gl, ∃ u v, PySem.W.nsIn K mainGlobals p.1 = some (some u) ∧ RelV v u ∧ ∀ β H, Rep K β H p.2 v) : Prog P K mg (tabOf rows) := by
  refine ⟨fun x e => ?_, fun x d e => ?_, fun x ps e => ?_⟩
  · rw [hP] at e
    exact PySem.W.mg_none_of X G (hb x (List.contains_iff_mem.mp e))
  · rw [hP] at e
    obtain ⟨u, v, a, b, c⟩ := hg (x, d) (mem_of_lookup e)
    exact ⟨u, v, PySem.W.mg_of X G a, b, c⟩
  · rw [hP] at e
    have e : ((hdOf rows).lookup x).map (·.1) = some ps := e
    obtain ⟨q, e1, e2⟩ := Option.map_eq_some_iff.mp e
    obtain ⟨r, m, rfl, rfl, all⟩ := look_row (fun r => (r.ps, r.kws)) e1
    cases e2
    obtain ⟨f, fd, F, hm, b, kb⟩ := (sh r m).ex
    have e3 : tabOf rows r.x = some r.df := all Row.df
    have bk : r.bodyOk P k = true := List.all_eq_true.mp bo r m
    refine ⟨f, fd, r.st, r.N, F, hm, b, fun n ks pl e4 e5 => ?_, Row.scope (List.all_eq_true.mp sc r m), k, ?_⟩
    · rw [hP] at e4
      have e4 : (match (hdOf rows).lookup r.x with
        | some q => q.2.contains (n, ks)
        | none => false) = true := e4
      rw [e1] at e4
      exact kb (n, ks) (List.contains_iff_mem.mp e4) pl e5
    · rw [e3, Row.df, eqbSs_ok _ _ bk]
abbrev hdr (x : Str) (ps : List Str) (k : List (Nat × List Str)) : Str × List Str × List (Nat × List Str) := (x, ps, k)
abbrev glv (x : Str) (d : D) : Str × D := (x, d)
/-- which rows do not suit -/
def badRows (P : Pr) (k : Nat) (rows : List Row) : List Str := (rows.filter fun r => !(r.bodyOk P k)).map (·.x)
theorem con_int {K : PySem.W.Frag} {x : Str} {i : Int} {t : Tok} (h : PySem.W.nsIn K mainGlobals x = some (some (.int i t))) : ∃ u v, PySem.W.nsIn K mainGlobals x = some (some u) ∧ RelV v u ∧ ∀ β H, Rep K β H (.int i) v := ⟨_, .int i, h, ⟨_, rfl⟩, fun _ _ => int_rep i⟩
theorem con_str {K : PySem.W.Frag} {x s : Str} {t : Tok} (h : PySem.W.nsIn K mainGlobals x = some (some (.str s t))) (z : s.length ≤ sizeLine) : ∃ u v, PySem.W.nsIn K mainGlobals x = some (some u) ∧ RelV v u ∧ ∀ β H, Rep K β H (.str s) v := ⟨_, .str s, h, ⟨_, rfl⟩, fun _ _ => str_rep z⟩
theorem ints_reps {K : PySem.W.Frag} {β : Bk} {H : Hp} : ∀ ns : List Int, Reps K β H (ns.map D.int) (ns.map V.int)
  | [] => Reps.nil
  | i :: ns => Reps.cons (int_rep i) (ints_reps ns)
theorem walk {l : PySem.W.OpenLaw} {q : Program} {loose : List Str} {XP : (Str → Option Value) → Heap → Prop} {YP : World → Heap → Prop} {d : DefRec} {K : Params → PySem.W.Frag} {P : Pr} {T : Str → Option Df} {W m : Nat} {f : Str} {x : Str}
    (hn : l.most = some 63) (hdf : d.params.defaults = []) (hr : Room m callerA)
    (hY : ∀ (w : World) (h : Heap), YP w h → (K w.params).In h) (hps : P.ps f = some [x]) (hf : d.name = f)
    (F : ∀ (w : World) (mg : Str → Option Value) (h : Heap), (K w.params).In h → h.Ns mainGlobals mg → Prog P (K w.params) mg T)
    (L : ∀ ns : List Int, ns.length ≤ 63 → ∃ S, callF T P.gl W m f [.fz (ns.map .int)] [] = .ok (.bl true) S) :
    PySem.W.WalkO q loose XP YP l.row.toRowW d [] (fun f vs => PySem.call f vs) := by
  refine L2.walk_of (n := 63) (k := m) (x := x) (CX := fun _ => CX0) (sp := fun w => spF (K w.params) (callF T P.gl W m) f 1) hn (by decide) hdf hr hY (fun w mg fa h X G hm => ?_) (fun w H a ns hl ho hs => ?_) fun _ _ _ _ _ z => z
  · have G1 := F w mg h X G
    obtain ⟨f1, fd, st, N, D1⟩ := G1.fns f [x] hps
    rw [hf] at hm
    have e := hm.symm.trans D1.glob
    cases e
    exact ⟨fd, fun s u => .of_eq (D1.bnd [u] rfl), fun base Xb Gb => prog_ok G1 m f [x] fa fd st N D1⟩
  · obtain ⟨S, e⟩ := L ns hl
    refine ⟨[.fz (ns.map .int)], [], ⟨[], []⟩, ?_, ?_, rfl, ?_⟩
    · refine Reps.one ?_
      simp only [Rep]
      refine ⟨a, ns.map .int, rfl, ?_, by rw [List.length_map]; exact Nat.le_trans hl (by decide), ints_reps ns⟩
      rcases hs with hs | hs
      · rcases hs with hs | ⟨o, hs⟩
        · rcases ho a with h0 | ⟨o, xs, h0⟩ <;> rw [hs] at h0 <;> cases h0
        · exact .inl ⟨by simp, o, hs⟩
      · exact .inr hs
    · exact ⟨rfl, .nil, fun l c e => by simp at e, fun a m => by simp at m⟩
    · rw [e]
      intro v β' H' x r s
      cases v <;> simp_all [Rep]
end Pyx
end
section
/-! Reasoning about the reckoning: what comes out of it. -/
namespace Pyx
open PySem (Str sizeLine)
/-- it ends well, with Q -/
def Ok {α : Type} (r : R α) (Q : α → Store → Prop) : Prop := match r with
  | .ok a S => Q a S
  | _ => False
section
variable {α β : Type} {Q : α → Store → Prop} {S : Store}
@[simp] theorem Ok_ok (a : α) : Ok (.ok a S) Q ↔ Q a S := Iff.rfl
@[simp] theorem Ok_stuck : Ok (.stuck : R α) Q ↔ False := Iff.rfl
@[simp] theorem Ok_bind (r : R β) (f : β → Store → R α) : Ok (r.bind f) Q ↔ Ok r fun a S1 => Ok (f a S1) Q := by
  cases r <;> rfl
theorem Ok.mono {r : R α} {P : α → Store → Prop} (h : Ok r P) (k : ∀ a S1, P a S1 → Q a S1) : Ok r Q := by
  cases r with
  | ok a S1 => exact k a S1 h
  | _ => exact h
theorem Ok.get {r : R α} (h : Ok r Q) : ∃ a S1, r = .ok a S1 ∧ Q a S1 := by
  cases r with
  | ok a S1 => exact ⟨a, S1, rfl, h⟩
  | _ => exact h.elim
theorem Ok_eq {r : R α} {a : α} {S1 : Store} (h : r = .ok a S1) : Ok r Q ↔ Q a S1 := by rw [h]; rfl
@[simp] theorem Ok_give (o : Option α) : Ok (give S o) Q ↔ ∃ a, o = some a ∧ Q a S := by
  cases o <;> simp [give]
@[simp] theorem Ok_ite (c : Prop) [Decidable c] (a b : R α) : Ok (if c then a else b) Q ↔ if c then Ok a Q else Ok b Q := by
  split <;> rfl
end
section
variable {Q : D → Store → Prop} {S : Store}
@[simp] theorem Ok_mkL (m : Bool) (ds : List D) : Ok (mkL m ds S) Q ↔ ds.length ≤ sizeLine ∧ if m then Q (.ref S.length) (S ++ [.lst ds]) else Q (.lst ds) S := by
  unfold mkL
  split
  · rename_i h; simp only [h, true_and]; split <;> rfl
  · rename_i h; simp [h]
@[simp] theorem Ok_mkT (ds : List D) : Ok (mkT ds S) Q ↔ ds.length ≤ sizeLine ∧ Q (.tup ds) S := by
  unfold mkT
  split
  · rename_i h; simp [h]
  · rename_i h; simp [h]
@[simp] theorem Ok_mkS (s : Str) : Ok (mkS s S) Q ↔ s.length ≤ sizeLine ∧ Q (.str s) S := by
  unfold mkS
  split
  · rename_i h; simp [h]
  · rename_i h; simp [h]
@[simp] theorem Ok_condS {Q : Bool → Store → Prop} (d : D) : Ok (condS S d) Q ↔ ∃ b, truth S d = some b ∧ Q b S := by simp [condS]
@[simp] theorem Ok_blR (o : Option Bool) : Ok (blR S o) Q ↔ ∃ b, o = some b ∧ Q (.bl b) S := by cases o <;> simp [blR]
@[simp] theorem Ok_intR (o : Option Int) : Ok (intR S o) Q ↔ ∃ b, o = some b ∧ Q (.int b) S := by cases o <;> simp [intR]
end
section
variable {C : Str → List D → Store → R D} {G : Str → Option D} {ρ : Env} {S : Store}
section
variable {Q : D → Store → Prop}
@[simp] theorem Ok_var (i : Nat) : Ok (evE C G (.var i) ρ S) Q ↔ ∃ d, ρ[i]?.join = some d ∧ Q d S := by simp [evE]
@[simp] theorem Ok_con (d : D) : Ok (evE C G (.con d) ρ S) Q ↔ Q d S := by simp [evE]
@[simp] theorem Ok_glob (x : Str) : Ok (evE C G (.glob x) ρ S) Q ↔ ∃ d, G x = some d ∧ Q d S := by simp [evE]
@[simp] theorem Ok_tup (es : Es) : Ok (evE C G (.tup es) ρ S) Q ↔ Ok (evEs C G es ρ S) fun ds S1 => Ok (mkT ds S1) Q := by simp only [evE, Ok_bind]
@[simp] theorem Ok_lst (m : Bool) (es : Es) : Ok (evE C G (.lst m es) ρ S) Q ↔ Ok (evEs C G es ρ S) fun ds S1 => Ok (mkL m ds S1) Q := by simp only [evE, Ok_bind]
@[simp] theorem Ok_bin (o : BOp) (a b : E) : Ok (evE C G (.bin o a b) ρ S) Q ↔ Ok (evE C G a ρ S) fun x S1 => Ok (evE C G b ρ S1) fun y S2 => Ok (binD o x y S2) Q := by simp only [evE, Ok_bind]
@[simp] theorem Ok_neg (a : E) : Ok (evE C G (.neg a) ρ S) Q ↔ Ok (evE C G a ρ S) fun x S1 => ∃ i, x = .int i ∧ Q (.int (-i)) S1 := by
  simp only [evE, Ok_bind]
  constructor <;> intro h <;> refine h.mono fun x S1 k => ?_
  · cases x <;> simp_all
  · obtain ⟨i, rfl, k⟩ := k; exact k
@[simp] theorem Ok_not (a : E) : Ok (evE C G (.not a) ρ S) Q ↔ Ok (evE C G a ρ S) fun x S1 => ∃ b, truth S1 x = some b ∧ Q (.bl (!b)) S1 := by simp only [evE, Ok_bind, Ok_condS, Ok_ok]
@[simp] theorem Ok_and (a b : E) : Ok (evE C G (.and a b) ρ S) Q ↔ Ok (evE C G a ρ S) fun x S1 => ∃ c, truth S1 x = some c ∧ if c then Ok (evE C G b ρ S1) Q else Q x S1 := by simp only [evE, Ok_bind, Ok_condS, Ok_ite, Ok_ok]
@[simp] theorem Ok_or (a b : E) : Ok (evE C G (.or a b) ρ S) Q ↔ Ok (evE C G a ρ S) fun x S1 => ∃ c, truth S1 x = some c ∧ if c then Q x S1 else Ok (evE C G b ρ S1) Q := by simp only [evE, Ok_bind, Ok_condS, Ok_ite, Ok_ok]
@[simp] theorem Ok_cmp (o : COp) (a b : E) : Ok (evE C G (.cmp o a b) ρ S) Q ↔ Ok (evE C G a ρ S) fun x S1 => Ok (evE C G b ρ S1) fun y S2 => ∃ r, cmpB o x y S2 = some r ∧ Q (.bl r) S2 := by simp only [evE, Ok_bind, cmpD, Ok_blR]
@[simp] theorem Ok_cmp2 (o p : COp) (a b c : E) : Ok (evE C G (.cmp2 o p a b c) ρ S) Q ↔ Ok (evE C G a ρ S) fun x S1 => Ok (evE C G b ρ S1) fun y S2 => ∃ r, cmpB o x y S2 = some r ∧ if r then Ok (evE C G c ρ S2) fun z S4 => ∃ r, cmpB p y z S4 = some r ∧ Q (.bl r) S4 else Q (.bl false) S2 := by
  simp only [evE, Ok_bind, Ok_give, Ok_ite, cmpD, Ok_blR, Ok_ok]
@[simp] theorem Ok_eite (c a b : E) : Ok (evE C G (.ite c a b) ρ S) Q ↔ Ok (evE C G c ρ S) fun x S1 => ∃ k, truth S1 x = some k ∧ if k then Ok (evE C G a ρ S1) Q else Ok (evE C G b ρ S1) Q := by simp only [evE, Ok_bind, Ok_condS, Ok_ite]
@[simp] theorem Ok_ix (a i : E) : Ok (evE C G (.ix a i) ρ S) Q ↔ Ok (evE C G a ρ S) fun x S1 => Ok (evE C G i ρ S1) fun y S2 => Ok (ixD x y S2) Q := by simp only [evE, Ok_bind]
@[simp] theorem Ok_sl (m : Bool) (a : E) (lo hi : Ob) : Ok (evE C G (.sl m a lo hi) ρ S) Q ↔ Ok (evE C G a ρ S) fun x S1 => Ok (evO C G lo ρ S1) fun l S2 => Ok (evO C G hi ρ S2) fun h S3 => Ok (slD m x l h S3) Q := by simp only [evE, Ok_bind]
@[simp] theorem Ok_rev (a : E) : Ok (evE C G (.rev a) ρ S) Q ↔ Ok (evE C G a ρ S) fun x S1 => ∃ ds, x = .tup ds ∧ Ok (mkT ds.reverse S1) Q := by
  simp only [evE, Ok_bind]
  constructor <;> intro h <;> refine h.mono fun x S1 k => ?_
  · cases x <;> simp_all
  · obtain ⟨i, rfl, k⟩ := k; exact k
@[simp] theorem Ok_call (f : Str) (es : Es) : Ok (evE C G (.call f es) ρ S) Q ↔ Ok (evEs C G es ρ S) fun ds S1 => Ok (C f ds S1) Q := by simp only [evE, Ok_bind]
@[simp] theorem Ok_callk (f : Str) (es : Es) (ks : List Nat) (kes : Es) : Ok (evE C G (.callk f es ks kes) ρ S) Q ↔ Ok (evEs C G es ρ S) fun ds S1 => Ok (evEs C G kes ρ S1) fun ws S2 => ∃ us, ks.mapM (fun i => (ds ++ ws)[i]?) = some us ∧ Ok (C f us S2) Q := by simp only [evE, Ok_bind, Ok_give]
@[simp] theorem Ok_bi (b : Bi) (m : Bool) (es : Es) : Ok (evE C G (.bi b m es) ρ S) Q ↔ Ok (evEs C G es ρ S) fun ds S1 => Ok (biD b m ds S1) Q := by simp only [evE, Ok_bind]
@[simp] theorem Ok_isin (a : E) (ts : List Ty) : Ok (evE C G (.isin a ts) ρ S) Q ↔ Ok (evE C G a ρ S) fun x S1 => ∃ b, isTys x S1 ts = some b ∧ Q (.bl b) S1 := by simp only [evE, Ok_bind, Ok_give, Ok_ok]
@[simp] theorem Ok_mt (t : Mt) (m : Bool) (a : E) (es : Es) : Ok (evE C G (.mt t m a es) ρ S) Q ↔ Ok (evE C G a ρ S) fun x S1 => if mtTy t x S1 then Ok (evEs C G es ρ S1) fun ds S2 => Ok (mtD t m x ds S2) Q else False := by simp only [evE, Ok_bind, Ok_ite, Ok_stuck]
theorem Ok_comp (m : Bool) (own : List Nat) (e : E) (t : Tg) (s : Src) (cs : Es) : Ok (evE C G (.comp m own e t s cs) ρ S) Q ↔ Ok (evSrc C G s ρ S) fun p S1 =>
      Ok (compGo p.2 (fun x S2 => (asgT C G t x (wipeE ρ own) S2).bind fun ρ1 S3 => (evCs C G cs ρ1 S3).bind fun b S4 =>
        if b then (evE C G e ρ1 S4).bind fun y S5 => .ok [y] S5 else .ok [] S4) p.1 S1) fun ds S2 => Ok (mkL m ds S2) Q := by simp only [evE, Ok_bind]
end
section
variable {Q : List D → Store → Prop}
@[simp] theorem Ok_enil : Ok (evEs C G .nil ρ S) Q ↔ Q [] S := by simp only [evEs, Ok_ok]
@[simp] theorem Ok_econs (e : E) (es : Es) : Ok (evEs C G (.cons e es) ρ S) Q ↔ Ok (evE C G e ρ S) fun d S1 => Ok (evEs C G es ρ S1) fun ds S2 => Q (d :: ds) S2 := by simp only [evEs, Ok_bind, Ok_ok]
end
@[simp] theorem Ok_onone {Q : Option Int → Store → Prop} : Ok (evO C G .none ρ S) Q ↔ Q none S := by simp only [evO, Ok_ok]
@[simp] theorem Ok_osome {Q : Option Int → Store → Prop} (e : E) : Ok (evO C G (.some e) ρ S) Q ↔ Ok (evE C G e ρ S) fun d S1 => ∃ i, asI d = some i ∧ Q (some i) S1 := by simp only [evO, Ok_bind, Ok_give, Ok_ok]
@[simp] theorem Ok_cnil {Q : Bool → Store → Prop} : Ok (evCs C G .nil ρ S) Q ↔ Q true S := by simp only [evCs, Ok_ok]
@[simp] theorem Ok_ccons {Q : Bool → Store → Prop} (e : E) (es : Es) : Ok (evCs C G (.cons e es) ρ S) Q ↔ Ok (evE C G e ρ S) fun d S1 => ∃ b, truth S1 d = some b ∧ if b then Ok (evCs C G es ρ S1) Q else Q false S1 := by simp only [evCs, Ok_bind, Ok_condS, Ok_ite, Ok_ok]
def exO {α : Type} (o : Option α) (P : α → Prop) : Prop := match o with
  | some a => P a
  | none => False
@[simp] theorem exO_some {α : Type} (a : α) (P : α → Prop) : exO (some a) P = P a := rfl
@[simp] theorem exO_none {α : Type} (P : α → Prop) : exO none P = False := rfl
section
variable {Q : List D × Guard → Store → Prop}
@[simp] theorem Ok_sval (e : E) : Ok (evSrc C G (.val e) ρ S) Q ↔ Ok (evE C G e ρ S) fun d S1 => exO (srcVal S1 d) fun p => Q p S1 := by
  simp only [evSrc, Ok_bind]
  constructor <;> intro h <;> refine h.mono fun x S1 k => ?_
  · cases e : srcVal S1 x <;> rw [e] at k <;> exact k
  · cases e : srcVal S1 x <;> rw [e] at k <;> exact k
@[simp] theorem Ok_srng (es : Es) : Ok (evSrc C G (.rng es) ρ S) Q ↔ Ok (evEs C G es ρ S) fun ds S1 => exO (srcRng ds) fun is => Q (is, none) S1 := by
  simp only [evSrc, Ok_bind]
  constructor <;> intro h <;> refine h.mono fun x S1 k => ?_
  · cases e : srcRng x <;> rw [e] at k <;> exact k
  · cases e : srcRng x <;> rw [e] at k <;> exact k
@[simp] theorem Ok_senum (e : E) : Ok (evSrc C G (.enum e) ρ S) Q ↔ Ok (evE C G e ρ S) fun d S1 => exO (srcEnum S1 d) fun p => Q p S1 := by
  simp only [evSrc, Ok_bind]
  constructor <;> intro h <;> refine h.mono fun x S1 k => ?_
  · cases e : srcEnum S1 x <;> rw [e] at k <;> exact k
  · cases e : srcEnum S1 x <;> rw [e] at k <;> exact k
end
section
variable {Q : Env → Store → Prop}
@[simp] theorem Ok_tvar (i : Nat) (d : D) : Ok (asgT C G (.var i) d ρ S) Q ↔ i < ρ.length ∧ Q (ρ.set i (some d)) S := by
  simp only [asgT, Ok_ite, Ok_ok, Ok_stuck]
  by_cases h : i < ρ.length
  · simp only [h, if_true, true_and]
  · simp only [h, if_false, false_and]
@[simp] theorem Ok_tsub (o i : E) (d : D) : Ok (asgT C G (.sub o i) d ρ S) Q ↔ Ok (evE C G o ρ S) fun x S1 => Ok (evE C G i ρ S1) fun y S2 => ∃ l k ds j, x = .ref l ∧ y = .int k ∧ S2[l]? = some (.lst ds) ∧ L2.ixN ds.length k = some j ∧ Q ρ (S2.set l (.lst (ds.set j d))) := by
  simp only [asgT, Ok_bind]
  constructor <;> intro h <;> refine h.mono fun x S1 h => h.mono fun y S2 h => ?_
  · split at h
    · split at h
      · split at h
        · rename_i e _ _ e2; exact ⟨_, _, _, _, rfl, rfl, e, e2, h⟩
        · exact h.elim
      · exact h.elim
    · exact h.elim
  · obtain ⟨l, k, ds, j, rfl, rfl, e, e2, q⟩ := h
    simp only [e, e2, Ok_ok, q]
@[simp] theorem Ok_ttup (ts : Tgs) (d : D) : Ok (asgT C G (.tup ts) d ρ S) Q ↔ ∃ ds, d = .tup ds ∧ ds.length = ts.len ∧ Ok (asgTs C G ts ds ρ S) Q := by
  simp only [asgT]
  constructor
  · intro h
    split at h
    · split at h
      · rename_i e; exact ⟨_, rfl, e, h⟩
      · exact h.elim
    · exact h.elim
  · rintro ⟨ds, rfl, e, h⟩
    simp only [e, if_true, h]
@[simp] theorem Ok_tnil : Ok (asgTs C G .nil [] ρ S) Q ↔ Q ρ S := by simp only [asgTs, Ok_ok]
@[simp] theorem Ok_tcons (t : Tg) (ts : Tgs) (d : D) (ds : List D) : Ok (asgTs C G (.cons t ts) (d :: ds) ρ S) Q ↔ Ok (asgT C G t d ρ S) fun ρ1 S1 => Ok (asgTs C G ts ds ρ1 S1) Q := by simp only [asgTs, Ok_bind]
end
section
variable {Q : Fl → Store → Prop} {W : Nat}
@[simp] theorem Ok_asg (t : Tg) (e : E) : Ok (exS C G W (.asg t e) ρ S) Q ↔ Ok (evE C G e ρ S) fun d S1 => Ok (asgT C G t d ρ S1) fun ρ1 S2 => Q (.nx ρ1) S2 := by simp only [exS, Ok_bind, Ok_ok]
@[simp] theorem Ok_expr (e : E) : Ok (exS C G W (.expr e) ρ S) Q ↔ Ok (evE C G e ρ S) fun _ S1 => Q (.nx ρ) S1 := by simp only [exS, Ok_bind, Ok_ok]
@[simp] theorem Ok_ret (e : E) : Ok (exS C G W (.ret e) ρ S) Q ↔ Ok (evE C G e ρ S) fun d S1 => Q (.rt d) S1 := by simp only [exS, Ok_bind, Ok_ok]
@[simp] theorem Ok_retN : Ok (exS C G W .retN ρ S) Q ↔ Q (.rt .non) S := by simp only [exS, Ok_ok]
@[simp] theorem Ok_site (c : E) (a b : Ss) : Ok (exS C G W (.ite c a b) ρ S) Q ↔ Ok (evE C G c ρ S) fun x S1 => ∃ k, truth S1 x = some k ∧ if k then Ok (exSs C G W a ρ S1) Q else Ok (exSs C G W b ρ S1) Q := by simp only [exS, Ok_bind, Ok_condS, Ok_ite]
theorem Ok_for (t : Tg) (s : Src) (b : Ss) : Ok (exS C G W (.for t s b) ρ S) Q ↔ Ok (evSrc C G s ρ S) fun p S1 => Ok (forGo p.2 (fun x ρ1 S2 => (asgT C G t x ρ1 S2).bind fun ρ2 S3 => exSs C G W b ρ2 S3) p.1 ρ S1) Q := by simp only [exS, Ok_bind]
@[simp] theorem Ok_pass : Ok (exS C G W .pass ρ S) Q ↔ Q (.nx ρ) S := by simp only [exS, Ok_ok]
@[simp] theorem Ok_snil : Ok (exSs C G W .nil ρ S) Q ↔ Q (.nx ρ) S := by simp only [exSs, Ok_ok]
/-- what stands behind a statement -/
def after (Q : Fl → Store → Prop) (k : Env → Store → Prop) (fl : Fl) (S : Store) : Prop := match fl with
  | .nx ρ => k ρ S
  | fl => Q fl S
@[simp] theorem after_nx (k : Env → Store → Prop) : after Q k (.nx ρ) S = k ρ S := rfl
@[simp] theorem after_rt (k : Env → Store → Prop) (d : D) : after Q k (.rt d) S = Q (.rt d) S := rfl
@[simp] theorem after_bk (k : Env → Store → Prop) : after Q k (.bk ρ) S = Q (.bk ρ) S := rfl
@[simp] theorem after_ct (k : Env → Store → Prop) : after Q k (.ct ρ) S = Q (.ct ρ) S := rfl
@[simp] theorem Ok_scons (s : Pyx.S) (ss : Ss) : Ok (exSs C G W (.cons s ss) ρ S) Q ↔ Ok (exS C G W s ρ S) (after Q fun ρ1 S1 => Ok (exSs C G W ss ρ1 S1) Q) := by
  simp only [exSs, Ok_bind]
  constructor <;> intro h <;> refine h.mono fun fl S1 k => ?_ <;> cases fl <;> exact k
end
end
section
variable {S : Store}
@[simp] theorem truth_bl (b : Bool) : truth S (.bl b) = some b := rfl
@[simp] theorem truth_int (i : Int) : truth S (.int i) = some (i != 0) := rfl
@[simp] theorem truth_non : truth S .non = some false := rfl
@[simp] theorem truth_str (s : Str) : truth S (.str s) = some ((s.length : Int) != 0) := rfl
@[simp] theorem truth_tup (ds : List D) : truth S (.tup ds) = some (!ds.isEmpty) := rfl
@[simp] theorem truth_lst (ds : List D) : truth S (.lst ds) = some (!ds.isEmpty) := rfl
@[simp] theorem isTys_nil (d : D) : isTys d S [] = some false := rfl
@[simp] theorem isTy_non (t : Ty) : isTy .non S t = some false := rfl
@[simp] theorem isTy_bl (b : Bool) (t : Ty) : isTy (.bl b) S t = some (decide (t = .int) || decide (t = .bool)) := rfl
@[simp] theorem isTy_int (i : Int) (t : Ty) : isTy (.int i) S t = some (decide (t = .int)) := rfl
@[simp] theorem isTy_str (s : Str) (t : Ty) : isTy (.str s) S t = some (decide (t = .str)) := rfl
@[simp] theorem isTy_tup (ds : List D) (t : Ty) : isTy (.tup ds) S t = some (decide (t = .tuple)) := rfl
@[simp] theorem isTy_lst (ds : List D) (t : Ty) : isTy (.lst ds) S t = some (decide (t = .list)) := rfl
@[simp] theorem isTy_fz (ds : List D) (t : Ty) : isTy (.fz ds) S t = some (decide (t = .list)) := rfl
@[simp] theorem isTys_cons {d : D} {t : Ty} {ts : List Ty} : isTys d S (t :: ts) = (isTy d S t).bind fun a => (isTys d S ts).map fun b => a || b := rfl
@[simp] theorem cmpB_eq (d e : D) : cmpB .eq d e S = eqD S d e := rfl
@[simp] theorem cmpB_ne (d e : D) : cmpB .ne d e S = (eqD S d e).map (!·) := rfl
@[simp] theorem cmpB_lt (i j : Int) : cmpB .lt (.int i) (.int j) S = some (decide (i < j)) := rfl
@[simp] theorem cmpB_le (i j : Int) : cmpB .le (.int i) (.int j) S = some (decide (i ≤ j)) := rfl
@[simp] theorem cmpB_gt (i j : Int) : cmpB .gt (.int i) (.int j) S = some (decide (j < i)) := rfl
@[simp] theorem cmpB_ge (i j : Int) : cmpB .ge (.int i) (.int j) S = some (decide (j ≤ i)) := rfl
@[simp] theorem cmpB_is (d e : D) : cmpB .is d e S = isD d e := rfl
@[simp] theorem cmpB_isnot (d e : D) : cmpB .isnot d e S = (isD d e).map (!·) := rfl
@[simp] theorem cmpB_isin (d e : D) : cmpB .isin d e S = inD S d e := rfl
@[simp] theorem cmpB_notin (d e : D) : cmpB .notin d e S = (inD S d e).map (!·) := rfl
@[simp] theorem eqD_int (i j : Int) : eqD S (.int i) (.int j) = some (i == j) := by
  simp [eqD, flatL, D.pure, D.depth, D.sok, D.eq]
@[simp] theorem eqD_str (s t : Str) : eqD S (.str s) (.str t) = some (s == t) := rfl
@[simp] theorem eqD_bl (s t : Bool) : eqD S (.bl s) (.bl t) = some (s == t) := by
  simp [eqD, flatL, D.pure, D.depth, D.sok, D.eq]
@[simp] theorem binD_add (i j : Int) : binD .add (.int i) (.int j) S = .ok (.int (i + j)) S := rfl
@[simp] theorem binD_sub (i j : Int) : binD .sub (.int i) (.int j) S = .ok (.int (i - j)) S := rfl
@[simp] theorem Ok_mul {Q : D → Store → Prop} (i j : Int) : Ok (binD .mul (.int i) (.int j) S) Q ↔ mulOk i j = true ∧ Q (.int (i * j)) S := by
  simp only [binD, mulD, Ok_ite, Ok_ok, Ok_stuck]
  by_cases h : mulOk i j = true <;> simp [h]
@[simp] theorem Ok_adds {Q : D → Store → Prop} (s t : Str) : Ok (binD .add (.str s) (.str t) S) Q ↔ s.length + t.length ≤ sizeLine ∧ Q (.str (s ++ t)) S := by
  simp only [binD, addD, Ok_ite, Ok_ok, Ok_stuck]
  by_cases h : s.length + t.length ≤ sizeLine <;> simp [h]
@[simp] theorem Ok_addt {Q : D → Store → Prop} (s t : List D) : Ok (binD .add (.tup s) (.tup t) S) Q ↔ s.length + t.length ≤ sizeLine ∧ Q (.tup (s ++ t)) S := by
  simp only [binD, addD, Ok_ite, Ok_ok, Ok_stuck]
  by_cases h : s.length + t.length ≤ sizeLine <;> simp [h]
@[simp] theorem Ok_addl {Q : D → Store → Prop} (s t : List D) : Ok (binD .add (.lst s) (.lst t) S) Q ↔ s.length + t.length ≤ sizeLine ∧ Q (.lst (s ++ t)) S := by
  simp only [binD, addD, asL, Ok_ite, Ok_ok, Ok_stuck]
  by_cases h : s.length + t.length ≤ sizeLine <;> simp [h]
/-- a mark that is positive and not too great -/
def posOk (j : Int) : Bool := decide (0 < j ∧ j < 2 ^ 64)
theorem log_small {j : Int} (h0 : 0 < j) (h : j < 2 ^ 64) : j.natAbs.log2 < 9000 := by
  have : j.natAbs < 2 ^ 64 := by omega
  have h2 : j.natAbs.log2 < 64 := (Nat.log2_lt (by omega)).mpr this
  omega
theorem binD_fdiv {i j : Int} (h : posOk j = true) : binD .fdiv (.int i) (.int j) S = .ok (.int (i / j)) S := by
  simp only [posOk, decide_eq_true_eq] at h
  simp only [binD, fdivD]
  rw [if_pos ⟨h.1, log_small h.1 h.2⟩]
theorem binD_mod {i j : Int} (h : 0 < j) : binD .mod (.int i) (.int j) S = .ok (.int (i % j)) S := by
  simp only [binD, modD]
  rw [if_pos h]
theorem mulOk_r {i j : Int} (h : -(2 ^ 64) < j ∧ j < 2 ^ 64) : mulOk i j = true := by
  unfold mulOk
  rw [Bool.or_eq_true, Bool.or_eq_true]
  exact .inl (.inr (decide_eq_true h))
theorem mulOk_l {i j : Int} (h : -(2 ^ 64) < i ∧ i < 2 ^ 64) : mulOk i j = true := by
  unfold mulOk
  rw [Bool.or_eq_true, Bool.or_eq_true]
  exact .inl (.inl (decide_eq_true h))
end
/-! ### defs -/
/-- what a body leaves behind -/
def leave (S : Store) (Q : D → Store → Prop) (fl : Fl) (S1 : Store) : Prop := match fl with
  | .rt d => Ok (gc S d S1) Q
  | .nx _ => Ok (gc S .non S1) Q
  | _ => False
@[simp] theorem leave_rt (S : Store) (Q : D → Store → Prop) (d : D) (S1 : Store) : leave S Q (.rt d) S1 = Ok (gc S d S1) Q := rfl
@[simp] theorem leave_nx (S : Store) (Q : D → Store → Prop) (ρ : Env) (S1 : Store) : leave S Q (.nx ρ) S1 = Ok (gc S .non S1) Q := rfl
theorem Ok_callF {T : Str → Option Df} {G : Str → Option D} {W n : Nat} {f : Str} {ds : List D} {S : Store} {Q : D → Store → Prop} {np nl : Nat} {b : Ss} (h : T f = some ⟨np, nl, b⟩) (l : ds.length = np) :
    Ok (callF T G W (n + 1) f ds S) Q ↔ Ok (exSs (callF T G W n) G W b (ds.map some ++ List.replicate (nl - np) none) S) (leave S Q) := by
  simp only [callF, h, if_pos l, Ok_bind]
  constructor <;> intro h <;> refine h.mono fun fl S1 k => ?_ <;> cases fl <;> exact k
@[simp] theorem gc_same (S : Store) (d : D) : gc S d S = .ok d S := by
  unfold gc
  split
  · rw [List.take_length]
  · rfl
theorem gc_len {S S1 : Store} (d : D) (h : S1.length = S.length) : gc S d S1 = .ok d S1 := by
  unfold gc
  split
  · rw [← h, List.take_length]
  · rfl
@[simp] theorem gc_set (S : Store) (d : D) (l : Nat) (c : Cell) : gc S d (S.set l c) = .ok d (S.set l c) := gc_len d (List.length_set ..)
theorem gc_ext {S S0 X : Store} {d : D} (hl : S0.length = S.length) (hd : d.bnd S.length = true) (hc : ∀ (i : Nat) (c : Cell), S0[i]? = some c → S[i]? = some c ∨ c.bnd S.length = true) : gc S d (S0 ++ X) = .ok d S0 := by
  unfold gc
  rw [if_pos ⟨hd, by rw [List.length_append, hl]; exact Nat.le_add_right _ _, fun i c hi e => hc i c (by rwa [List.getElem?_append_left (by rw [hl]; exact hi)] at e)⟩, ← hl, List.take_left]
theorem gc_app {S X : Store} {d : D} (hd : d.bnd S.length = true) : gc S d (S ++ X) = .ok d S := gc_ext rfl hd fun _ _ e => .inl e
theorem gc_setapp {S X : Store} {d : D} {l : Nat} {c : Cell} (hd : d.bnd S.length = true) (hc : c.bnd S.length = true) : gc S d (S.set l c ++ X) = .ok d (S.set l c) := gc_ext (List.length_set ..) hd fun i c' e => by
  by_cases h : l = i
  · subst h
    rw [List.getElem?_set_self'] at e
    cases q : S[l]? with
    | none => rw [q] at e; cases e
    | some _ => rw [q] at e; cases e; exact .inr hc
  · rw [List.getElem?_set_ne h] at e; exact .inl e
/-! ### loops -/
theorem Ok_for_inv {g : Guard} {f : D → Env → Store → R Fl} {xs : List D} {ρ : Env} {S : Store} {Q : Fl → Store → Prop} (I : Nat → Env → Store → Prop) (h0 : I 0 ρ S) (hg : ∀ i ρ S, i ≤ xs.length → I i ρ S → g.ok S)
    (step : ∀ i x, xs[i]? = some x → ∀ ρ S, I i ρ S → Ok (f x ρ S) fun fl S1 => match fl with
      | .nx ρ1 => I (i + 1) ρ1 S1
      | .ct ρ1 => I (i + 1) ρ1 S1
      | .bk ρ1 => Q (.nx ρ1) S1
      | .rt d => Q (.rt d) S1) (fin : ∀ ρ S, I xs.length ρ S → Q (.nx ρ) S) : Ok (forGo g f xs ρ S) Q := by
  have gen : ∀ (ys : List D) (i : Nat), xs.drop i = ys → i ≤ xs.length → ∀ ρ S, I i ρ S → Ok (forGo g f ys ρ S) Q := by
    intro ys
    induction ys with
    | nil =>
      intro i e hi ρ S hI
      have : i = xs.length := by
        have := congrArg List.length e
        rw [List.length_drop, List.length_nil] at this; omega
      subst this
      unfold forGo
      rw [if_pos (hg _ _ _ hi hI)]
      exact fin ρ S hI
    | cons y ys ih =>
      intro i e hi ρ S hI
      have hi2 : i < xs.length := by
        have := congrArg List.length e
        rw [List.length_drop, List.length_cons] at this; omega
      have hy : xs[i]? = some y := by
        rw [List.drop_eq_getElem_cons hi2] at e
        rw [List.getElem?_eq_getElem hi2, (List.cons.inj e).1]
      have e2 : xs.drop (i + 1) = ys := by
        rw [List.drop_eq_getElem_cons hi2] at e
        exact (List.cons.inj e).2
      unfold forGo
      rw [if_pos (hg _ _ _ hi hI), Ok_bind]
      refine (step i y hy ρ S hI).mono fun fl S1 k => ?_
      cases fl with
      | nx ρ1 => exact ih (i + 1) e2 hi2 ρ1 S1 k
      | ct ρ1 => exact ih (i + 1) e2 hi2 ρ1 S1 k
      | bk ρ1 => exact k
      | rt d => exact k
  exact gen xs 0 rfl (Nat.zero_le _) ρ S h0
theorem cg_nil {g : Guard} {f : D → Store → R (List D)} {S : Store} (h : g.ok S) : compGo g f [] S = .ok [] S := by
  unfold compGo
  rw [if_pos h]
theorem cg_cons {g : Guard} {f : D → Store → R (List D)} {S : Store} {x : D} {xs : List D} (h : g.ok S) : compGo g f (x :: xs) S = (f x S).bind fun ys S1 => (compGo g f xs S1).bind fun zs S2 => .ok (ys ++ zs) S2 := by
  rw [compGo.eq_def]
  exact if_pos h
/-- a comprehension that changes nothing but is made from left to right -/
theorem compGo_pure {f : D → Store → R (List D)} {S : Store} {g : Guard} (hg : g.ok S) (h : D → List D) : ∀ {xs : List D}, (∀ x ∈ xs, f x S = .ok (h x) S) → compGo g f xs S = .ok (xs.flatMap h) S
  | [], _ => by exact cg_nil hg
  | x :: xs, k => by
    rw [cg_cons hg, k x List.mem_cons_self, R.bind_ok, compGo_pure hg h fun y m => k y (List.mem_cons_of_mem _ m), R.bind_ok, List.flatMap_cons]
theorem compGo_map {f : D → Store → R (List D)} {S : Store} {g : Guard} (hg : g.ok S) (h : D → D) {xs : List D} (k : ∀ x ∈ xs, f x S = .ok [h x] S) : compGo g f xs S = .ok (xs.map h) S := by
  rw [compGo_pure hg (fun x => [h x]) k]
  congr 1
  induction xs with
  | nil => rfl
  | cons x xs ih => rw [List.flatMap_cons, List.map_cons, ih fun y m => k y (List.mem_cons_of_mem _ m)]; rfl
theorem compGo_filter {f : D → Store → R (List D)} {S : Store} {g : Guard} (hg : g.ok S) (p : D → Bool) {xs : List D} (k : ∀ x ∈ xs, f x S = .ok (if p x then [x] else []) S) : compGo g f xs S = .ok (xs.filter p) S := by
  rw [compGo_pure hg (fun x => if p x then [x] else []) k]
  congr 1
  induction xs with
  | nil => rfl
  | cons x xs ih =>
    rw [List.flatMap_cons, List.filter_cons, ih fun y m => k y (List.mem_cons_of_mem _ m)]
    split <;> rfl
/-- a comprehension that moves a state -/
theorem Ok_comp_inv {f : D → Store → R (List D)} {xs : List D} {S : Store} {Q : List D → Store → Prop} (I : List D → Store → Prop) (h0 : I [] S)
    (step : ∀ x ∈ xs, ∀ ys S, I ys S → Ok (f x S) fun zs S1 => I (ys ++ zs) S1) (fin : ∀ ys S, I ys S → Q ys S) : Ok (compGo none f xs S) Q := by
  have gen : ∀ (xs : List D), (∀ x ∈ xs, ∀ ys S, I ys S → Ok (f x S) fun zs S1 => I (ys ++ zs) S1) → ∀ ys S, I ys S → Ok (compGo none f xs S) fun zs S1 => I (ys ++ zs) S1 := by
    intro xs
    induction xs with
    | nil =>
      intro _ ys S hI
      rw [cg_nil (g := none) trivial, Ok_ok, List.append_nil]
      exact hI
    | cons x xs ih =>
      intro st ys S hI
      rw [cg_cons (g := none) trivial, Ok_bind]
      refine (st x List.mem_cons_self ys S hI).mono fun zs S1 k => ?_
      rw [Ok_bind]
      refine (ih (fun y m => st y (List.mem_cons_of_mem _ m)) (ys ++ zs) S1 k).mono fun us S2 k2 => ?_
      rw [Ok_ok, ← List.append_assoc]
      exact k2
  exact (gen xs step [] S h0).mono fun ys S1 k => fin ys S1 k
end Pyx
end
section
/-! Defs that several laws share: their texts in the small syntax (printed by gen.py lib). -/
namespace Pyx.Tx
open PySem (Str sizeLine)
open Pyx
def b_is_whole : Ss := (ssOf [(.ret (.and (.isin (.var 0) [.int]) (.not (.isin (.var 0) [.bool]))))])
def b_is_between : Ss := (ssOf [(.ret (.and (.call "is_whole" (esOf [(.var 0)])) (.cmp2 .le .le (.var 1) (.var 0) (.var 2))))])
def b_is_tuple_of : Ss := (ssOf [(.ret (.and (.isin (.var 0) [.tuple]) (.cmp .eq (.bi .len false (esOf [(.var 0)])) (.var 1))))])
def b_are_between : Ss := (ssOf [(.ret (.and (.call "is_tuple_of" (esOf [(.var 0), (.var 1)])) (.bi .all false (esOf [(.comp false [4] (.call "is_between" (esOf [(.var 4), (.var 2), (.var 3)])) (.var 4) (.val (.var 0)) (esOf []))]))))])
def b_is_pack : Ss := (ssOf [(.ret (.call "are_between" (esOf [(.var 1), (.var 0), (.neg (.glob "MOST_IN_PACK")), (.glob "MOST_IN_PACK")])))])
def b_is_list_by : Ss := (ssOf [(.ite (.or (.not (.call "is_tuple_of" (esOf [(.var 0), (.con (.int 2))]))) (.not (.call "is_between" (esOf [(.ix (.var 0) (.glob "MANY")), (.con (.int 1)), (.glob "MOST_GOODS")])))) (ssOf [(.ret (.con (.bl false)))]) (ssOf [])), (.ite (.or (.not (.isin (.ix (.var 0) (.glob "PACKS")) [.tuple])) (.cmp .gt (.bi .len false (esOf [(.ix (.var 0) (.glob "PACKS"))])) (.glob "MOST_PACKS"))) (ssOf [(.ret (.con (.bl false)))]) (ssOf [])), (.ret (.bi .all false (esOf [(.comp false [1] (.call "is_pack" (esOf [(.ix (.var 0) (.glob "MANY")), (.var 1)])) (.var 1) (.val (.ix (.var 0) (.glob "PACKS"))) (esOf []))])))])
structure LibV (T : Str → Option Df) (G : Str → Option D) : Prop where
  t_is_whole : T "is_whole" = some ⟨1, 1, b_is_whole⟩
  t_is_between : T "is_between" = some ⟨3, 3, b_is_between⟩
  t_is_tuple_of : T "is_tuple_of" = some ⟨2, 2, b_is_tuple_of⟩
  t_are_between : T "are_between" = some ⟨4, 5, b_are_between⟩
  t_is_pack : T "is_pack" = some ⟨2, 2, b_is_pack⟩
  t_is_list_by : T "is_list_by" = some ⟨1, 2, b_is_list_by⟩
  g_MOST_IN_PACK : G "MOST_IN_PACK" = some (.int 9999)
  g_MOST_PACKS : G "MOST_PACKS" = some (.int 8)
  g_MOST_GOODS : G "MOST_GOODS" = some (.int 6)
  g_MANY : G "MANY" = some (.int 0)
  g_PACKS : G "PACKS" = some (.int 1)
def b_are_wholes : Ss := (ssOf [(.ret (.and (.call "is_tuple_of" (esOf [(.var 0), (.var 1)])) (.bi .all false (esOf [(.comp false [2] (.call "is_whole" (esOf [(.var 2)])) (.var 2) (.val (.var 0)) (esOf []))]))))])
structure LibA (T : Str → Option Df) (G : Str → Option D) : Prop where
  t_are_wholes : T "are_wholes" = some ⟨2, 3, b_are_wholes⟩
def b_is_figures : Ss := (ssOf [(.ite (.or (.cmp .eq (.var 0) (.con (.str ""))) (.bi .any false (esOf [(.comp false [1] (.cmp .notin (.var 1) (.glob "FIGURES")) (.var 1) (.val (.var 0)) (esOf []))]))) (ssOf [(.ret (.con (.bl false)))]) (ssOf [])), (.ret (.or (.cmp .eq (.var 0) (.con (.str "0"))) (.cmp .ne (.ix (.var 0) (.con (.int 0))) (.con (.str "0")))))])
def b_is_number_text : Ss := (ssOf [(.ite (.mt .startswith false (.var 0) (esOf [(.glob "MINUS")])) (ssOf [(.ret (.and (.call "is_figures" (esOf [(.sl false (.var 0) (.some (.con (.int 1))) .none)])) (.cmp .ne (.var 0) (.con (.str "-0")))))]) (ssOf [])), (.ret (.call "is_figures" (esOf [(.var 0)])))])
def b_read_numbers : Ss := (ssOf [(.ite (.not (.bi .all false (esOf [(.comp false [1] (.call "is_number_text" (esOf [(.var 1)])) (.var 1) (.val (.var 0)) (esOf []))]))) (ssOf [(.ret (.lst false (esOf [])))]) (ssOf [])), (.ret (.lst false (esOf [(.bi .tuple false (esOf [(.comp false [1] (.bi .int false (esOf [(.var 1)])) (.var 1) (.val (.var 0)) (esOf []))]))])))])
def b_read_line : Ss := (ssOf [(.asg (.var 2) (.mt .split false (.var 0) (esOf [(.glob "BLANK")]))), (.ret (.ite (.cmp .eq (.ix (.var 2) (.con (.int 0))) (.var 1)) (.call "read_numbers" (esOf [(.sl false (.var 2) (.some (.con (.int 1))) .none)])) (.lst false (esOf []))))])
def b_read_lines : Ss := (ssOf [(.asg (.tup (tgsOf [(.var 1), (.var 2)])) (.tup (esOf [(.call "read_line" (esOf [(.ix (.var 0) (.con (.int 0))), (.glob "GOODS_WORD")])), (.lst true (esOf []))]))), (.ite (.or (.cmp .eq (.var 1) (.lst false (esOf []))) (.cmp .ne (.bi .len false (esOf [(.ix (.var 1) (.con (.int 0)))])) (.con (.int 1)))) (ssOf [(.ret (.lst false (esOf [])))]) (ssOf [])), (.for (.var 3) (.val (.sl false (.var 0) (.some (.con (.int 1))) .none)) (ssOf [(.asg (.var 4) (.call "read_line" (esOf [(.var 3), (.glob "PACK_WORD")]))), (.ite (.cmp .eq (.var 4) (.lst false (esOf []))) (ssOf [(.ret (.lst false (esOf [])))]) (ssOf [])), (.expr (.mt .extend false (.var 2) (esOf [(.var 4)])))])), (.ret (.lst false (esOf [(.tup (esOf [(.ix (.ix (.var 1) (.con (.int 0))) (.con (.int 0))), (.bi .tuple false (esOf [(.var 2)]))]))])))])
def b_list_with_text : Ss := (ssOf [(.ite (.not (.mt .endswith false (.var 0) (esOf [(.glob "END")]))) (ssOf [(.ret (.lst false (esOf [])))]) (ssOf [])), (.ret (.comp false [1] (.var 1) (.var 1) (.val (.call "read_lines" (esOf [(.mt .split false (.sl false (.var 0) .none (.some (.neg (.con (.int 1))))) (esOf [(.glob "END")]))]))) (esOf [(.call "is_list_by" (esOf [(.var 1)]))])))])
structure LibR (T : Str → Option Df) (G : Str → Option D) : Prop where
  t_is_figures : T "is_figures" = some ⟨1, 2, b_is_figures⟩
  t_is_number_text : T "is_number_text" = some ⟨1, 1, b_is_number_text⟩
  t_read_numbers : T "read_numbers" = some ⟨1, 2, b_read_numbers⟩
  t_read_line : T "read_line" = some ⟨2, 3, b_read_line⟩
  t_read_lines : T "read_lines" = some ⟨1, 5, b_read_lines⟩
  t_list_with_text : T "list_with_text" = some ⟨1, 2, b_list_with_text⟩
  g_FIGURES : G "FIGURES" = some (.str "0123456789")
  g_MINUS : G "MINUS" = some (.str "-")
  g_BLANK : G "BLANK" = some (.str " ")
  g_GOODS_WORD : G "GOODS_WORD" = some (.str "goods")
  g_PACK_WORD : G "PACK_WORD" = some (.str "pack")
  g_END : G "END" = some (.str "\n")
def b_text_of_row : Ss := (ssOf [(.ret (.mt .join false (.glob "BLANK") (esOf [(.comp false [1] (.bi .str false (esOf [(.var 1)])) (.var 1) (.val (.var 0)) (esOf []))])))])
def b_text_of_list : Ss := (ssOf [(.asg (.var 1) (.lst true (esOf [(.bin .add (.bin .add (.glob "GOODS_WORD") (.glob "BLANK")) (.bi .str false (esOf [(.ix (.var 0) (.glob "MANY"))])))]))), (.for (.var 2) (.val (.ix (.var 0) (.glob "PACKS"))) (ssOf [(.expr (.mt .append false (.var 1) (esOf [(.bin .add (.bin .add (.glob "PACK_WORD") (.glob "BLANK")) (.call "text_of_row" (esOf [(.var 2)])))])))])), (.ret (.mt .join false (.con (.str "")) (esOf [(.comp false [3] (.bin .add (.var 3) (.glob "END")) (.var 3) (.val (.var 1)) (esOf []))])))])
structure LibW (T : Str → Option Df) (G : Str → Option D) : Prop where
  t_text_of_row : T "text_of_row" = some ⟨1, 2, b_text_of_row⟩
  t_text_of_list : T "text_of_list" = some ⟨1, 4, b_text_of_list⟩
  g_BLANK : G "BLANK" = some (.str " ")
  g_PACKS : G "PACKS" = some (.int 1)
  g_GOODS_WORD : G "GOODS_WORD" = some (.str "goods")
  g_END : G "END" = some (.str "\n")
  g_MANY : G "MANY" = some (.int 0)
  g_PACK_WORD : G "PACK_WORD" = some (.str "pack")
def b_l_pick : Ss := (ssOf [(.ret (.ix (.var 1) (.call "_law_draw" (esOf [(.var 0), (.bi .len false (esOf [(.var 1)]))]))))])
def b_l_same : Ss := (ssOf [(.ite (.isin (.var 0) [.tuple]) (ssOf [(.ret (.and (.isin (.var 1) [.tuple]) (.and (.cmp .eq (.bi .len false (esOf [(.var 0)])) (.bi .len false (esOf [(.var 1)]))) (.cmp .eq (.comp false [2] (.var 2) (.var 2) (.rng (esOf [(.bi .len false (esOf [(.var 0)]))])) (esOf [(.not (.call "_law_same" (esOf [(.ix (.var 0) (.var 2)), (.ix (.var 1) (.var 2))])))])) (.lst false (esOf []))))))]) (ssOf [])), (.ite (.or (.isin (.var 0) [.bool]) (.isin (.var 1) [.bool])) (ssOf [(.ret (.and (.isin (.var 0) [.bool]) (.and (.isin (.var 1) [.bool]) (.cmp .eq (.var 0) (.var 1)))))]) (ssOf [])), (.ret (.and (.cmp .eq (.isin (.var 0) [.int]) (.isin (.var 1) [.int])) (.and (.cmp .eq (.isin (.var 0) [.str]) (.isin (.var 1) [.str])) (.cmp .eq (.var 0) (.var 1)))))])
structure LibL (T : Str → Option Df) (G : Str → Option D) : Prop where
  t_l_pick : T "_law_pick" = some ⟨2, 2, b_l_pick⟩
  t_l_same : T "_law_same" = some ⟨2, 3, b_l_same⟩
def b_l_put : Ss := (ssOf [(.ret (.bin .add (.bin .add (.sl false (.var 0) .none (.some (.var 1))) (.tup (esOf [(.var 2)]))) (.sl false (.var 0) (.some (.bin .add (.var 1) (.con (.int 1)))) .none)))])
structure LibP (T : Str → Option Df) (G : Str → Option D) : Prop where
  t_l_put : T "_law_put" = some ⟨3, 3, b_l_put⟩
end Pyx.Tx
end
section
/-! What the shared defs give. -/
namespace Pyx
open PySem (Str sizeLine)
section
variable {C : Str → List D → Store → R D} {G : Str → Option D} {ρ : Env} {S : Store} {Q : D → Store → Prop}
theorem eq_of_ok {α : Type} {r : R α} {a : α} {S1 : Store} (h : Ok r fun y S2 => y = a ∧ S2 = S1) : r = .ok a S1 := by
  cases r with
  | ok b S2 => obtain ⟨rfl, rfl⟩ := h; rfl
  | _ => exact h.elim
theorem wipe_len (ρ : Env) (own : List Nat) : (wipeE ρ own).length = ρ.length := by
  induction own with
  | nil => rfl
  | cons v vs ih => rw [wipeE, List.length_set, ih]
theorem Ok_mapG {m : Bool} {own : List Nat} {e : E} {i : Nat} {s : Src} {xs : List D} {g : Guard} (h : D → D) (hs : Ok (evSrc C G s ρ S) fun p S1 => p = (xs, g) ∧ S1 = S) (hg : g.ok S) (hi : i < ρ.length)
    (k : ∀ x ∈ xs, Ok (evE C G e ((wipeE ρ own).set i (some x)) S) fun y S1 => y = h x ∧ S1 = S) :
    Ok (evE C G (.comp m own e (.var i) s .nil) ρ S) Q ↔ xs.length ≤ sizeLine ∧ if m then Q (.ref S.length) (S ++ [.lst (xs.map h)]) else Q (.lst (xs.map h)) S := by
  rw [Ok_comp, eq_of_ok hs, Ok_ok, compGo_map hg h fun x m => eq_of_ok (by
    simp only [Ok_bind, Ok_tvar, wipe_len, hi, true_and, Ok_cnil, if_true, Ok_ok]
    exact (k x m).mono fun y S1 q => ⟨by rw [q.1], q.2⟩), Ok_ok, Ok_mkL, List.length_map]
theorem Ok_map1 {m : Bool} {own : List Nat} {e : E} {i : Nat} {s : Src} {xs : List D} (h : D → D) (hs : Ok (evSrc C G s ρ S) fun p S1 => p = (xs, none) ∧ S1 = S) (hi : i < ρ.length)
    (k : ∀ x ∈ xs, Ok (evE C G e ((wipeE ρ own).set i (some x)) S) fun y S1 => y = h x ∧ S1 = S) :
    Ok (evE C G (.comp m own e (.var i) s .nil) ρ S) Q ↔ xs.length ≤ sizeLine ∧ if m then Q (.ref S.length) (S ++ [.lst (xs.map h)]) else Q (.lst (xs.map h)) S := Ok_mapG h hs trivial hi k
theorem Ok_filterG {m : Bool} {own : List Nat} {c : E} {i : Nat} {s : Src} {xs : List D} {g : Guard} (p : D → Bool) (hs : Ok (evSrc C G s ρ S) fun p S1 => p = (xs, g) ∧ S1 = S) (hg : g.ok S) (hi : i < ρ.length)
    (k : ∀ x ∈ xs, Ok (evE C G c ((wipeE ρ own).set i (some x)) S) fun y S1 => truth S1 y = some (p x) ∧ S1 = S) :
    Ok (evE C G (.comp m own (.var i) (.var i) s (.cons c .nil)) ρ S) Q ↔ (xs.filter p).length ≤ sizeLine ∧ if m then Q (.ref S.length) (S ++ [.lst (xs.filter p)]) else Q (.lst (xs.filter p)) S := by
  rw [Ok_comp, eq_of_ok hs, Ok_ok, compGo_filter hg p fun x m => eq_of_ok (by
    simp only [Ok_bind, Ok_tvar, wipe_len, hi, true_and, Ok_ccons]
    refine (k x m).mono fun y S1 q => ?_
    obtain ⟨q1, rfl⟩ := q
    refine ⟨p x, q1, ?_⟩
    cases p x
    · simp
    · simp [hi, wipe_len]), Ok_ok, Ok_mkL]
theorem Ok_filter1 {m : Bool} {own : List Nat} {c : E} {i : Nat} {s : Src} {xs : List D} (p : D → Bool) (hs : Ok (evSrc C G s ρ S) fun p S1 => p = (xs, none) ∧ S1 = S) (hi : i < ρ.length)
    (k : ∀ x ∈ xs, Ok (evE C G c ((wipeE ρ own).set i (some x)) S) fun y S1 => truth S1 y = some (p x) ∧ S1 = S) :
    Ok (evE C G (.comp m own (.var i) (.var i) s (.cons c .nil)) ρ S) Q ↔ (xs.filter p).length ≤ sizeLine ∧ if m then Q (.ref S.length) (S ++ [.lst (xs.filter p)]) else Q (.lst (xs.filter p)) S := Ok_filterG p hs trivial hi k
theorem boolsOf_map {α : Type} (p : α → Bool) : ∀ xs : List α, boolsOf (xs.map fun x => .bl (p x)) = some (xs.map p)
  | [] => rfl
  | x :: xs => by rw [List.map_cons, boolsOf, boolsOf_map p xs]; rfl
@[simp] theorem bi_tuple (xs : List D) (m : Bool) : biD .tuple m [.lst xs] S = .ok (.tup xs) S := rfl
@[simp] theorem bi_tuple_tup (xs : List D) (m : Bool) : biD .tuple m [.tup xs] S = .ok (.tup xs) S := rfl
@[simp] theorem bi_all {α : Type} (xs : List α) (p : α → Bool) (m : Bool) : biD .all m [.lst (xs.map fun x => .bl (p x))] S = .ok (.bl (xs.all p)) S := by
  simp only [biD, boolsD, asL, Option.bind_some, boolsOf_map, Option.map_some, blR]
  congr 2
  induction xs with
  | nil => rfl
  | cons x xs ih => simp_all
@[simp] theorem bi_any {α : Type} (xs : List α) (p : α → Bool) (m : Bool) : biD .any m [.lst (xs.map fun x => .bl (p x))] S = .ok (.bl (xs.any p)) S := by
  simp only [biD, boolsD, asL, Option.bind_some, boolsOf_map, Option.map_some, blR]
  congr 2
  induction xs with
  | nil => rfl
  | cons x xs ih => simp_all
@[simp] theorem bi_len_tup (xs : List D) (m : Bool) : biD .len m [.tup xs] S = .ok (.int xs.length) S := rfl
@[simp] theorem bi_len_lst (xs : List D) (m : Bool) : biD .len m [.lst xs] S = .ok (.int xs.length) S := rfl
@[simp] theorem bi_len_fz (xs : List D) (m : Bool) : biD .len m [.fz xs] S = .ok (.int xs.length) S := rfl
@[simp] theorem srcVal_tup (xs : List D) : srcVal S (.tup xs) = some (xs, none) := rfl
@[simp] theorem srcVal_lst (xs : List D) : srcVal S (.lst xs) = some (xs, none) := rfl
@[simp] theorem srcVal_fz (xs : List D) : srcVal S (.fz xs) = some (xs, none) := rfl
@[simp] theorem Ok_ix_tup (xs : List D) (i : Int) : Ok (ixD (.tup xs) (.int i) S) Q ↔ ∃ d, L2.atI xs i = some d ∧ Q d S := by simp [ixD, asQ]
@[simp] theorem Ok_ix_lst (xs : List D) (i : Int) : Ok (ixD (.lst xs) (.int i) S) Q ↔ ∃ d, L2.atI xs i = some d ∧ Q d S := by simp [ixD, asQ]
@[simp] theorem Ok_ix_fz (xs : List D) (i : Int) : Ok (ixD (.fz xs) (.int i) S) Q ↔ ∃ d, L2.atI xs i = some d ∧ Q d S := by simp [ixD, asQ]
end
theorem pures_mem : ∀ {ds : List D}, D.pures ds = true → ∀ d ∈ ds, d.pure = true
  | [], _, d, m => by cases m
  | e :: es, h, d, m => by
    simp only [D.pures, Bool.and_eq_true] at h
    rcases List.mem_cons.mp m with rfl | m
    · exact h.1
    · exact pures_mem h.2 d m
namespace Tx
section
variable {T : Str → Option Df} {G : Str → Option D} {W n : Nat} {S : Store} {Q : D → Store → Prop}
def isW : D → Bool
  | .int _ => true
  | _ => false
def arB (lo hi : Int) : D → Bool
  | .int i => decide (lo ≤ i) && decide (i ≤ hi)
  | _ => false
def lenIs (k : Int) : D → Bool
  | .tup ds => (ds.length : Int) == k
  | _ => false
def tupAll (p : D → Bool) (k : Int) : D → Bool
  | .tup ds => (ds.length : Int) == k && ds.all p
  | _ => false
def isPk (m : Int) (d : D) : Bool := tupAll (arB (-9999) 9999) m d
def isLs : D → Bool
  | .tup [.int m, .tup ps] => decide (1 ≤ m) && decide (m ≤ 6) && decide (ps.length ≤ 8) && ps.all (isPk m)
  | _ => false
theorem ok_is_whole (L : LibV T G) {d : D} (h : d.pure = true) : Ok (callF T G W (n + 1) "is_whole" [d] S) Q ↔ Q (.bl (isW d)) S := by
  rw [Ok_callF L.t_is_whole rfl]
  cases d with
  | ref l => cases h
  | _ => simp [b_is_whole, esOf, ssOf, isW]
theorem ok_is_between (L : LibV T G) {d : D} {lo hi : Int} (h : d.pure = true) : Ok (callF T G W (n + 2) "is_between" [d, .int lo, .int hi] S) Q ↔ Q (.bl (arB lo hi d)) S := by
  rw [Ok_callF L.t_is_between rfl]
  cases d with
  | int i =>
    simp [b_is_between, esOf, ssOf, ok_is_whole L h, isW, arB]
    by_cases c1 : lo ≤ i
    · by_cases c2 : i ≤ hi
      · simp [c1, c2, Int.not_lt.mpr c1, Int.not_lt.mpr c2]
      · simp [c1, c2, Int.not_lt.mpr c1, Int.not_le.mp c2]
    · simp [c1, Int.not_le.mp c1]
  | ref l => cases h
  | _ => simp [b_is_between, esOf, ssOf, ok_is_whole L h, isW, arB]
theorem ok_is_tuple_of (L : LibV T G) {d : D} {k : Int} (h : d.pure = true) : Ok (callF T G W (n + 1) "is_tuple_of" [d, .int k] S) Q ↔ Q (.bl (lenIs k d)) S := by
  rw [Ok_callF L.t_is_tuple_of rfl]
  cases d with
  | ref l => cases h
  | tup ds =>
    by_cases c : (ds.length : Int) = k
    · simp [b_is_tuple_of, esOf, ssOf, lenIs, c]
    · simp [b_is_tuple_of, esOf, ssOf, lenIs, c, beq_eq_false_iff_ne.mpr c]
  | _ => simp [b_is_tuple_of, esOf, ssOf, lenIs]
theorem ok_are_between (L : LibV T G) {d : D} {k lo hi : Int} (h : d.pure = true) (z : ∀ ds, d = .tup ds → ds.length ≤ sizeLine) : Ok (callF T G W (n + 3) "are_between" [d, .int k, .int lo, .int hi] S) Q ↔ Q (.bl (tupAll (arB lo hi) k d)) S := by
  rw [Ok_callF L.t_are_between rfl]
  cases d with
  | tup ds =>
    have hp : ∀ x ∈ ds, x.pure = true := pures_mem (by simpa [D.pure] using h)
    have key : ∀ {Q : D → Store → Prop}, Ok (evE (callF T G W (n + 2)) G (.comp false [4] (.call "is_between" (esOf [(.var 4), (.var 2), (.var 3)])) (.var 4) (.val (.var 0)) (esOf [])) [some (.tup ds), some (.int k), some (.int lo), some (.int hi), none] S) Q ↔ ds.length ≤ sizeLine ∧ Q (.lst (ds.map fun x => .bl (arB lo hi x))) S := fun {Q} => by
      rw [esOf, Ok_map1 (xs := ds) (fun x => .bl (arB lo hi x)) (by simp) (by simp) fun x m => by simp [esOf, wipeE, ok_is_between L (hp x m)]]
      simp
    by_cases c : (ds.length : Int) = k
    · simp [b_are_between, esOf, ssOf, ok_is_tuple_of L h, lenIs, tupAll, c]
      have := @key
      simp only [esOf] at this
      simp [this, z ds rfl]
    · simp [b_are_between, esOf, ssOf, ok_is_tuple_of L h, lenIs, tupAll, beq_eq_false_iff_ne.mpr c]
  | ref l => cases h
  | _ => simp [b_are_between, esOf, ssOf, ok_is_tuple_of L h, lenIs, tupAll]
theorem ok_is_pack (L : LibV T G) {d : D} {k : Int} (h : d.pure = true) (z : ∀ ds, d = .tup ds → ds.length ≤ sizeLine) : Ok (callF T G W (n + 4) "is_pack" [.int k, d] S) Q ↔ Q (.bl (isPk k d)) S := by
  rw [Ok_callF L.t_is_pack rfl]
  simp [b_is_pack, esOf, ssOf, L.g_MOST_IN_PACK, ok_are_between L h z, isPk]
/-- no tuple in it is too long -/
def tupOk : D → Prop
  | .tup ds => ds.length ≤ sizeLine
  | _ => True
theorem atI_0 {α : Type} (a : α) (l : List α) : L2.atI (a :: l) 0 = some a := by simp [L2.atI, L2.ixN]
theorem atI_1 {α : Type} (a b : α) (l : List α) : L2.atI (a :: b :: l) 1 = some b := by
  have : (1 : Int) < (l.length : Int) + 1 + 1 := by omega
  simp [L2.atI, L2.ixN, this]
theorem ok_is_list_by (L : LibV T G) {d : D} (h : d.pure = true) (z : ∀ a ps, d = .tup [a, .tup ps] → ∀ p ∈ ps, ∀ ds, p = .tup ds → ds.length ≤ sizeLine) : Ok (callF T G W (n + 5) "is_list_by" [d] S) Q ↔ Q (.bl (isLs d)) S := by
  rw [Ok_callF L.t_is_list_by rfl]
  cases d with
  | tup ds =>
    have hp : ∀ x ∈ ds, x.pure = true := pures_mem (by simpa [D.pure] using h)
    match ds, hp, z, h with
    | [], _, _, h => simp [b_is_list_by, esOf, ssOf, ok_is_tuple_of L h, lenIs, isLs]
    | [a], _, _, h => simp [b_is_list_by, esOf, ssOf, ok_is_tuple_of L h, lenIs, isLs]
    | a :: b :: c :: ds, _, _, h =>
      have c2 : ¬ ((ds.length : Int) + 1 + 1 + 1 = 2) := by omega
      simp [b_is_list_by, esOf, ssOf, ok_is_tuple_of L h, lenIs, isLs, c2]
    | [a, b], hp, z, h =>
      have ha := hp a (by simp)
      have hb := hp b (by simp)
      cases a with
      | int m =>
        by_cases c1 : 1 ≤ m
        · by_cases c2 : m ≤ 6
          · cases b with
            | tup ps =>
              by_cases c3 : ps.length ≤ 8
              · have c4 : ¬ ((8 : Int) < ps.length) := by omega
                have hq : ∀ x ∈ ps, x.pure = true := pures_mem (by simpa [D.pure] using hb)
                have key : ∀ {Q : D → Store → Prop}, Ok (evE (callF T G W (n + 4)) G (.comp false [1] (.call "is_pack" (.cons (.ix (.var 0) (.glob "MANY")) (.cons (.var 1) .nil))) (.var 1) (.val (.ix (.var 0) (.glob "PACKS"))) .nil) [some (.tup [.int m, .tup ps]), none] S) Q ↔ ps.length ≤ sizeLine ∧ Q (.lst (ps.map fun x => .bl (isPk m x))) S := fun {Q} => by
                  rw [Ok_map1 (xs := ps) (fun x => .bl (isPk m x)) (by simp [L.g_PACKS, atI_1]) (by simp) fun x k => by simp [esOf, wipeE, L.g_MANY, atI_0, ok_is_pack L (hq x k) (z _ ps rfl x k)]]
                  simp
                have zl : ps.length ≤ sizeLine := Nat.le_trans c3 (by decide)
                simp [b_is_list_by, esOf, ssOf, ok_is_tuple_of L h, lenIs, isLs, L.g_MANY, L.g_PACKS, L.g_MOST_GOODS, L.g_MOST_PACKS, atI_0, atI_1, ok_is_between L ha, arB, c1, c2, c3, c4, key, zl]
              · have c4 : (8 : Int) < ps.length := by omega
                simp [b_is_list_by, esOf, ssOf, ok_is_tuple_of L h, lenIs, isLs, L.g_MANY, L.g_PACKS, L.g_MOST_GOODS, L.g_MOST_PACKS, atI_0, atI_1, ok_is_between L ha, arB, c1, c2, c3, c4]
            | ref l => cases hb
            | _ => simp [b_is_list_by, esOf, ssOf, ok_is_tuple_of L h, lenIs, isLs, L.g_MANY, L.g_PACKS, L.g_MOST_GOODS, L.g_MOST_PACKS, atI_0, atI_1, ok_is_between L ha, arB, c1, c2]
          · cases b <;> simp [b_is_list_by, esOf, ssOf, ok_is_tuple_of L h, lenIs, isLs, L.g_MANY, L.g_PACKS, L.g_MOST_GOODS, L.g_MOST_PACKS, atI_0, atI_1, ok_is_between L ha, arB, c1, c2]
        · cases b <;> simp [b_is_list_by, esOf, ssOf, ok_is_tuple_of L h, lenIs, isLs, L.g_MANY, L.g_PACKS, L.g_MOST_GOODS, L.g_MOST_PACKS, atI_0, atI_1, ok_is_between L ha, arB, c1]
      | ref l => cases ha
      | _ => simp [b_is_list_by, esOf, ssOf, ok_is_tuple_of L h, lenIs, isLs, L.g_MANY, L.g_PACKS, L.g_MOST_GOODS, L.g_MOST_PACKS, atI_0, atI_1, ok_is_between L ha, arB]
  | ref l => cases h
  | _ => simp [b_is_list_by, esOf, ssOf, ok_is_tuple_of L h, lenIs, isLs]
end
end Tx
end Pyx
end
section
/-! Texts as lists of signs. -/
namespace Pyx
open PySem (Str sizeLine)
open TL
theorem str_beq (s t : Str) : (s == t) = decide (tl s = tl t) := by
  by_cases h : tl s = tl t
  · rw [ext_tl h]; simp
  · have : s ≠ t := fun e => h (by rw [e])
    simp [h, this]
theorem tl_inj {s t : Str} (h : tl s = tl t) : s = t := ext_tl h
theorem starts_pre (x y : Str) (hy : tl y ≠ []) : PySem.Txt.startswith x y = pre (tl y) (tl x) := by
  have h := at_iff (x := x) hy 0
  rw [List.drop_zero] at h
  unfold PySem.Txt.startswith
  cases e : pre (tl y) (tl x) with
  | true =>
    have := h.mpr e
    simp_all [PySem.StrLaws.At]
  | false =>
    have : ¬ _ := fun q => absurd (h.mp q) (by rw [e]; decide)
    simp_all [PySem.StrLaws.At]
theorem ends_pre (x y : Str) (hy : tl y ≠ []) : PySem.Txt.endswith x y = (decide ((tl y).length ≤ (tl x).length) && pre (tl y) ((tl x).drop ((tl x).length - (tl y).length))) := by
  have h := at_iff (x := x) hy (x.length - y.length)
  unfold PySem.Txt.endswith
  rw [← len_tl, ← len_tl]
  by_cases c : y.length ≤ x.length
  · cases e : pre (tl y) ((tl x).drop (x.length - y.length)) with
    | true =>
      have := h.mpr e
      simp_all [PySem.StrLaws.At]
    | false =>
      have : ¬ _ := fun q => absurd (h.mp q) (by rw [e]; decide)
      simp_all [PySem.StrLaws.At]
  · simp [c]
theorem tl_cutS (z : Str) (lo hi : Option Int) : tl (L2.cutS z lo hi) = cut (tl z) lo hi := by
  unfold cut L2.cutS
  rw [tl_mk, ← len_tl]
theorem cut_from {α : Type} (l : List α) (k : Nat) : cut l (some (k : Int)) none = l.drop k := by
  unfold cut
  rw [HT.sIx_none, HT.sIx_nat]
  by_cases h : k ≤ l.length
  · rw [Nat.min_eq_left h, List.take_of_length_le (by rw [List.length_drop]; exact Nat.le_refl _)]
  · rw [Nat.min_eq_right (by omega), List.drop_eq_nil_of_le (by omega : l.length ≤ k), List.drop_length, List.take_nil]
theorem cut_to {α : Type} (l : List α) (k : Nat) : cut l none (some (k : Int)) = l.take k := by
  unfold cut
  rw [HT.sIx_none, HT.sIx_nat, List.drop_zero, Nat.sub_zero]
  by_cases h : k ≤ l.length
  · rw [Nat.min_eq_left h]
  · rw [Nat.min_eq_right (by omega), List.take_of_length_le (Nat.le_refl _), List.take_of_length_le (by omega)]
theorem cut_last {α : Type} (l : List α) : cut l none (some (-1)) = l.dropLast := by
  unfold cut
  rw [HT.sIx_none, List.drop_zero, Nat.sub_zero, List.dropLast_eq_take]
  congr 1
  show (if (-1 : Int) < 0 then ((-1 : Int) + (l.length : Int)).toNat else min (-1 : Int).toNat l.length) = _
  rw [if_pos (by decide)]
  omega
theorem cut_mid {α : Type} (l : List α) : cut l (some 1) (some (-1)) = (l.drop 1).dropLast := by
  unfold cut
  rw [List.dropLast_eq_take, List.length_drop]
  show (l.drop (HT.sIx l.length 0 (some ((1 : Nat) : Int)))).take ((if (-1 : Int) < 0 then ((-1 : Int) + (l.length : Int)).toNat else min (-1 : Int).toNat l.length) - HT.sIx l.length 0 (some ((1 : Nat) : Int))) = _
  rw [HT.sIx_nat, if_pos (by decide)]
  by_cases h : 1 ≤ l.length
  · rw [Nat.min_eq_left h]
    congr 1
    omega
  · have : l = [] := List.length_eq_zero_iff.mp (by omega)
    subst this
    simp
/-! ### numbers as texts -/
/-- the signs of a whole number's text -/
def numC (i : Int) : List Nat := if i < 0 then 45 :: numL i.natAbs else numL i.natAbs
theorem tl_numS (i : Int) : tl (Str.ofString (toString i)) = numC i := by
  unfold numC
  by_cases h : i < 0
  · rw [if_pos h]
    obtain ⟨n, rfl⟩ : ∃ n : Nat, i = -((n : Nat) : Int) := ⟨i.natAbs, by omega⟩
    have e : toString (-((n : Nat) : Int)) = "-" ++ toString ((n : Nat) : Int) := by
      cases n with
      | zero => omega
      | succ n => rfl
    have e3 := tl_num n
    rw [tl_ofString] at e3
    rw [e, tl_ofString, String.toList_append, List.map_append, e3, Int.natAbs_neg, Int.natAbs_natCast]
    rfl
  · rw [if_neg h]
    obtain ⟨n, rfl⟩ : ∃ n : Nat, i = ((n : Nat) : Int) := ⟨i.natAbs, by omega⟩
    rw [tl_num, Int.natAbs_natCast]
/-- figures alone, no nought ahead -/
def figB (l : List Nat) : Bool := !l.isEmpty && l.all (fun c => decide (48 ≤ c) && decide (c ≤ 57)) && (decide (l = [48]) || decide (l.head? ≠ some 48))
def numB : List Nat → Bool
  | 45 :: r => figB r && decide (r ≠ [48])
  | l => figB l
def numV : List Nat → Int
  | 45 :: r => -((PySem.NumText.digitsVal r : Nat) : Int)
  | l => ((PySem.NumText.digitsVal l : Nat) : Int)
theorem numL_head : ∀ (n : Nat), n ≠ 0 → (numL n).head? ≠ some 48 := by
  intro n
  induction n using Nat.strongRecOn with
  | _ n ih =>
    intro h
    by_cases c : n < 10
    · rw [numL_lt c]; simp; omega
    · rw [numL_step (by omega), List.head?_append]
      have := ih (n / 10) (by omega) (by omega)
      cases e : (numL (n / 10)).head? with
      | none => exact absurd (List.head?_eq_none_iff.mp e) (numL_ne _)
      | some a => rw [e] at this; simpa using this
theorem figB_numL (n : Nat) : figB (numL n) = true := by
  unfold figB
  have h1 : (numL n).isEmpty = false := by
    cases e : numL n with
    | nil => exact absurd e (numL_ne n)
    | cons => rfl
  have h2 : (numL n).all (fun c => decide (48 ≤ c) && decide (c ≤ 57)) = true := by
    rw [List.all_eq_true]
    intro c m
    have := numL_digits n c m
    simp only [Bool.and_eq_true, decide_eq_true_eq]; omega
  rw [h1, h2]
  by_cases c : n = 0
  · subst c; simp [numL_lt (n := 0) (by decide)]
  · simp [numL_head n c]
theorem numB_numC (i : Int) : numB (numC i) = true := by
  unfold numC
  by_cases h : i < 0
  · rw [if_pos h]
    have : numL i.natAbs ≠ [48] := fun e => by
      have e2 : numL i.natAbs = numL 0 := by rw [e, numL_lt (by decide)]
      have := numL_inj e2
      omega
    simp [numB, figB_numL, this]
  · rw [if_neg h]
    have := figB_numL i.natAbs
    unfold numB
    split
    · rename_i r e
      have := numL_digits i.natAbs 45 (by rw [e]; exact List.mem_cons_self)
      omega
    · exact this
theorem numV_numC (i : Int) : numV (numC i) = i := by
  unfold numC
  by_cases h : i < 0
  · rw [if_pos h]
    show -((PySem.NumText.digitsVal (numL i.natAbs) : Nat) : Int) = i
    rw [numL_val]; omega
  · rw [if_neg h]
    unfold numV
    split
    · rename_i r e
      have := numL_digits i.natAbs 45 (by rw [e]; exact List.mem_cons_self)
      omega
    · rw [numL_val]; omega
theorem numC_inj {i j : Int} (h : numC i = numC j) : i = j := by rw [← numV_numC i, h, numV_numC]
theorem figB_digits {l : List Nat} (h : figB l = true) : l ≠ [] ∧ PySem.NumText.AllDigits l := by
  simp only [figB, Bool.and_eq_true, Bool.not_eq_true', List.all_eq_true, decide_eq_true_eq] at h
  refine ⟨fun e => ?_, fun c m => ?_⟩
  · rw [e] at h; simp at h
  · have := h.1.2 c m; omega
theorem int_of_num {s : Str} (h : numB (tl s) = true) (z : s.length ≤ 640) : intD (.str s) = some (numV (tl s)) := by
  have key : PySem.intText? s = some (numV (tl s)) := by
    unfold numB at h
    split at h
    · rename_i r e
      simp only [Bool.and_eq_true] at h
      obtain ⟨n, d⟩ := figB_digits h.1
      rw [PySem.intText_neg e d n (by omega), e]; rfl
    · rename_i ne
      obtain ⟨n, d⟩ := figB_digits h
      rw [PySem.intText_digits d n (by omega)]
      unfold numV
      split
      · rename_i r e; exact absurd e (ne r)
      · rfl
  simp [intD, key, z]
theorem numC_free {i : Int} {c : Nat} (h : c < 45 ∨ 57 < c) : c ∉ numC i := by
  unfold numC
  split
  · intro m
    rcases List.mem_cons.mp m with rfl | m
    · omega
    · exact numL_free (by omega) m
  · exact numL_free (by omega)
theorem numC_ne (i : Int) : numC i ≠ [] := by
  unfold numC
  split
  · simp
  · exact numL_ne _
theorem numC_len {i : Int} {k : Nat} (hk : 0 < k) (h : i.natAbs < 10 ^ k) : (numC i).length ≤ k + 1 := by
  have := numL_len hk h
  unfold numC
  split
  · rw [List.length_cons]; omega
  · omega
theorem rev_ind {α : Type} {P : List α → Prop} (h0 : P []) (h1 : ∀ l c, P l → P (l ++ [c])) : ∀ l, P l := by
  have key : ∀ l : List α, P l.reverse := by
    intro l
    induction l with
    | nil => exact h0
    | cons c l ih => rw [List.reverse_cons]; exact h1 _ _ ih
  intro l
  have := key l.reverse
  rwa [List.reverse_reverse] at this
theorem dv_snoc (l : List Nat) (c : Nat) : PySem.NumText.digitsVal (l ++ [c]) = PySem.NumText.digitsVal l * 10 + (c - 48) := by
  unfold PySem.NumText.digitsVal
  rw [List.foldl_append]; rfl
theorem dv_pos : ∀ (l : List Nat), l ≠ [] → (∀ c ∈ l, 48 ≤ c ∧ c ≤ 57) → l.head? ≠ some 48 → 0 < PySem.NumText.digitsVal l := by
  refine rev_ind (fun h => absurd rfl h) fun l c ih => ?_
  · intro _ hd hh
    rw [dv_snoc]
    by_cases hl : l = []
    · subst hl
      have := hd c (by simp)
      simp at hh
      omega
    · have := ih hl (fun d m => hd d (List.mem_append_left _ m)) (by
        rw [List.head?_append] at hh
        cases e : l.head? with
        | none => exact absurd (List.head?_eq_none_iff.mp e) hl
        | some a => rw [e] at hh; simpa using hh)
      omega
/-- figures without a nought ahead are the text of their number -/
theorem numL_dv : ∀ (l : List Nat), l ≠ [] → (∀ c ∈ l, 48 ≤ c ∧ c ≤ 57) → (l.head? ≠ some 48) → numL (PySem.NumText.digitsVal l) = l := by
  refine rev_ind (fun h => absurd rfl h) fun l c ih => ?_
  · intro _ hd hh
    have hc := hd c (by simp)
    rw [dv_snoc]
    by_cases hl : l = []
    · subst hl
      have e : PySem.NumText.digitsVal [] * 10 + (c - 48) = c - 48 := by
        show 0 * 10 + (c - 48) = c - 48
        omega
      rw [e, numL_lt (by omega)]
      simp; omega
    · have h2 : ∀ d ∈ l, 48 ≤ d ∧ d ≤ 57 := fun d m => hd d (List.mem_append_left _ m)
      have h3 : l.head? ≠ some 48 := by
        rw [List.head?_append] at hh
        cases e : l.head? with
        | none => exact absurd (List.head?_eq_none_iff.mp e) hl
        | some a => rw [e] at hh; simpa using hh
      have p := dv_pos l hl h2 h3
      rw [numL_step (by omega), show (PySem.NumText.digitsVal l * 10 + (c - 48)) / 10 = PySem.NumText.digitsVal l by omega, ih hl h2 h3, show 48 + (PySem.NumText.digitsVal l * 10 + (c - 48)) % 10 = c by omega]
theorem numL_of {l : List Nat} (h : figB l = true) : numL (PySem.NumText.digitsVal l) = l := by
  obtain ⟨n, d⟩ := figB_digits h
  simp only [figB, Bool.and_eq_true, Bool.or_eq_true, decide_eq_true_eq] at h
  rcases h.2 with e | e
  · subst e; exact numL_lt (by decide)
  · exact numL_dv l n d e
theorem numC_of {l : List Nat} (h : numB l = true) : numC (numV l) = l := by
  unfold numB at h
  split at h
  · rename_i r
    simp only [Bool.and_eq_true, decide_eq_true_eq] at h
    have e := numL_of h.1
    have p : PySem.NumText.digitsVal r ≠ 0 := fun q => h.2 (by rw [← e, q]; exact numL_lt (by decide))
    show numC (-((PySem.NumText.digitsVal r : Nat) : Int)) = _
    unfold numC
    rw [if_pos (by omega), Int.natAbs_neg, Int.natAbs_natCast, e]
  · rename_i ne
    have e := numL_of h
    have v : numV l = ((PySem.NumText.digitsVal l : Nat) : Int) := by
      unfold numV
      split
      · rename_i r q; exact (ne _ rfl).elim
      · rfl
    rw [v]
    unfold numC
    rw [if_neg (by omega), Int.natAbs_natCast, e]
end Pyx
end
section
/-! What the shared defs over texts give. -/
namespace Pyx
open PySem (Str sizeLine)
open TL
/-- the signs of a text -/
def sg (s : Str) : List Nat := s.cps.toList
theorem sg_tl (s : Str) : sg s = tl s := rfl
theorem sg_len (s : Str) : s.length = (sg s).length := len_tl s
theorem sg_inj {s t : Str} (h : sg s = sg t) : s = t := ext_tl h
theorem sg_app (s t : Str) : sg (s ++ t) = sg s ++ sg t := tl_append s t
theorem sg_beq (s t : Str) : (s == t) = decide (sg s = sg t) := str_beq s t
theorem sg_starts (x y : Str) (hy : sg y ≠ []) : PySem.Txt.startswith x y = pre (sg y) (sg x) := starts_pre x y hy
theorem sg_ends (x y : Str) (hy : sg y ≠ []) : PySem.Txt.endswith x y = (decide ((sg y).length ≤ (sg x).length) && pre (sg y) ((sg x).drop ((sg x).length - (sg y).length))) := ends_pre x y hy
theorem sg_cutS (z : Str) (lo hi : Option Int) : sg (L2.cutS z lo hi) = cut (sg z) lo hi := tl_cutS z lo hi
theorem sg_num (i : Int) : sg (Str.ofString (toString i)) = numC i := tl_numS i
theorem sg_int {s : Str} (h : numB (sg s) = true) (z : s.length ≤ 640) : intD (.str s) = some (numV (sg s)) := int_of_num h z
theorem sg_mk (l : List Nat) : sg ⟨l.toArray⟩ = l := rfl
end Pyx
namespace Pyx.Tx
open PySem (Str sizeLine)
open TL
theorem sg_0 : sg (Str.ofString "0") = [48] := by decide +kernel
theorem sg_e : sg (Str.ofString "") = [] := by decide +kernel
theorem sg_m0 : sg (Str.ofString "-0") = [45, 48] := by decide +kernel
theorem sg_m : sg (Str.ofString "-") = [45] := by decide +kernel
theorem sg_b : sg (Str.ofString " ") = [32] := by decide +kernel
theorem sg_n : sg (Str.ofString "\n") = [10] := by decide +kernel
theorem sg_fig : sg (Str.ofString "0123456789") = [48, 49, 50, 51, 52, 53, 54, 55, 56, 57] := by decide +kernel
theorem sg_goods : sg (Str.ofString "goods") = [103, 111, 111, 100, 115] := by decide +kernel
theorem sg_pack : sg (Str.ofString "pack") = [112, 97, 99, 107] := by decide +kernel
theorem sg_goodsb : sg (Str.ofString "goods ") = [103, 111, 111, 100, 115, 32] := by decide +kernel
theorem sg_packb : sg (Str.ofString "pack ") = [112, 97, 99, 107, 32] := by decide +kernel
theorem sg_1 (c : Nat) : sg ⟨#[c]⟩ = [c] := rfl
theorem fig_mem (c : Nat) : decide (c ∈ sg (Str.ofString "0123456789")) = (decide (48 ≤ c) && decide (c ≤ 57)) := by
  rw [sg_fig]
  rw [Bool.eq_iff_iff]
  simp only [decide_eq_true_eq, List.mem_cons, List.not_mem_nil, or_false, Bool.and_eq_true]
  omega
section
variable {T : Str → Option Df} {G : Str → Option D} {W n : Nat} {S : Store} {Q : D → Store → Prop}
theorem srcVal_str (s : Str) : srcVal S (.str s) = some ((sg s).map fun c => .str ⟨#[c]⟩, none) := rfl
theorem inD_sign (c : Nat) (t : Str) : inD S (.str ⟨#[c]⟩) (.str t) = some (decide (c ∈ sg t)) := rfl
theorem Ok_ix_str (s : Str) (i : Int) : Ok (ixD (.str s) (.int i) S) Q ↔ ∃ c, L2.atI (sg s) i = some c ∧ Q (.str ⟨#[c]⟩) S := by
  simp only [ixD, sg]
  cases L2.atI s.cps.toList i with
  | none => simp
  | some c => simp
def sgn : D → Nat
  | .str t => (sg t).headD 0
  | _ => 0
def isFig (c : Nat) : Bool := decide (48 ≤ c) && decide (c ≤ 57)
theorem ok_is_figures (L : LibR T G) {s : Str} (z : s.length ≤ sizeLine) : Ok (callF T G W (n + 1) "is_figures" [.str s] S) Q ↔ Q (.bl (figB (sg s))) S := by
  rw [Ok_callF L.t_is_figures rfl]
  have zl : (sg s).length ≤ sizeLine := by rw [← sg_len]; exact z
  have key : ∀ {S : Store} {Q : D → Store → Prop}, Ok (evE (callF T G W n) G (.comp false [1] (.cmp .notin (.var 1) (.glob "FIGURES")) (.var 1) (.val (.var 0)) .nil) [some (.str s), none] S) Q ↔ Q (.lst ((sg s).map fun c => .bl (!isFig c))) S := fun {S Q} => by
    rw [Ok_map1 (xs := (sg s).map fun c => .str ⟨#[c]⟩) (fun x => .bl (!isFig (sgn x))) (by simp [srcVal_str]) (by simp) fun x k => by
      obtain ⟨c, _, rfl⟩ := List.mem_map.mp k
      have e : sgn (.str ⟨#[c]⟩) = c := rfl
      simp [wipeE, L.g_FIGURES, inD_sign, fig_mem, e, isFig]
      omega]
    have e2 : List.map (fun x => D.bl (!isFig (sgn x))) ((sg s).map fun c => D.str ⟨#[c]⟩) = (sg s).map fun c => .bl (!isFig c) := by
      rw [List.map_map]; rfl
    rw [e2, List.length_map]
    simp [zl]
  have key2 : ∀ {S : Store} {Q : D → Store → Prop}, Ok (evE (callF T G W n) G (.comp false [1] (.cmp .notin (.var 1) (.glob "FIGURES")) (.var 1) (.val (.var 0)) .nil) [some (.str s), none] S) (fun d S1 => Ok (biD .any false [d] S1) Q) ↔ Q (.bl (!(sg s).all isFig)) S := fun {S Q} => by
    rw [key, bi_any (p := fun c => !isFig c), Ok_ok]
    have : ((sg s).any fun c => !isFig c) = !(sg s).all isFig := by
      induction sg s with
      | nil => rfl
      | cons c l ih => simp only [List.any_cons, List.all_cons, ih, Bool.not_and]
    rw [this]
  have hb : ∀ l : List Nat, (l.all fun c => decide (48 ≤ c) && decide (c ≤ 57)) = l.all isFig := fun l => rfl
  simp only [figB, hb]
  clear key
  cases e : sg s with
  | nil => simp [b_is_figures, esOf, ssOf, key2, sg_beq, sg_e, e]
  | cons c l =>
    rw [e] at key2
    cases ha : (c :: l).all isFig with
    | false =>
      rw [ha] at key2
      simp [b_is_figures, esOf, ssOf, key2, sg_beq, sg_e, e]
    | true =>
      rw [ha] at key2
      by_cases c0 : c = 48
      · subst c0
        by_cases l0 : l = []
        · subst l0
          simp [b_is_figures, esOf, ssOf, key2, sg_beq, sg_e, sg_0, e]
        · simp [b_is_figures, esOf, ssOf, key2, sg_beq, sg_e, sg_0, e, l0, Ok_ix_str, atI_0, sg_1]
      · simp [b_is_figures, esOf, ssOf, key2, sg_beq, sg_e, sg_0, e, c0, Ok_ix_str, atI_0, sg_1]
theorem ok_is_number_text (L : LibR T G) {s : Str} (z : s.length ≤ sizeLine) : Ok (callF T G W (n + 2) "is_number_text" [.str s] S) Q ↔ Q (.bl (numB (sg s))) S := by
  rw [Ok_callF L.t_is_number_text rfl]
  have st := sg_starts s (Str.ofString "-") (by rw [sg_m]; simp)
  rw [sg_m] at st
  have z1 : (L2.cutS s (some 1) none).length ≤ sizeLine := Nat.le_trans (L2.cutS_length _ _ _) z
  have hc : sg (L2.cutS s (some 1) none) = (sg s).drop 1 := by rw [sg_cutS]; exact cut_from _ 1
  have hs : ∀ l h (S : Store), slD false (.str s) l h S = .ok (.str (L2.cutS s l h)) S := fun _ _ _ => rfl
  cases e : sg s with
  | nil =>
    rw [e] at st
    simp [b_is_number_text, esOf, ssOf, L.g_MINUS, mtTy, mtD, startsD, st, pre, ok_is_figures L z, e, numB]
  | cons c l =>
    rw [e] at st hc
    by_cases c0 : c = 45
    · subst c0
      have st2 : PySem.Txt.startswith s (Str.ofString "-") = true := by rw [st]; simp [pre]
      simp [b_is_number_text, esOf, ssOf, L.g_MINUS, mtTy, mtD, startsD, st2, hs, asI, ok_is_figures L z1, hc, sg_beq, sg_m0, e, numB]
      cases figB l <;> by_cases l0 : l = [48] <;> simp [l0]
    · have st2 : PySem.Txt.startswith s (Str.ofString "-") = false := by rw [st]; simp [pre, c0]
      have nb : numB (c :: l) = figB (c :: l) := by
        unfold numB
        split
        · rename_i h; simp_all
        · rfl
      simp [b_is_number_text, esOf, ssOf, L.g_MINUS, mtTy, mtD, startsD, st2, ok_is_figures L z, e, nb]
/-! ### rows and lists as texts -/
def numS (i : Int) : Str := Str.ofString (toString i)
theorem sg_numS (i : Int) : sg (numS i) = numC i := sg_num i
def rowT (p : List Int) : Str := PySem.Txt.join (Str.ofString " ") (p.map numS)
def intOf : D → Int
  | .int i => i
  | _ => 0
/-- a row whose text is short enough -/
structure RowOk (p : List Int) : Prop where
  len : p.length ≤ 16
  num : ∀ x ∈ p, x.natAbs < 10 ^ 60
theorem num_len {x : Int} (h : x.natAbs < 10 ^ 60) : (numS x).length ≤ 61 := by
  rw [sg_len, sg_numS]; exact numC_len (by decide) h
theorem num_log {x : Int} (h : x.natAbs < 10 ^ 60) : x.natAbs.log2 < 1920 := by
  by_cases c : x.natAbs = 0
  · rw [c]; decide
  · exact (Nat.log2_lt c).mpr (Nat.lt_of_lt_of_le h (by decide +kernel))
theorem strsOf_map : ∀ l : List Str, strsOf (l.map .str) = some l
  | [] => rfl
  | x :: l => by rw [List.map_cons, strsOf, strsOf_map l]; rfl
theorem sg_join (y : Str) (l : List Str) : sg (PySem.Txt.join y l) = joinL (sg y) (l.map sg) := by rw [join_eq]; exact tl_join y l
theorem joinL_len (s : List Nat) : ∀ (l : List (List Nat)) (k : Nat), (∀ x ∈ l, x.length ≤ k) → (joinL s l).length ≤ l.length * (k + s.length)
  | [], k, _ => by simp [joinL]
  | [x], k, h => by
    have := h x (by simp)
    simp [joinL]; omega
  | x :: y :: l, k, h => by
    have h1 := h x (by simp)
    have ih := joinL_len s (y :: l) k fun z m => h z (List.mem_cons_of_mem _ m)
    rw [joinL, List.length_append, List.length_append]
    have : (x :: y :: l).length * (k + s.length) = (y :: l).length * (k + s.length) + (k + s.length) := by rw [List.length_cons, Nat.add_mul, Nat.one_mul]
    omega
  termination_by l => l.length
theorem sum_len : ∀ (l : List Str) (k : Nat), (∀ x ∈ l, x.length ≤ k) → (l.map (·.length)).sum ≤ l.length * k
  | [], k, _ => by simp
  | x :: l, k, h => by
    have h1 := h x (by simp)
    have ih := sum_len l k fun z m => h z (List.mem_cons_of_mem _ m)
    rw [List.map_cons, List.sum_cons, List.length_cons, Nat.add_mul, Nat.one_mul]
    omega
/-- a join of few short texts -/
theorem Ok_join {m : Bool} {y : Str} {l : List Str} {k : Nat} (hk : ∀ x ∈ l, x.length ≤ k) (z : l.length * (k + y.length) ≤ sizeLine) : Ok (mtD .join m (.str y) [.lst (l.map .str)] S) Q ↔ Q (.str (PySem.Txt.join y l)) S := by
  have h1 : (l.map (·.length)).sum + l.length * y.length ≤ sizeLine := by
    have := sum_len l k hk
    rw [Nat.mul_add] at z
    omega
  have h2 : (PySem.Txt.join y l).length ≤ sizeLine := by
    rw [sg_len, sg_join]
    have := joinL_len (sg y) (l.map sg) k (fun x m => by
      obtain ⟨s, ms, rfl⟩ := List.mem_map.mp m
      rw [← sg_len]; exact hk s ms)
    rw [List.length_map, ← sg_len] at this
    omega
  simp [mtD, joinD, asQ, strsOf_map, h1, h2]
theorem rowT_len {p : List Int} (h : RowOk p) : (rowT p).length ≤ 992 := by
  unfold rowT
  rw [sg_len, sg_join]
  have := joinL_len (sg (Str.ofString " ")) ((p.map numS).map sg) 61 (fun x m => by
    obtain ⟨s, ms, rfl⟩ := List.mem_map.mp m
    obtain ⟨i, mi, rfl⟩ := List.mem_map.mp ms
    rw [← sg_len]; exact num_len (h.num i mi))
  rw [List.length_map, List.length_map] at this
  rw [sg_b] at this ⊢
  have := h.len
  simp only [List.length_singleton] at *
  omega
theorem ok_text_of_row (L : LibW T G) {p : List Int} (h : RowOk p) : Ok (callF T G W (n + 1) "text_of_row" [.tup (p.map .int)] S) Q ↔ Q (.str (rowT p)) S := by
  rw [Ok_callF L.t_text_of_row rfl]
  have zl : (p.map D.int).length ≤ sizeLine := by rw [List.length_map]; exact Nat.le_trans h.len (by decide)
  have key : ∀ {S : Store} {Q : D → Store → Prop}, Ok (evE (callF T G W n) G (.comp false [1] (.bi .str false (.cons (.var 1) .nil)) (.var 1) (.val (.var 0)) .nil) [some (.tup (p.map .int)), none] S) Q ↔ Q (.lst ((p.map numS).map .str)) S := fun {S Q} => by
    rw [Ok_map1 (xs := p.map .int) (fun x => .str (numS (intOf x))) (by simp) (by simp) fun x k => by
      obtain ⟨i, mi, rfl⟩ := List.mem_map.mp k
      have := num_log (h.num i mi)
      simp [wipeE, biD, strD, this, intOf, numS]]
    have e : List.map (fun x => D.str (numS (intOf x))) (p.map .int) = (p.map numS).map .str := by
      rw [List.map_map, List.map_map]; rfl
    rw [e]
    simp only [zl, true_and]
    rfl
  have hj : ∀ {S : Store} {Q : D → Store → Prop}, Ok (mtD .join false (.str (Str.ofString " ")) [.lst ((p.map numS).map .str)] S) Q ↔ Q (.str (rowT p)) S := fun {S Q} => Ok_join (k := 61) (fun x m => by
    obtain ⟨i, mi, rfl⟩ := List.mem_map.mp m
    exact num_len (h.num i mi)) (by
    have : (Str.ofString " ").length = 1 := by decide +kernel
    rw [this, List.length_map]
    have := h.len
    exact Nat.le_trans (Nat.mul_le_mul_right 62 this) (by decide))
  simp [-List.map_map, b_text_of_row, esOf, ssOf, L.g_BLANK, mtTy, key, hj]
def headT (m : Int) : Str := Str.ofString "goods" ++ Str.ofString " " ++ numS m
def lineT (p : List Int) : Str := Str.ofString "pack" ++ Str.ofString " " ++ rowT p
def linesT (m : Int) (ps : List (List Int)) : List Str := headT m :: ps.map lineT
def listT (m : Int) (ps : List (List Int)) : Str := PySem.Txt.join (Str.ofString "") ((linesT m ps).map (· ++ Str.ofString "\n"))
def pD (p : List Int) : D := .tup (p.map .int)
def stD (m : Int) (ps : List (List Int)) : D := .tup [.int m, .tup (ps.map pD)]
structure ListOk (m : Int) (ps : List (List Int)) : Prop where
  num : m.natAbs < 10 ^ 60
  len : ps.length ≤ 16
  row : ∀ p ∈ ps, RowOk p
theorem len_app (s t : Str) : (s ++ t).length = s.length + t.length := by rw [sg_len, sg_app, List.length_append, ← sg_len, ← sg_len]
theorem len_goods : (Str.ofString "goods").length = 5 := by decide +kernel
theorem len_pack : (Str.ofString "pack").length = 4 := by decide +kernel
theorem len_b : (Str.ofString " ").length = 1 := by decide +kernel
theorem len_n : (Str.ofString "\n").length = 1 := by decide +kernel
theorem len_e : (Str.ofString "").length = 0 := by decide +kernel
theorem lines_len {m : Int} {ps : List (List Int)} (h : ListOk m ps) : ∀ x ∈ linesT m ps, x.length ≤ 1000 := fun x k => by
  rcases List.mem_cons.mp k with rfl | k
  · have := num_len h.num
    rw [headT, len_app, len_app, len_goods, len_b]; omega
  · obtain ⟨p, mp, rfl⟩ := List.mem_map.mp k
    have := rowT_len (h.row p mp)
    rw [lineT, len_app, len_app, len_pack, len_b]; omega
theorem sz : sizeLine = 16777216 := by decide +kernel
theorem bi_str {m : Bool} {i : Int} (h : i.natAbs < 10 ^ 60) : biD .str m [.int i] S = .ok (.str (numS i)) S := by
  simp [biD, strD, num_log h, numS]
theorem ok_text_of_list (L : LibW T G) {m : Int} {ps : List (List Int)} (h : ListOk m ps) : callF T G W (n + 2) "text_of_list" [stD m ps] S = .ok (.str (listT m ps)) S := by
  apply eq_of_ok
  rw [Ok_callF L.t_text_of_list rfl]
  have hj : ∀ {S1 : Store} {Q : D → Store → Prop}, Ok (mtD .join false (.str (Str.ofString "")) [.lst (((linesT m ps).map (· ++ Str.ofString "\n")).map .str)] S1) Q ↔ Q (.str (listT m ps)) S1 := fun {S1 Q} => Ok_join (k := 1001) (fun x k => by
    obtain ⟨s, ms, rfl⟩ := List.mem_map.mp k
    have := lines_len h s ms
    rw [len_app, len_n]; omega) (by
    rw [len_e, List.length_map, linesT, List.length_cons, List.length_map]
    have := h.len
    exact Nat.le_trans (Nat.mul_le_mul_right 1001 (Nat.succ_le_succ this)) (by decide))
  have n2 : (numS m).length ≤ 61 := num_len h.num
  have z1 : 6 + (numS m).length ≤ 16777216 := by omega
  simp [sz, -List.map_map, b_text_of_list, esOf, ssOf, L.g_GOODS_WORD, L.g_BLANK, L.g_MANY, L.g_PACKS, stD, atI_0, atI_1, bi_str h.num, len_app, len_goods, len_b, z1, Ok_for, mtTy]
  refine Ok_for_inv (fun i ρ S1 => ∃ o, ρ = [some (stD m ps), some (.ref S.length), o, none] ∧ S1 = S ++ [.lst ((headT m :: (ps.take i).map lineT).map .str)]) ⟨none, rfl, by simp [headT]⟩ (fun _ _ _ _ _ => trivial) ?_ ?_
  · rintro i x e ρ S1 ⟨o, rfl, rfl⟩
    rw [List.getElem?_map] at e
    obtain ⟨p, ep, rfl⟩ := Option.map_eq_some_iff.mp e
    have mp := List.mem_of_getElem? ep
    have hi := (List.getElem?_eq_some_iff.mp ep).1
    have r := h.row p mp
    have rl := rowT_len r
    have z3 : 5 + (rowT p).length ≤ 16777216 := by omega
    have z4 : min i ps.length + 1 < 16777216 := by
      have := h.len
      omega
    have et : ps.take (i + 1) = ps.take i ++ [p] := by rw [List.take_succ, ep]; rfl
    simp [sz, -List.map_map, pD, mtTy, lstAt, L.g_PACK_WORD, L.g_BLANK, len_app, len_pack, len_b, ok_text_of_row L r, z3, mtD, appendD, z4, et, lineT]
  · rintro ρ S1 ⟨o, rfl, rfl⟩
    rw [List.length_map, List.take_length]
    have zl : ((linesT m ps).map D.str).length ≤ sizeLine := by
      rw [List.length_map, linesT, List.length_cons, List.length_map]
      exact Nat.le_trans (Nat.succ_le_succ h.len) (by decide)
    have key : ∀ {Q : D → Store → Prop}, Ok (evE (callF T G W (n + 1)) G (.comp false [3] (.bin .add (.var 3) (.glob "END")) (.var 3) (.val (.var 1)) .nil) [some (stD m ps), some (.ref S.length), o, none] (S ++ [.lst ((linesT m ps).map .str)])) Q ↔ Q (.lst (((linesT m ps).map (· ++ Str.ofString "\n")).map .str)) (S ++ [.lst ((linesT m ps).map .str)]) := fun {Q} => by
      rw [Ok_mapG (xs := (linesT m ps).map .str) (g := some (S.length, (linesT m ps).map .str)) (fun x => match x with
        | .str s => .str (s ++ Str.ofString "\n")
        | d => d) (by simp [srcVal]) (by simp) (by simp) fun x k => by
          obtain ⟨s, ms, rfl⟩ := List.mem_map.mp k
          have := lines_len h s ms
          have z5 : s.length + 1 ≤ 16777216 := by omega
          simp [sz, wipeE, L.g_END, len_n, z5]]
      simp only [zl, true_and, List.map_map]
      rfl
    have hl : headT m :: ps.map lineT = linesT m ps := rfl
    rw [hl, after_nx]
    simp [-List.map_map, key, hj, mtTy]
    rw [gc_app (by simp [D.bnd])]
    simp
end
end Pyx.Tx
end
section
/-! Reading: what the shared defs give. -/
namespace Pyx.Tx
open PySem (Str sizeLine)
open TL
theorem spl_len (s : Nat) (S : List Nat) : ∀ (l : List Nat) (k : Nat) (acc : List Nat) (p : List Nat), p ∈ spl (s :: S) k acc l → p.length ≤ acc.length + l.length
  | [], k, acc, p, h => by
    rw [spl_nil] at h
    rw [List.mem_singleton.mp h]; simp
  | c :: r, 0, acc, p, h => by
    cases e : pre (s :: S) (c :: r) with
    | true =>
      rw [spl_hit e] at h
      rcases List.mem_cons.mp h with rfl | h
      · simp
      · have := spl_len s S r _ _ p h
        simp at this ⊢; omega
    | false =>
      rw [spl_miss e] at h
      have := spl_len s S r _ _ p h
      simp at this ⊢; omega
  | c :: r, k + 1, acc, p, h => by
    have := spl_len s S r k acc p h
    simp at this ⊢; omega
theorem spl_ne (s : Nat) (S : List Nat) : ∀ (l : List Nat) (k : Nat) (acc : List Nat), spl (s :: S) k acc l ≠ []
  | [], k, acc => by rw [spl_nil]; simp
  | c :: r, 0, acc => by
    cases e : pre (s :: S) (c :: r) with
    | true => rw [spl_hit e]; simp
    | false => rw [spl_miss e]; exact spl_ne s S r _ _
  | c :: r, k + 1, acc => spl_ne s S r k acc
theorem spl_num (s : Nat) (S : List Nat) : ∀ (l : List Nat) (k : Nat) (acc : List Nat), (spl (s :: S) k acc l).length ≤ l.length + 1
  | [], k, acc => by rw [spl_nil]; simp
  | c :: r, 0, acc => by
    cases e : pre (s :: S) (c :: r) with
    | true => rw [spl_hit e]; have := spl_num s S r ((s :: S).length - 1) []; simp at this ⊢; omega
    | false => rw [spl_miss e]; have := spl_num s S r 0 (acc ++ [c]); simp at this ⊢; omega
  | c :: r, k + 1, acc => by have := spl_num s S r k acc; simp at this ⊢; exact Nat.le_succ_of_le this
/-- a text cut at a plain sign -/
theorem split_sg (x y : Str) {s : Nat} {S : List Nat} (e : sg y = s :: S) (hk : y.cps.all (· < 256) = true) : (PySem.Txt.split x y).map sg = spl (s :: S) 0 [] (sg x) := by
  have := split_spl x y (by rw [← sg_tl, e]; simp) (kind_ok hk)
  rw [← sg_tl y, e] at this
  exact this
theorem split_len (x y : Str) {s : Nat} {S : List Nat} (e : sg y = s :: S) (hk : y.cps.all (· < 256) = true) : ∀ w ∈ PySem.Txt.split x y, w.length ≤ x.length := fun w m => by
  have h : sg w ∈ (PySem.Txt.split x y).map sg := List.mem_map.mpr ⟨w, m, rfl⟩
  rw [split_sg x y e hk] at h
  have := spl_len s S _ _ _ _ h
  rw [sg_len, sg_len x]
  simpa using this
theorem split_ne (x y : Str) {s : Nat} {S : List Nat} (e : sg y = s :: S) (hk : y.cps.all (· < 256) = true) : PySem.Txt.split x y ≠ [] := fun q => by
  have h := split_sg x y e hk
  rw [q] at h
  exact spl_ne s S _ _ _ h.symm
theorem split_num (x y : Str) {s : Nat} {S : List Nat} (e : sg y = s :: S) (hk : y.cps.all (· < 256) = true) : (PySem.Txt.split x y).length ≤ x.length + 1 := by
  have h := congrArg List.length (split_sg x y e hk)
  rw [List.length_map] at h
  rw [h, sg_len]
  exact spl_num s S _ _ _
theorem plain_b : (Str.ofString " ").cps.all (· < 256) = true := by decide +kernel
theorem plain_n : (Str.ofString "\n").cps.all (· < 256) = true := by decide +kernel
section
variable {T : Str → Option Df} {G : Str → Option D} {W n : Nat} {S : Store}
/-- a cut at a plain sign, by the machine -/
theorem Ok_split {Q : D → Store → Prop} {x y : Str} {s : Nat} {S0 : List Nat} (e : sg y = s :: S0) (hk : y.cps.all (· < 256) = true) (z : x.length ≤ 1000000) : Ok (mtD .split false (.str x) [.str y] S) Q ↔ Q (.lst ((PySem.Txt.split x y).map .str)) S := by
  have h1 : (y.length == 0) = false := by rw [sg_len, e]; simp
  have h2 : x.length + 2 ≤ sizeLine := by rw [sz]; omega
  have h3 : ((PySem.Txt.split x y).all fun z => decide (z.length ≤ sizeLine)) = true := by
    rw [List.all_eq_true]
    intro w m
    have := split_len x y e hk w m
    rw [sz, decide_eq_true_eq]; omega
  have h4 : ((PySem.Txt.split x y).map D.str).length ≤ sizeLine := by
    rw [List.length_map, sz]
    have := split_num x y e hk
    omega
  simp only [mtD, splitD, h1, h2, h3, and_self, if_true, Ok_mkL, h4, true_and]
  simp
def readN (ws : List Str) : Option (List Int) := if ws.all (fun w => numB (sg w)) then some (ws.map fun w => numV (sg w)) else none
def resL (o : Option (List Int)) : D := .lst (o.toList.map pD)
def strOf : D → Str
  | .str s => s
  | _ => Str.ofString ""
theorem ok_read_numbers (L : LibR T G) {ws : List Str} (hl : ∀ w ∈ ws, w.length ≤ 640) (hz : ws.length ≤ 1000000) : callF T G W (n + 3) "read_numbers" [.lst (ws.map .str)] S = .ok (resL (readN ws)) S := by
  apply eq_of_ok
  rw [Ok_callF L.t_read_numbers rfl]
  have zl : (ws.map D.str).length ≤ sizeLine := by rw [List.length_map, sz]; omega
  have key : ∀ {S : Store} {Q : D → Store → Prop}, Ok (evE (callF T G W (n + 2)) G (.comp false [1] (.call "is_number_text" (.cons (.var 1) .nil)) (.var 1) (.val (.var 0)) .nil) [some (.lst (ws.map .str)), none] S) Q ↔ Q (.lst (ws.map fun w => .bl (numB (sg w)))) S := fun {S Q} => by
    rw [Ok_map1 (xs := ws.map .str) (fun x => .bl (numB (sg (strOf x)))) (by simp) (by simp) fun x k => by
      obtain ⟨w, m, rfl⟩ := List.mem_map.mp k
      have : w.length ≤ sizeLine := by have := hl w m; rw [sz]; omega
      simp [wipeE, ok_is_number_text L this, strOf]]
    simp only [zl, true_and, if_neg Bool.false_ne_true, List.map_map]
    rfl
  cases ha : ws.all (fun w => numB (sg w)) with
  | false => simp [b_read_numbers, esOf, ssOf, key, readN, ha, resL, bi_all (p := fun w => numB (sg w))]
  | true =>
    have key2 : ∀ {S : Store} {Q : D → Store → Prop}, Ok (evE (callF T G W (n + 2)) G (.comp false [1] (.bi .int false (.cons (.var 1) .nil)) (.var 1) (.val (.var 0)) .nil) [some (.lst (ws.map .str)), none] S) Q ↔ Q (.lst (ws.map fun w => .int (numV (sg w)))) S := fun {S Q} => by
      rw [Ok_map1 (xs := ws.map .str) (fun x => .int (numV (sg (strOf x)))) (by simp) (by simp) fun x k => by
        obtain ⟨w, m, rfl⟩ := List.mem_map.mp k
        have := sg_int (List.all_eq_true.mp ha w m) (hl w m)
        simp [wipeE, biD, this, strOf]]
      simp only [zl, true_and, if_neg Bool.false_ne_true, List.map_map]
      rfl
    simp [sz, b_read_numbers, esOf, ssOf, key, key2, readN, ha, resL, bi_all (p := fun w => numB (sg w)), pD]
def readLine (line word : Str) : Option (List Int) := match PySem.Txt.split line (Str.ofString " ") with
  | w :: ws => if w = word then readN ws else none
  | [] => none
theorem cut_drop1 {α : Type} (a : α) (l : List α) : cut (a :: l) (some 1) none = l := cut_from (a :: l) 1
theorem ok_read_line (L : LibR T G) {line word : Str} (hl : line.length ≤ 640) : callF T G W (n + 4) "read_line" [.str line, .str word] S = .ok (resL (readLine line word)) S := by
  apply eq_of_ok
  rw [Ok_callF L.t_read_line rfl]
  have ne := split_ne line (Str.ofString " ") sg_b plain_b
  have ln := split_len line (Str.ofString " ") sg_b plain_b
  have nm := split_num line (Str.ofString " ") sg_b plain_b
  have hs : ∀ {S : Store} {Q : D → Store → Prop}, Ok (mtD .split false (.str line) [.str (Str.ofString " ")] S) Q ↔ Q (.lst ((PySem.Txt.split line (Str.ofString " ")).map .str)) S := fun {S Q} => Ok_split sg_b plain_b (by omega)
  unfold readLine
  cases e : PySem.Txt.split line (Str.ofString " ") with
  | nil => exact absurd e ne
  | cons w ws =>
    rw [e] at ln nm hs
    have sl : ∀ (S : Store), slD false (.lst (.str w :: ws.map .str)) (some 1) none S = .ok (.lst (ws.map .str)) S := fun S => by
      simp only [slD, asQ, cut_drop1, mkL]
      rw [if_pos (by rw [List.length_map, sz]; simp at nm; omega)]; rfl
    have rn : ∀ (S : Store), callF T G W (n + 3) "read_numbers" [.lst (ws.map .str)] S = .ok (resL (readN ws)) S := fun S => ok_read_numbers L (fun x m => Nat.le_trans (ln x (List.mem_cons_of_mem _ m)) hl) (by simp at nm; omega)
    by_cases c : w = word
    · simp [sz, b_read_line, esOf, ssOf, L.g_BLANK, mtTy, hs, atI_0, c, asI, sl, rn]
      rw [c] at sl
      simp [sl, rn]
    · simp [sz, b_read_line, esOf, ssOf, L.g_BLANK, mtTy, hs, atI_0, c, resL]
end
end Pyx.Tx
end
section
namespace Pyx.Tx
open PySem (Str sizeLine)
open TL
/-! ### plain values in comparisons -/
mutual
/-- whole numbers and tuples of such, not deep -/
def flatI : Nat → D → Bool
  | _, .int _ => true
  | 0, _ => false
  | k + 1, .tup ds => flatIs k ds
  | _, _ => false
def flatIs : Nat → List D → Bool
  | _, [] => true
  | k, d :: ds => flatI k d && flatIs k ds
end
mutual
theorem flatI_ok : ∀ (k : Nat) (d : D), flatI k d = true → d.pure = true ∧ d.depth ≤ k ∧ d.sok = true
  | _, .int _, _ => by simp [D.pure, D.depth, D.sok]
  | k + 1, .tup ds, h => by
    simp only [flatI] at h
    obtain ⟨h1, h2, h3⟩ := flatIs_ok k ds h
    simp only [D.pure, D.depth, D.sok]
    exact ⟨h1, by omega, h3⟩
  | 0, .tup ds, h => by simp [flatI] at h
  | k, .non, h => by cases k <;> simp [flatI] at h
  | k, .bl _, h => by cases k <;> simp [flatI] at h
  | k, .str _, h => by cases k <;> simp [flatI] at h
  | k, .lst _, h => by cases k <;> simp [flatI] at h
  | k, .fz _, h => by cases k <;> simp [flatI] at h
  | k, .ref _, h => by cases k <;> simp [flatI] at h
theorem flatIs_ok : ∀ (k : Nat) (ds : List D), flatIs k ds = true → D.pures ds = true ∧ D.depths ds ≤ k ∧ D.soks ds = true
  | _, [], _ => by simp [D.pures, D.depths, D.soks]
  | k, d :: ds, h => by
    simp only [flatIs, Bool.and_eq_true] at h
    obtain ⟨a1, a2, a3⟩ := flatI_ok k d h.1
    obtain ⟨b1, b2, b3⟩ := flatIs_ok k ds h.2
    simp only [D.pures, D.depths, D.soks, Bool.and_eq_true]
    exact ⟨⟨a1, b1⟩, by omega, a3, b3⟩
end
mutual
theorem pure_bnd (n : Nat) : ∀ (d : D), d.pure = true → d.bnd n = true
  | .non, _ => rfl
  | .bl _, _ => rfl
  | .int _, _ => rfl
  | .str _, _ => rfl
  | .tup ds, h => by simp only [D.pure] at h; simp only [D.bnd]; exact pures_bnds n ds h
  | .lst ds, h => by simp only [D.pure] at h; simp only [D.bnd]; exact pures_bnds n ds h
  | .fz ds, h => by simp only [D.pure] at h; simp only [D.bnd]; exact pures_bnds n ds h
  | .ref _, h => by simp [D.pure] at h
theorem pures_bnds (n : Nat) : ∀ (ds : List D), D.pures ds = true → D.bnds n ds = true
  | [], _ => rfl
  | d :: ds, h => by
    simp only [D.pures, Bool.and_eq_true] at h
    simp only [D.bnds, Bool.and_eq_true]
    exact ⟨pure_bnd n d h.1, pures_bnds n ds h.2⟩
end
theorem flat_ints (k : Nat) : ∀ p : List Int, flatIs k (p.map .int) = true
  | [] => by simp [flatIs]
  | i :: p => by simp [flatIs, flatI, flat_ints k p]
theorem flat_pD (k : Nat) (p : List Int) : flatI (k + 1) (pD p) = true := by simp [pD, flatI, flat_ints]
theorem flat_pDs (k : Nat) : ∀ ps : List (List Int), flatIs (k + 1) (ps.map pD) = true
  | [] => by simp [flatIs]
  | p :: ps => by rw [List.map_cons, flatIs, flat_pD, flat_pDs k ps]; rfl
theorem flat_stD (k : Nat) (m : Int) (ps : List (List Int)) : flatI (k + 3) (stD m ps) = true := by simp [stD, flatI, flatIs, flat_pDs]
theorem eqD_lst {S : Store} {xs ys : List D} {k : Nat} (hx : flatIs k xs = true) (hy : flatIs k ys = true) (hk : k < 64) : eqD S (.lst xs) (.lst ys) = some (D.eqs xs ys) := by
  obtain ⟨a1, a2, a3⟩ := flatIs_ok k xs hx
  obtain ⟨b1, b2, b3⟩ := flatIs_ok k ys hy
  have c1 : D.depths xs + 1 ≤ 64 := by omega
  have c2 : D.depths ys + 1 ≤ 64 := by omega
  simp [eqD, flatL, D.pure, D.depth, D.sok, D.eq, a1, a3, b1, b3, c1, c2]
theorem eqD_tup {S : Store} {xs ys : List D} {k : Nat} (hx : flatIs k xs = true) (hy : flatIs k ys = true) (hk : k < 64) : eqD S (.tup xs) (.tup ys) = some (D.eqs xs ys) := by
  obtain ⟨a1, a2, a3⟩ := flatIs_ok k xs hx
  obtain ⟨b1, b2, b3⟩ := flatIs_ok k ys hy
  have c1 : D.depths xs + 1 ≤ 64 := by omega
  have c2 : D.depths ys + 1 ≤ 64 := by omega
  simp [eqD, flatL, D.pure, D.depth, D.sok, D.eq, a1, a3, b1, b3, c1, c2]
theorem eqD_resL {S : Store} (o : Option (List Int)) : eqD S (resL o) (.lst []) = some o.isNone := by
  cases o with
  | none => exact eqD_lst (k := 0) (by simp [flatIs]) (by simp [flatIs]) (by decide)
  | some p =>
    rw [resL, eqD_lst (k := 1) (flat_pDs 0 _) (by simp [flatIs]) (by decide)]
    simp [D.eqs]
section
variable {T : Str → Option Df} {G : Str → Option D} {W n : Nat} {S : Store}
def readLs (lines : List Str) : Option (Int × List (List Int)) := match lines with
  | l0 :: ls => match readLine l0 (Str.ofString "goods") with
    | some [m] => (ls.mapM fun l => readLine l (Str.ofString "pack")).map fun ps => (m, ps)
    | _ => none
  | [] => none
def resS (o : Option (Int × List (List Int))) : D := .lst (o.toList.map fun q => stD q.1 q.2)
theorem mapM_none {α β : Type} {f : α → Option β} : ∀ {l : List α} {i : Nat} {a : α}, l[i]? = some a → f a = none → l.mapM f = none
  | [], i, a, h, _ => by simp at h
  | b :: l, 0, a, h, e => by
    simp at h; subst h
    rw [List.mapM_cons, e]; rfl
  | b :: l, i + 1, a, h, e => by
    rw [List.getElem?_cons_succ] at h
    rw [List.mapM_cons, mapM_none h e]
    cases f b <;> rfl
theorem mapM_snoc {α β : Type} {f : α → Option β} {l : List α} {i : Nat} {a : α} {bs : List β} {b : β} (h : l[i]? = some a) (e : (l.take i).mapM f = some bs) (e2 : f a = some b) : (l.take (i + 1)).mapM f = some (bs ++ [b]) := by
  rw [List.take_succ, h, Option.toList_some, List.mapM_append, e]
  simp [e2]
theorem ok_read_lines (L : LibR T G) {lines : List Str} (ne : lines ≠ []) (hl : ∀ l ∈ lines, l.length ≤ 640) (hz : lines.length ≤ 1000000) : callF T G W (n + 5) "read_lines" [.lst (lines.map .str)] S = .ok (resS (readLs lines)) S := by
  apply eq_of_ok
  rw [Ok_callF L.t_read_lines rfl]
  match lines, ne, hl, hz with
  | l0 :: ls, _, hl, hz =>
    have rl : ∀ (S : Store) (w : Str), callF T G W (n + 4) "read_line" [.str l0, .str w] S = .ok (resL (readLine l0 w)) S := fun S w => ok_read_line L (hl l0 (by simp))
    have bail : gc S (.lst []) (S ++ [.lst []]) = .ok (.lst []) S := gc_app (by simp [D.bnd, D.bnds])
    cases e0 : readLine l0 (Str.ofString "goods") with
    | none =>
      have : eqD (S ++ [.lst []]) (resL none) (.lst []) = some true := eqD_resL none
      simp [sz, b_read_lines, esOf, ssOf, tgsOf, L.g_GOODS_WORD, atI_0, rl, e0, Tgs.len, this, bail, readLs, resS]
    | some q =>
      have h1 : eqD (S ++ [.lst []]) (resL (some q)) (.lst []) = some false := eqD_resL (some q)
      have h2 : resL (some q) = .lst [pD q] := rfl
      rw [h2] at h1
      match q, e0, h1, h2 with
      | [], e0, h1, h2 =>
        simp [pD] at h1
        simp [sz, b_read_lines, esOf, ssOf, tgsOf, L.g_GOODS_WORD, atI_0, rl, e0, Tgs.len, h1, h2, bail, readLs, resS, pD]
      | a :: b :: r, e0, h1, h2 =>
        have c2 : ¬ ((r.length : Int) + 1 + 1 = 1) := by omega
        simp [pD] at h1
        simp [sz, b_read_lines, esOf, ssOf, tgsOf, L.g_GOODS_WORD, atI_0, rl, e0, Tgs.len, h1, h2, bail, readLs, resS, pD, c2]
      | [m], e0, h1, h2 =>
        have sl : ∀ (S : Store), slD false (.lst (.str l0 :: ls.map .str)) (some 1) none S = .ok (.lst (ls.map .str)) S := fun S => by
          simp only [slD, asQ, cut_drop1, mkL]
          rw [if_pos (by rw [List.length_map, sz]; simp at hz; omega)]; rfl
        simp [pD] at h1
        simp [-List.map_map, sz, b_read_lines, esOf, ssOf, tgsOf, L.g_GOODS_WORD, atI_0, rl, e0, Tgs.len, h1, h2, pD, Ok_for, asI, sl]
        refine Ok_for_inv (fun i ρ S1 => ∃ ps o1 o2, (ls.take i).mapM (fun l => readLine l (Str.ofString "pack")) = some ps ∧ ρ = [some (.lst ((l0 :: ls).map .str)), some (.lst [pD [m]]), some (.ref S.length), o1, o2] ∧ S1 = S ++ [.lst (ps.map pD)]) ⟨[], none, none, rfl, rfl, rfl⟩ (fun _ _ _ _ _ => trivial) ?_ ?_
        · rintro i x e ρ S1 ⟨ps, o1, o2, hm, rfl, rfl⟩
          rw [List.getElem?_map] at e
          obtain ⟨l, el, rfl⟩ := Option.map_eq_some_iff.mp e
          have ml := List.mem_of_getElem? el
          have rl2 : ∀ (S : Store) (w : Str), callF T G W (n + 4) "read_line" [.str l, .str w] S = .ok (resL (readLine l w)) S := fun S w => ok_read_line L (hl l (List.mem_cons_of_mem _ ml))
          cases er : readLine l (Str.ofString "pack") with
          | none =>
            have h3 : ∀ S, eqD S (resL none) (.lst []) = some true := fun S => eqD_resL none
            have b3 : gc S (.lst []) (S ++ [.lst (ps.map pD)]) = .ok (.lst []) S := gc_app (by simp [D.bnd, D.bnds])
            have : ls.mapM (fun l => readLine l (Str.ofString "pack")) = none := mapM_none el er
            simp [-List.map_map, sz, L.g_PACK_WORD, rl2, er, h3, b3, readLs, e0, this, resS]
          | some p =>
            have h3 : ∀ S, eqD S (.lst [pD p]) (.lst []) = some false := fun S => eqD_resL (some p)
            have h4 : resL (some p) = .lst [pD p] := rfl
            have z4 : ps.length + 1 ≤ 16777216 := by
              have := mapM_len hm
              rw [List.length_take] at this
              simp at hz; omega
            have hm2 := mapM_snoc el hm er
            simp [-List.map_map, sz, L.g_PACK_WORD, rl2, er, h3, h4, mtTy, lstAt, mtD, extendD, asL, z4]
            exact ⟨ps ++ [p], hm2, by simp⟩
        · rintro ρ S1 ⟨ps, o1, o2, hm, rfl, rfl⟩
          rw [List.length_map, List.take_length] at hm
          have z4 : ps.length ≤ 16777216 := by
            have := mapM_len hm
            simp at hz; omega
          have bs : D.bnds S.length (ps.map pD) = true := pures_bnds _ _ (flatIs_ok 1 _ (flat_pDs 0 ps)).1
          have b4 : gc S (.lst [.tup [.int m, .tup (ps.map pD)]]) (S ++ [.lst (ps.map pD)]) = .ok (.lst [.tup [.int m, .tup (ps.map pD)]]) S := gc_app (by simp [D.bnd, D.bnds, bs])
          simp [-List.map_map, sz, atI_0, pD, biD, tupD, asQ]
          rw [b4]
          simp [readLs, e0, hm, resS, stD]
def inB (m : Int) (ps : List (List Int)) : Bool := isLs (stD m ps)
def lastN (l : List Nat) : Bool := decide (l.getLast? = some 10)
def readW (text : Str) : Option (Int × List (List Int)) :=
  if lastN (sg text) then (readLs (PySem.Txt.split (L2.cutS text none (some (-1))) (Str.ofString "\n"))).filter fun q => inB q.1 q.2 else none
theorem ends_n (text : Str) : PySem.Txt.endswith text (Str.ofString "\n") = lastN (sg text) := by
  rw [sg_ends _ _ (by rw [sg_n]; simp), sg_n]
  unfold lastN
  cases e : sg text with
  | nil => simp
  | cons c l =>
    rw [← e]
    have h1 : 1 ≤ (sg text).length := by rw [e]; simp
    have h2 : (sg text).drop ((sg text).length - 1) = [(sg text)[(sg text).length - 1]'(by omega)] := by
      rw [List.drop_eq_getElem_cons (by omega)]
      congr 1
      rw [List.drop_eq_nil_iff]; omega
    rw [List.length_singleton, h2, List.getLast?_eq_getElem?, List.getElem?_eq_getElem (by omega)]
    simp [pre, h1]
    rw [Bool.eq_iff_iff]; simp
theorem readLine_len {l w : Str} {p : List Int} (h : readLine l w = some p) : p.length ≤ l.length := by
  unfold readLine at h
  have nm := split_num l (Str.ofString " ") sg_b plain_b
  split at h
  · rename_i w0 ws e
    rw [e] at nm
    split at h
    · unfold readN at h
      split at h
      · cases h
        rw [List.length_map]
        simp at nm; omega
      · cases h
    · cases h
  · cases h
theorem mapM_mem {α β : Type} {f : α → Option β} : ∀ {l : List α} {us : List β}, l.mapM f = some us → ∀ u ∈ us, ∃ a ∈ l, f a = some u
  | [], us, h, u, m => by cases h; cases m
  | a :: l, us, h, u, m => by
    rw [List.mapM_cons] at h
    obtain ⟨d, e1, h⟩ := Option.bind_eq_some_iff.mp h
    obtain ⟨us', e2, h⟩ := Option.bind_eq_some_iff.mp h
    cases h
    rcases List.mem_cons.mp m with rfl | m
    · exact ⟨a, by simp, e1⟩
    · obtain ⟨b, mb, e⟩ := mapM_mem e2 u m
      exact ⟨b, List.mem_cons_of_mem _ mb, e⟩
theorem readLs_len {lines : List Str} {q : Int × List (List Int)} (hw : ∀ l ∈ lines, l.length ≤ 640) (h : readLs lines = some q) : ∀ p ∈ q.2, p.length ≤ 640 := fun p mp => by
  unfold readLs at h
  split at h
  · split at h
    · obtain ⟨ps, e, rfl⟩ := Option.map_eq_some_iff.mp h
      obtain ⟨l, ml, el⟩ := mapM_mem e p mp
      have := hw l (List.mem_cons_of_mem _ ml)
      have := readLine_len el
      omega
    · cases h
  · cases h
theorem ok_list_with_text (L : LibR T G) (V : LibV T G) {text : Str} (hl : text.length ≤ 999999) (hw : ∀ l ∈ PySem.Txt.split (L2.cutS text none (some (-1))) (Str.ofString "\n"), l.length ≤ 640) : callF T G W (n + 6) "list_with_text" [.str text] S = .ok (resS (readW text)) S := by
  apply eq_of_ok
  rw [Ok_callF L.t_list_with_text rfl]
  have en := ends_n text
  cases e : lastN (sg text) with
  | false =>
    rw [e] at en
    simp [sz, b_list_with_text, esOf, ssOf, L.g_END, mtTy, mtD, endsD, en, readW, e, resS]
  | true =>
    rw [e] at en
    have ct : (L2.cutS text none (some (-1))).length ≤ 999999 := Nat.le_trans (L2.cutS_length _ _ _) hl
    have hs : ∀ (S : Store), slD false (.str text) none (some (-1)) S = .ok (.str (L2.cutS text none (some (-1)))) S := fun S => rfl
    have sp : ∀ {S : Store} {Q : D → Store → Prop}, Ok (mtD .split false (.str (L2.cutS text none (some (-1)))) [.str (Str.ofString "\n")] S) Q ↔ Q (.lst ((PySem.Txt.split (L2.cutS text none (some (-1))) (Str.ofString "\n")).map .str)) S := fun {S Q} => Ok_split sg_n plain_n (by omega)
    have rl : ∀ (S : Store), callF T G W (n + 5) "read_lines" [.lst ((PySem.Txt.split (L2.cutS text none (some (-1))) (Str.ofString "\n")).map .str)] S = .ok (resS (readLs (PySem.Txt.split (L2.cutS text none (some (-1))) (Str.ofString "\n")))) S := fun S =>
      ok_read_lines L (split_ne _ _ sg_n plain_n) hw (Nat.le_trans (split_num _ _ sg_n plain_n) (by omega))
    generalize hr : readLs (PySem.Txt.split (L2.cutS text none (some (-1))) (Str.ofString "\n")) = r at rl
    have key : ∀ {S : Store} {Q : D → Store → Prop}, Ok (evE (callF T G W (n + 5)) G (.comp false [1] (.var 1) (.var 1) (.val (.call "read_lines" (.cons (.mt .split false (.sl false (.var 0) .none (.some (.neg (.con (.int 1))))) (.cons (.glob "END") .nil)) .nil))) (.cons (.call "is_list_by" (.cons (.var 1) .nil)) .nil)) [some (.str text), none] S) Q ↔ Q (resS (r.filter fun q => inB q.1 q.2)) S := fun {S Q} => by
      rw [Ok_filter1 (xs := r.toList.map fun q => stD q.1 q.2) isLs (by
        simp [asI, hs, mtTy, L.g_END, sp, rl, resS]) (by simp) fun x k => by
          obtain ⟨q, mq, rfl⟩ := List.mem_map.mp k
          have hp : (stD q.1 q.2).pure = true := (flatI_ok 3 _ (flat_stD 0 _ _)).1
          have hz : ∀ a ps, stD q.1 q.2 = .tup [a, .tup ps] → ∀ p ∈ ps, ∀ ds, p = .tup ds → ds.length ≤ sizeLine := by
            intro a ps e p mp ds ed
            simp only [stD, D.tup.injEq, List.cons.injEq, and_true] at e
            rw [← e.2] at mp
            obtain ⟨z, mz, rfl⟩ := List.mem_map.mp mp
            simp only [pD, D.tup.injEq] at ed
            rw [← ed, List.length_map, sz]
            cases r with
            | none => cases mq
            | some q' =>
              have : q = q' := by simpa using mq
              subst this
              have := readLs_len hw hr z mz
              omega
          simp [wipeE, eq_of_ok ((ok_is_list_by V hp hz (n := n)).mpr ⟨rfl, rfl⟩)]]
      cases r with
      | none => simp [resS, sz]
      | some q =>
        cases hb : isLs (stD q.1 q.2) <;> simp [resS, sz, hb, inB, Option.filter]
    simp [sz, b_list_with_text, esOf, ssOf, L.g_END, mtTy, mtD, endsD, en, key, readW, e, hr]
end
end Pyx.Tx
end
section
/-! The laws' own defs that several laws share: texts (printed by gen.py lib) and what they give. -/
namespace Pyx.Tx
open PySem (Str sizeLine)
open Pyx TL
def b_l_number : Ss := (ssOf [(.ite (.cmp .eq (.var 1) (.con (.int 0))) (ssOf [(.ret (.bin .sub (.call "_law_draw" (esOf [(.var 0), (.con (.int 7))])) (.con (.int 3))))]) (ssOf [])), (.ite (.cmp .eq (.var 1) (.con (.int 1))) (ssOf [(.ret (.bin .sub (.call "_law_draw" (esOf [(.var 0), (.con (.int 41))])) (.con (.int 20))))]) (ssOf [])), (.ret (.call "_law_pick" (esOf [(.var 0), (.lst false (esOf [(.bin .sub (.call "_law_draw" (esOf [(.var 0), (.con (.int 19999))])) (.con (.int 9999))), (.con (.int 9999)), (.neg (.con (.int 9999))), (.con (.int 0)), (.con (.int 1))]))])))])
def b_l_row : Ss := (ssOf [(.ret (.bi .tuple false (esOf [(.comp false [3] (.call "_law_number" (esOf [(.var 0), (.var 2)])) (.var 3) (.rng (esOf [(.var 1)])) (esOf []))])))])
def b_l_list : Ss := (ssOf [(.asg (.var 4) (.lst true (esOf []))), (.for (.var 5) (.rng (esOf [(.call "_law_draw" (esOf [(.var 0), (.bin .add (.var 2) (.con (.int 1)))]))])) (ssOf [(.asg (.var 6) (.call "_law_draw" (esOf [(.var 0), (.con (.int 6))]))), (.ite (.and (.cmp .eq (.var 6) (.con (.int 0))) (.cmp .ne (.var 4) (.lst false (esOf [])))) (ssOf [(.expr (.mt .append false (.var 4) (esOf [(.call "_law_pick" (esOf [(.var 0), (.var 4)]))])))]) (ssOf [(.ite (.cmp .eq (.var 6) (.con (.int 1))) (ssOf [(.expr (.mt .append false (.var 4) (esOf [(.bi .tuple false (esOf [(.comp false [7] (.con (.int 0)) (.var 7) (.rng (esOf [(.var 1)])) (esOf []))]))])))]) (ssOf [(.ite (.and (.cmp .eq (.var 6) (.con (.int 2))) (.cmp .gt (.bi .len false (esOf [(.var 4)])) (.con (.int 1)))) (ssOf [(.asg (.tup (tgsOf [(.var 8), (.var 9)])) (.tup (esOf [(.call "_law_pick" (esOf [(.var 0), (.var 4)])), (.call "_law_pick" (esOf [(.var 0), (.var 4)]))]))), (.asg (.var 10) (.bi .tuple false (esOf [(.comp false [11] (.bin .sub (.bin .mul (.con (.int 2)) (.ix (.var 8) (.var 11))) (.ix (.var 9) (.var 11))) (.var 11) (.rng (esOf [(.var 1)])) (esOf []))]))), (.expr (.mt .append false (.var 4) (esOf [(.ite (.cmp .lt (.bi .max false (esOf [(.comp false [12] (.bi .abs false (esOf [(.var 12)])) (.var 12) (.val (.var 10)) (esOf []))])) (.con (.int 10000))) (.var 10) (.var 8))])))]) (ssOf [(.expr (.mt .append false (.var 4) (esOf [(.call "_law_row" (esOf [(.var 0), (.var 1), (.var 3)]))])))]))]))]))])), (.ret (.tup (esOf [(.var 1), (.bi .tuple false (esOf [(.var 4)]))])))])
structure LibN (T : Str → Option Df) (G : Str → Option D) : Prop where
  t_l_number : T "_law_number" = some ⟨2, 2, b_l_number⟩
  t_l_row : T "_law_row" = some ⟨3, 4, b_l_row⟩
  t_l_list : T "_law_list" = some ⟨4, 13, b_l_list⟩
def b_l_figures : Ss := (ssOf [(.asg (.var 1) (.ite (.cmp .eq (.sl false (.var 0) .none (.some (.con (.int 1)))) (.con (.str "-"))) (.sl false (.var 0) (.some (.con (.int 1))) .none) (.var 0))), (.ite (.or (.cmp .eq (.var 1) (.con (.str ""))) (.or (.cmp .ne (.comp false [2] (.var 2) (.var 2) (.val (.var 1)) (esOf [(.cmp .notin (.var 2) (.con (.str "0123456789")))])) (.lst false (esOf []))) (.or (.and (.cmp .gt (.bi .len false (esOf [(.var 1)])) (.con (.int 1))) (.cmp .eq (.ix (.var 1) (.con (.int 0))) (.con (.str "0")))) (.cmp .eq (.var 0) (.con (.str "-0")))))) (ssOf [(.ret (.con .non))]) (ssOf [])), (.ret (.ite (.cmp .eq (.ix (.var 0) (.con (.int 0))) (.con (.str "-"))) (.neg (.bi .int false (esOf [(.var 1)]))) (.bi .int false (esOf [(.var 1)]))))])
def b_l_row_text : Ss := (ssOf [(.ret (.mt .join false (.con (.str " ")) (esOf [(.comp false [1] (.bi .str false (esOf [(.var 1)])) (.var 1) (.val (.var 0)) (esOf []))])))])
def b_l_read_row : Ss := (ssOf [(.asg (.var 2) (.comp false [3] (.call "_law_figures" (esOf [(.var 3)])) (.var 3) (.val (.mt .split false (.var 0) (esOf [(.con (.str " "))]))) (esOf []))), (.ret (.ite (.and (.cmp .eq (.bi .len false (esOf [(.var 2)])) (.var 1)) (.cmp .notin (.con .non) (.var 2))) (.bi .tuple false (esOf [(.var 2)])) (.con .non)))])
def b_l_list_rows : Ss := (ssOf [(.ret (.bin .add (.lst false (esOf [(.bin .add (.con (.str "goods ")) (.bi .str false (esOf [(.ix (.var 0) (.con (.int 0)))])))])) (.comp false [1] (.bin .add (.con (.str "pack ")) (.call "_law_row_text" (esOf [(.var 1)]))) (.var 1) (.val (.ix (.var 0) (.con (.int 1)))) (esOf []))))])
def b_l_read_list : Ss := (ssOf [(.asg (.var 1) (.mt .split false (.var 0) (esOf [(.con (.str "\n"))]))), (.ite (.or (.cmp .lt (.bi .len false (esOf [(.var 1)])) (.con (.int 2))) (.or (.cmp .gt (.bi .len false (esOf [(.var 1)])) (.con (.int 10))) (.or (.cmp .ne (.ix (.var 1) (.neg (.con (.int 1)))) (.con (.str ""))) (.cmp .notin (.ix (.var 1) (.con (.int 0))) (.comp false [2] (.bin .add (.con (.str "goods ")) (.bi .str false (esOf [(.var 2)]))) (.var 2) (.rng (esOf [(.con (.int 1)), (.con (.int 7))])) (esOf [])))))) (ssOf [(.ret (.con .non))]) (ssOf [])), (.asg (.tup (tgsOf [(.var 2), (.var 3)])) (.tup (esOf [(.bi .int false (esOf [(.sl false (.ix (.var 1) (.con (.int 0))) (.some (.con (.int 6))) .none)])), (.lst true (esOf []))]))), (.for (.var 4) (.val (.sl false (.var 1) (.some (.con (.int 1))) (.some (.neg (.con (.int 1)))))) (ssOf [(.asg (.var 5) (.ite (.cmp .eq (.sl false (.var 4) .none (.some (.con (.int 5)))) (.con (.str "pack "))) (.call "_law_read_row" (esOf [(.sl false (.var 4) (.some (.con (.int 5))) .none), (.var 2)])) (.con .non))), (.ite (.or (.cmp .is (.var 5) (.con .non)) (.cmp .ne (.comp false [6] (.var 6) (.var 6) (.val (.var 5)) (esOf [(.or (.cmp .gt (.var 6) (.con (.int 9999))) (.cmp .lt (.var 6) (.neg (.con (.int 9999)))))])) (.lst false (esOf [])))) (ssOf [(.ret (.con .non))]) (ssOf [])), (.expr (.mt .append false (.var 3) (esOf [(.var 5)])))])), (.ret (.tup (esOf [(.var 2), (.bi .tuple false (esOf [(.var 3)]))])))])
structure LibF (T : Str → Option Df) (G : Str → Option D) : Prop where
  t_l_figures : T "_law_figures" = some ⟨1, 3, b_l_figures⟩
  t_l_row_text : T "_law_row_text" = some ⟨1, 2, b_l_row_text⟩
  t_l_read_row : T "_law_read_row" = some ⟨2, 4, b_l_read_row⟩
  t_l_list_rows : T "_law_list_rows" = some ⟨1, 2, b_l_list_rows⟩
  t_l_read_list : T "_law_read_list" = some ⟨1, 7, b_l_read_list⟩
/-! ### drawing -/
/-- the pool's cell -/
def PL (p : Int × Int × Int) : Cell := .lst [.int p.1, .int p.2.1, .int p.2.2]
def Pool (S : Store) (l : Nat) : Prop := ∃ p, S[l]? = some (PL p)
/-- the pool alone has moved -/
def Mv (S : Store) (l : Nat) (S1 : Store) : Prop := ∃ p, S1 = S.set l (PL p)
theorem Pool.lt {S : Store} {l : Nat} (h : Pool S l) : l < S.length := by
  obtain ⟨p, h⟩ := h
  exact (List.getElem?_eq_some_iff.mp h).1
theorem Mv.len {S S1 : Store} {l : Nat} (m : Mv S l S1) : S1.length = S.length := by
  obtain ⟨p, rfl⟩ := m
  exact List.length_set ..
theorem Mv.pool {S S1 : Store} {l : Nat} (h : Pool S l) (m : Mv S l S1) : Pool S1 l := by
  have := h.lt
  obtain ⟨p, rfl⟩ := m
  exact ⟨p, by rw [List.getElem?_set_self this]⟩
theorem Mv.trans {S S1 S2 : Store} {l : Nat} (m : Mv S l S1) (k : Mv S1 l S2) : Mv S l S2 := by
  obtain ⟨p, rfl⟩ := m
  obtain ⟨q, rfl⟩ := k
  exact ⟨q, by rw [List.set_set]⟩
theorem Mv.refl {S : Store} {l : Nat} (h : Pool S l) : Mv S l S := by
  obtain ⟨p, h⟩ := h
  refine ⟨p, ?_⟩
  obtain ⟨h1, h2⟩ := List.getElem?_eq_some_iff.mp h
  rw [← h2, List.set_getElem_self]
theorem Mv.get {S S1 : Store} {l i : Nat} (m : Mv S l S1) (h : i ≠ l) : S1[i]? = S[i]? := by
  obtain ⟨p, rfl⟩ := m
  rw [List.getElem?_set_ne (fun e => h e.symm)]
theorem Mv.app {S X S1 : Store} {l : Nat} (h : Pool S l) (m : Mv (S ++ X) l S1) : ∃ S0, S1 = S0 ++ X ∧ Mv S l S0 := by
  obtain ⟨p, rfl⟩ := m
  exact ⟨S.set l (PL p), by rw [List.set_append_left _ _ h.lt], p, rfl⟩
theorem Pool.app {S X : Store} {l : Nat} (h : Pool S l) : Pool (S ++ X) l := by
  have := h.lt
  obtain ⟨p, h⟩ := h
  exact ⟨p, by rw [List.getElem?_append_left this]; exact h⟩
theorem gc_mv {S S1 : Store} {l : Nat} (m : Mv S l S1) (d : D) : gc S d S1 = .ok d S1 := gc_len d m.len
theorem gc_mvx {S S1 X : Store} {l : Nat} (m : Mv S l S1) {d : D} (hd : d.bnd S.length = true) : gc S d (S1 ++ X) = .ok d S1 := by
  obtain ⟨p, rfl⟩ := m
  exact gc_setapp hd (by simp [PL, Cell.bnd, D.bnd, D.bnds])
/-- a draw gives a number below the mark, and moves the pool alone -/
def DrawOk (T : Str → Option Df) (G : Str → Option D) (W : Nat) : Prop := ∀ (n : Nat) (S : Store) (l : Nat) (m : Int), Pool S l → 0 < m → m < 1073741824 →
  Ok (callF T G W (n + 1) "_law_draw" [.ref l, .int m] S) fun d S1 => ∃ r, d = .int r ∧ 0 ≤ r ∧ r < m ∧ Mv S l S1
section
variable {T : Str → Option Df} {G : Str → Option D} {W n : Nat} {S : Store}
theorem ixN_nat {k : Nat} {i : Int} (h0 : 0 ≤ i) (h1 : i < k) : L2.ixN k i = some i.toNat := by
  unfold L2.ixN
  rw [if_pos h0, if_pos (by omega)]
theorem atI_nat {α : Type} {xs : List α} {i : Int} (h0 : 0 ≤ i) (h1 : i < xs.length) : ∃ a, L2.atI xs i = some a ∧ a ∈ xs := by
  have h2 : i.toNat < xs.length := by omega
  exact ⟨xs[i.toNat], by simp [L2.atI, ixN_nat h0 h1, List.getElem?_eq_getElem h2], List.getElem_mem _⟩
/-- what may be picked from: a list or a tuple, or a list in the store beside the pool -/
inductive Items (S : Store) (l : Nat) : D → List D → Prop where
  | lst (ds : List D) : Items S l (.lst ds) ds
  | tup (ds : List D) : Items S l (.tup ds) ds
  | ref (k : Nat) (ds : List D) (h : S[k]? = some (.lst ds)) (ne : k ≠ l) : Items S l (.ref k) ds
theorem Items.mv {S S1 : Store} {l : Nat} {d : D} {ds : List D} (m : Mv S l S1) (h : Items S l d ds) : Items S1 l d ds := by
  cases h with
  | lst => exact .lst _
  | tup => exact .tup _
  | ref k _ h ne => exact .ref k ds (by rw [m.get ne]; exact h) ne
theorem Items.ix {S : Store} {l : Nat} {d : D} {ds : List D} {Q : D → Store → Prop} (h : Items S l d ds) (i : Int) : Ok (ixD d (.int i) S) Q ↔ ∃ e, L2.atI ds i = some e ∧ Q e S := by
  cases h with
  | lst => simp
  | tup => simp
  | ref k _ h ne => simp [ixD, asQ, h]
theorem Items.len {S : Store} {l : Nat} {d : D} {ds : List D} (m : Bool) (h : Items S l d ds) : biD .len m [d] S = .ok (.int ds.length) S := by
  cases h with
  | lst => rfl
  | tup => rfl
  | ref k _ h ne => simp [biD, lenD, asQ, h]
/-- one of some -/
theorem ok_pick (Dr : DrawOk T G W) (L : LibL T G) {l : Nat} {d : D} {ds : List D} (h : Pool S l) (it : Items S l d ds) (h0 : ds ≠ []) (h1 : ds.length < 1073741824) :
    Ok (callF T G W (n + 2) "_law_pick" [.ref l, d] S) fun e S1 => e ∈ ds ∧ Mv S l S1 := by
  rw [Ok_callF L.t_l_pick rfl]
  have hp : 0 < ds.length := List.length_pos_iff.mpr h0
  simp [b_l_pick, esOf, ssOf, it.len]
  refine (Dr n S l ds.length h (by omega) (by omega)).mono fun e S1 ⟨r, e1, r0, r1, mv⟩ => ?_
  subst e1
  obtain ⟨a, ea, ma⟩ := atI_nat r0 r1
  rw [(it.mv mv).ix]
  refine ⟨a, ea, ?_⟩
  rw [gc_mv mv]
  exact ⟨ma, mv⟩
theorem ok_number (Dr : DrawOk T G W) (L : LibL T G) (N : LibN T G) {l : Nat} {way : Int} (h : Pool S l) :
    Ok (callF T G W (n + 3) "_law_number" [.ref l, .int way] S) fun e S1 => ∃ i : Int, e = .int i ∧ -9999 ≤ i ∧ i ≤ 9999 ∧ Mv S l S1 := by
  rw [Ok_callF N.t_l_number rfl]
  by_cases w0 : way = 0
  · simp [b_l_number, esOf, ssOf, w0]
    refine (Dr (n + 1) S l 7 h (by decide) (by decide)).mono fun e S1 ⟨r, e1, r0, r1, mv⟩ => ?_
    subst e1
    simp [gc_mv mv]
    exact ⟨by omega, by omega, mv⟩
  · by_cases w1 : way = 1
    · simp [b_l_number, esOf, ssOf, w1]
      refine (Dr (n + 1) S l 41 h (by decide) (by decide)).mono fun e S1 ⟨r, e1, r0, r1, mv⟩ => ?_
      subst e1
      simp [gc_mv mv]
      exact ⟨by omega, by omega, mv⟩
    · simp [b_l_number, esOf, ssOf, w0, w1]
      refine (Dr (n + 1) S l 19999 h (by decide) (by decide)).mono fun e S1 ⟨r, e1, r0, r1, mv⟩ => ?_
      subst e1
      simp [sz]
      refine (ok_pick Dr L (n := n) (mv.pool h) (.lst _) (by simp) (by simp)).mono fun e S2 ⟨me, mv2⟩ => ?_
      have mv3 := mv.trans mv2
      rw [gc_mv mv3]
      simp only [List.mem_cons, List.not_mem_nil, or_false] at me
      rcases me with rfl | rfl | rfl | rfl | rfl
      · exact ⟨_, rfl, by omega, by omega, mv3⟩
      · exact ⟨_, rfl, by omega, by omega, mv3⟩
      · exact ⟨_, rfl, by omega, by omega, mv3⟩
      · exact ⟨_, rfl, by omega, by omega, mv3⟩
      · exact ⟨_, rfl, by omega, by omega, mv3⟩
/-- a comprehension that moves a state, one item a time -/
theorem Ok_comp_one {f : D → Store → R (List D)} {xs : List D} {S : Store} {Q : List D → Store → Prop} (I : List D → Store → Prop) (h0 : I [] S)
    (step : ∀ x ∈ xs, ∀ ys S, I ys S → Ok (f x S) fun zs S1 => ∃ z, zs = [z] ∧ I (ys ++ [z]) S1) (fin : ∀ ys S, ys.length = xs.length → I ys S → Q ys S) : Ok (compGo none f xs S) Q := by
  have gen : ∀ (xs : List D), (∀ x ∈ xs, ∀ ys S, I ys S → Ok (f x S) fun zs S1 => ∃ z, zs = [z] ∧ I (ys ++ [z]) S1) → ∀ ys S, I ys S → Ok (compGo none f xs S) fun zs S1 => zs.length = xs.length ∧ I (ys ++ zs) S1 := by
    intro xs
    induction xs with
    | nil =>
      intro _ ys S hI
      rw [cg_nil (g := none) trivial, Ok_ok, List.append_nil]
      exact ⟨rfl, hI⟩
    | cons x xs ih =>
      intro st ys S hI
      rw [cg_cons (g := none) trivial, Ok_bind]
      refine (st x List.mem_cons_self ys S hI).mono fun zs S1 ⟨z, e, k⟩ => ?_
      subst e
      rw [Ok_bind]
      refine (ih (fun y m => st y (List.mem_cons_of_mem _ m)) (ys ++ [z]) S1 k).mono fun us S2 ⟨k1, k2⟩ => ?_
      rw [Ok_ok]
      refine ⟨by simp [k1], ?_⟩
      rw [← List.append_assoc]
      exact k2
  exact (gen xs step [] S h0).mono fun ys S1 k => fin ys S1 k.1 k.2
theorem srcRng_nat {m : Nat} (h : m ≤ 1000000) : srcRng [.int (m : Int)] = some (rangeD 0 m) := by
  have h1 : smallI (m : Int) = true := by
    unfold smallI
    rw [decide_eq_true_eq]; omega
  show (if smallI (m : Int) = true ∧ (m : Int).toNat ≤ sizeLine then some (rangeD 0 (m : Int).toNat) else none) = _
  rw [if_pos ⟨h1, by rw [sz]; omega⟩, Int.toNat_natCast]
theorem rangeD_len (m : Nat) : (rangeD 0 m).length = m := by simp [rangeD]
theorem bds (S : Store) (p : List Int) : (pD p).bnd S.length = true := pure_bnd _ _ (flatI_ok 1 _ (flat_pD 0 p)).1
/-- the numbers of a drawn row -/
def Bd (p : List Int) : Prop := ∀ x ∈ p, -9999 ≤ x ∧ x ≤ 9999
theorem ok_row (Dr : DrawOk T G W) (L : LibL T G) (N : LibN T G) {l : Nat} {way : Int} {m : Nat} (h : Pool S l) (hm : m ≤ 1000000) :
    Ok (callF T G W (n + 4) "_law_row" [.ref l, .int m, .int way] S) fun e S1 => ∃ p, e = pD p ∧ p.length = m ∧ Bd p ∧ Mv S l S1 := by
  rw [Ok_callF N.t_l_row rfl]
  simp [b_l_row, esOf, ssOf, Ok_comp, srcRng_nat hm]
  refine Ok_comp_one (fun ys S1 => ∃ p : List Int, ys = p.map .int ∧ Bd p ∧ Mv S l S1) ⟨[], rfl, by simp [Bd], Mv.refl h⟩ ?_ ?_
  · rintro x mx ys S1 ⟨p, rfl, hb, mv⟩
    simp [wipeE]
    refine (ok_number Dr L N (n := n) (mv.pool h)).mono fun e S2 ⟨i, e1, i0, i1, mv2⟩ => ?_
    subst e1
    refine ⟨p ++ [i], by simp, fun x mx => ?_, mv.trans mv2⟩
    rcases List.mem_append.mp mx with mx | mx
    · exact hb x mx
    · rw [List.mem_singleton.mp mx]; exact ⟨i0, i1⟩
  · rintro ys S1 hl ⟨p, rfl, hb, mv⟩
    rw [rangeD_len, List.length_map] at hl
    have zl : p.length ≤ 16777216 := by omega
    have g1 : gc S (.tup (p.map .int)) S1 = .ok (.tup (p.map .int)) S1 := gc_mv mv _
    simp [sz, zl, g1]
    exact ⟨p, rfl, hl, hb, mv⟩
/-- a drawn list -/
structure Drawn (m : Nat) (k : Nat) (ps : List (List Int)) : Prop where
  len : ps.length ≤ k
  row : ∀ p ∈ ps, p.length = m ∧ Bd p
theorem eqs_pDs : ∀ (ps qs : List (List Int)), D.eqs (ps.map pD) (qs.map pD) = decide (ps = qs) := by
  have eints : ∀ (p q : List Int), D.eqs (p.map .int) (q.map .int) = decide (p = q) := by
    intro p
    induction p with
    | nil => intro q; cases q <;> simp [D.eqs]
    | cons i p ih =>
      intro q
      cases q with
      | nil => simp [D.eqs]
      | cons j q =>
        simp only [List.map_cons, D.eqs, D.eq, ih]
        rw [Bool.eq_iff_iff]; simp
  intro ps
  induction ps with
  | nil => intro q; cases q <;> simp [D.eqs]
  | cons p ps ih =>
    intro q
    cases q with
    | nil => simp [D.eqs]
    | cons q qs =>
      simp only [List.map_cons, D.eqs, ih, pD, D.eq, eints]
      rw [Bool.eq_iff_iff]; simp
theorem eqD_refpD {S : Store} {k : Nat} {ps : List (List Int)} (h : S[k]? = some (.lst (ps.map pD))) : eqD S (.ref k) (.lst []) = some (decide (ps = [])) := by
  obtain ⟨a1, a2, a3⟩ := flatIs_ok 1 _ (flat_pDs 0 ps)
  have c1 : D.depths (ps.map pD) + 1 ≤ 64 := by omega
  have := eqs_pDs ps []
  simp only [List.map_nil] at this
  simp [eqD, flatL, h, D.pure, D.pures, D.depth, D.depths, D.sok, D.soks, D.eq, a1, a3, c1, this]
theorem maxI_le : ∀ (l : List Int), l ≠ [] → ∃ j, maxI l = some j ∧ ∀ x ∈ l, x ≤ j
  | [], h => absurd rfl h
  | i :: l, _ => by
    cases e : maxI l with
    | none =>
      have : l = [] := by
        cases l with
        | nil => rfl
        | cons a l =>
          obtain ⟨j, h, _⟩ := maxI_le (a :: l) (by simp)
          rw [h] at e; cases e
      subst this
      exact ⟨i, by simp [maxI], by simp⟩
    | some j =>
      have hl : l ≠ [] := fun q => by rw [q] at e; cases e
      obtain ⟨j', h, k⟩ := maxI_le l hl
      rw [e] at h
      cases h
      refine ⟨if j > i then j else i, by simp [maxI, e], fun x m => ?_⟩
      rcases List.mem_cons.mp m with rfl | m
      · split <;> omega
      · have := k x m
        split <;> omega
theorem intsOf_map : ∀ l : List Int, intsOf (l.map .int) = some l
  | [] => rfl
  | x :: l => by rw [List.map_cons, intsOf, intsOf_map l]; rfl
def comb (m : Nat) (p q : List Int) : List Int := (List.range m).map fun k => 2 * p.getD k 0 - q.getD k 0
theorem atI_pD {p : List Int} {k : Nat} (h : k < p.length) : L2.atI (p.map D.int) (k : Int) = some (.int (p.getD k 0)) := by
  have h1 : k < (p.map D.int).length := by rw [List.length_map]; exact h
  have h2 := ixN_nat (k := p.length) (Int.natCast_nonneg k) (by omega)
  simp [L2.atI, h2, h, List.getD_eq_getElem?_getD]
theorem ok_list (Dr : DrawOk T G W) (L : LibL T G) (N : LibN T G) {l : Nat} {way : Int} {m k : Nat} (h : Pool S l) (hm : 1 ≤ m) (hm2 : m ≤ 1000) (hk : k ≤ 1000) :
    Ok (callF T G W (n + 5) "_law_list" [.ref l, .int m, .int k, .int way] S) fun e S1 => ∃ ps, e = stD m ps ∧ Drawn m k ps ∧ Mv S l S1 := by
  rw [Ok_callF N.t_l_list rfl]
  simp [b_l_list, esOf, ssOf, tgsOf, Ok_for, sz]
  refine (Dr (n + 3) _ l (k + 1) h.app (by omega) (by omega)).mono fun e S1 ⟨r, e1, r0, r1, mv⟩ => ?_
  subst e1
  obtain ⟨S0, rfl, mv0⟩ := Mv.app h mv
  have sr : srcRng [.int r] = some (rangeD 0 r.toNat) := by
    have := srcRng_nat (m := r.toNat) (by omega)
    rwa [Int.toNat_of_nonneg r0] at this
  simp [sr]
  refine Ok_for_inv (fun i ρ S1 => ∃ ps o5 o6 o7 o8 o9 o10 o11 o12 S2, ρ = [some (.ref l), some (.int m), some (.int k), some (.int way), some (.ref S.length), o5, o6, o7, o8, o9, o10, o11, o12] ∧ S1 = S2 ++ [.lst (ps.map pD)] ∧ Mv S l S2 ∧ Drawn m i ps) ⟨[], none, none, none, none, none, none, none, none, S0, rfl, rfl, mv0, by simp, by simp⟩ (fun _ _ _ _ _ => trivial) ?_ ?_
  · rintro i x ex ρ S1 ⟨ps, o5, o6, o7, o8, o9, o10, o11, o12, S2, rfl, rfl, mv2, dr⟩
    have hi : i < r.toNat := by
      have := (List.getElem?_eq_some_iff.mp ex).1
      rwa [rangeD_len] at this
    have hpl : ps.length ≤ 1000 := by have := dr.len; omega
    simp
    refine (Dr (n + 3) _ l 6 (mv2.pool h).app (by omega) (by omega)).mono fun e S3 ⟨q, e1, q0, q1, mv3⟩ => ?_
    subst e1
    obtain ⟨S4, rfl, mv4⟩ := Mv.app (mv2.pool h) mv3
    have mv5 := mv2.trans mv4
    have cell : ∀ {S5 : Store}, Mv S l S5 → (S5 ++ [Cell.lst (ps.map pD)])[S.length]? = some (.lst (ps.map pD)) := fun {S5} mv => by rw [← mv.len]; simp
    have fin : ∀ {p : List Int} {S5 : Store}, Mv S l S5 → p.length = m → Bd p → Ok (mtD .append false (.ref S.length) [pD p] (S5 ++ [.lst (ps.map pD)])) fun x S1 => ∃ x x_1, S1 = x_1 ++ [Cell.lst (List.map pD x)] ∧ Mv S l x_1 ∧ Drawn m (i + 1) x := fun {p S5} mv hl hb => by
      have z : ps.length < 16777216 := by omega
      simp [mtD, appendD, lstAt, cell mv, sz, z]
      refine ⟨ps ++ [p], S5, ?_, mv, by have := dr.len; simp; omega, fun z mz => ?_⟩
      · rw [← mv.len]; simp
      · rcases List.mem_append.mp mz with mz | mz
        · exact dr.row z mz
        · rw [List.mem_singleton.mp mz]; exact ⟨hl, hb⟩
    have mt : ∀ {S5 : Store}, Mv S l S5 → mtTy .append (.ref S.length) (S5 ++ [.lst (ps.map pD)]) = true := fun {S5} mv => by
      simp [mtTy, lstAt, cell mv]
    have ln : ∀ {S5 : Store}, Mv S l S5 → biD .len false [.ref S.length] (S5 ++ [.lst (ps.map pD)]) = .ok (.int ps.length) (S5 ++ [.lst (ps.map pD)]) := fun {S5} mv => by
      simp [biD, lenD, asQ, cell mv]
    have eq0 : ∀ {S5 : Store}, Mv S l S5 → eqD (S5 ++ [.lst (ps.map pD)]) (.ref S.length) (.lst []) = some (decide (ps = [])) := fun {S5} mv => eqD_refpD (cell mv)
    have ne : S.length ≠ l := by have := h.lt; omega
    have pick : ∀ {S5 : Store}, Mv S l S5 → ps ≠ [] → Ok (callF T G W (n + 4) "_law_pick" [.ref l, .ref S.length] (S5 ++ [.lst (ps.map pD)])) fun e S6 => ∃ p S7, e = pD p ∧ p ∈ ps ∧ S6 = S7 ++ [.lst (ps.map pD)] ∧ Mv S l S7 := fun {S5} mv hne =>
      (ok_pick Dr L (n := n + 2) (mv.pool h).app (.ref _ _ (cell mv) ne) (by simpa using hne) (by rw [List.length_map]; omega)).mono fun e S6 ⟨me, mv6⟩ => by
        obtain ⟨S7, rfl, mv7⟩ := Mv.app (mv.pool h) mv6
        obtain ⟨p, mp, rfl⟩ := List.mem_map.mp me
        exact ⟨p, S7, rfl, mp, rfl, mv.trans mv7⟩
    have row : Ok (callF T G W (n + 4) "_law_row" [.ref l, .int m, .int way] (S4 ++ [.lst (ps.map pD)])) fun d S1 => Ok (mtD .append false (.ref S.length) [d] S1) fun x S1 => ∃ x x_1, S1 = x_1 ++ [Cell.lst (List.map pD x)] ∧ Mv S l x_1 ∧ Drawn m (i + 1) x :=
      (ok_row Dr L N (n := n) (mv5.pool h).app (by omega)).mono fun e S6 ⟨p, ep, hl, hb, mv6⟩ => by
        subst ep
        obtain ⟨S7, rfl, mv7⟩ := Mv.app (mv5.pool h) mv6
        exact fin (mv5.trans mv7) hl hb
    by_cases c0 : q = 0
    · subst c0
      by_cases c1 : ps = []
      · have e1 : eqD (S4 ++ [.lst (ps.map pD)]) (.ref S.length) (.lst []) = some true := by rw [eq0 mv5, decide_eq_true c1]
        simp [e1, mt mv5]
        exact row
      · have e1 : eqD (S4 ++ [.lst (ps.map pD)]) (.ref S.length) (.lst []) = some false := by rw [eq0 mv5, decide_eq_false c1]
        simp [e1, mt mv5]
        refine (pick mv5 c1).mono fun e S6 ⟨p, S7, ep, mp, e6, mv7⟩ => ?_
        subst ep e6
        exact fin mv7 (dr.row p mp).1 (dr.row p mp).2
    · by_cases c1 : q = 1
      · subst c1
        simp [mt mv5]
        rw [Ok_map1 (xs := rangeD 0 m) (fun _ => .int 0) (by simp [srcRng_nat (m := m) (by omega)]) (by simp) fun x k => by simp]
        have e2 : (rangeD 0 m).map (fun _ => D.int 0) = (List.replicate m 0).map .int := by
          rw [List.map_replicate]
          refine List.eq_replicate_iff.mpr ⟨by simp [rangeD], fun b mb => ?_⟩
          obtain ⟨_, _, rfl⟩ := List.mem_map.mp mb
          rfl
        rw [rangeD_len, e2]
        have zm : m ≤ 16777216 := by omega
        simp only [sz, zm, true_and, if_neg Bool.false_ne_true, bi_tuple, Ok_ok]
        exact fin mv5 (by simp) fun x mx => by rw [(List.mem_replicate.mp mx).2]; decide
      · by_cases c2 : q = 2 ∧ 1 < ps.length
        · obtain ⟨rfl, c2⟩ := c2
          have c3 : (1 : Int) < ps.length := by omega
          have c4 : ps ≠ [] := fun e => by rw [e] at c2; simp at c2
          simp [ln mv5, c3]
          refine (pick mv5 c4).mono fun e S6 ⟨p, S7, ep, mp, e6, mv7⟩ => ?_
          subst ep e6
          refine (pick mv7 c4).mono fun e S6 ⟨p', S8, ep, mp', e6, mv8⟩ => ?_
          subst ep e6
          obtain ⟨l1, b1⟩ := dr.row p mp
          obtain ⟨l2, b2⟩ := dr.row p' mp'
          simp [sz, Tgs.len]
          rw [Ok_map1 (xs := rangeD 0 m) (fun x => .int (2 * p.getD (intOf x).toNat 0 - p'.getD (intOf x).toNat 0)) (by simp [srcRng_nat (m := m) (by omega)]) (by simp) fun x mx => by
            obtain ⟨j, mj, rfl⟩ := List.mem_map.mp mx
            have hj := List.mem_range.mp mj
            have a1 := atI_pD (p := p) (k := j) (by omega)
            have a2 := atI_pD (p := p') (k := j) (by omega)
            have mo : ∀ z, mulOk 2 z = true := fun z => mulOk_l (by decide)
            simp [wipeE, pD, a1, a2, mo, intOf]]
          have e2 : (rangeD 0 m).map (fun x => D.int (2 * p.getD (intOf x).toNat 0 - p'.getD (intOf x).toNat 0)) = (comb m p p').map .int := by
            simp [rangeD, comb, intOf]
          rw [rangeD_len, e2]
          have zm : m ≤ 16777216 := by omega
          simp only [sz, zm, true_and, if_neg Bool.false_ne_true, bi_tuple, Ok_ok, mt mv8]
          rw [Ok_map1 (xs := (comb m p p').map .int) (fun x => .int (if intOf x < 0 then -intOf x else intOf x)) (by simp) (by simp) fun x mx => by
            obtain ⟨j, mj, rfl⟩ := List.mem_map.mp mx
            by_cases hj : j < 0 <;> simp [wipeE, biD, absD, intOf, hj]]
          have e3 : ((comb m p p').map D.int).map (fun x => D.int (if intOf x < 0 then -intOf x else intOf x)) = ((comb m p p').map fun x => if x < 0 then -x else x).map .int := by
            rw [List.map_map, List.map_map]; rfl
          have cl : (comb m p p').length = m := by simp [comb]
          obtain ⟨j, hj, hk⟩ := maxI_le ((comb m p p').map fun x => if x < 0 then -x else x) (fun e => by
            have := congrArg List.length e
            rw [List.length_map, cl] at this
            simp at this; omega)
          rw [e3]
          have hmx : ∀ S, biD .max false [.lst (((comb m p p').map fun x => if x < 0 then -x else x).map .int)] S = .ok (.int j) S := fun S => by
            simp only [biD, maxD, intsD, asL, Option.bind_some, intsOf_map, hj, intR]
          simp only [sz, List.length_map, cl, zm, true_and, if_neg Bool.false_ne_true, hmx, Ok_ok]
          by_cases c5 : j < 10000
          · simp [c5]
            exact fin mv8 cl fun x mx => by
              have := hk _ (List.mem_map.mpr ⟨x, mx, rfl⟩)
              split at this <;> omega
          · simp [c5]
            exact fin mv8 l1 b1
        · by_cases c3 : q = 2
          · have c4 : ¬ (1 : Int) < ps.length := fun e => c2 ⟨c3, by omega⟩
            subst c3
            simp [ln mv5, c4, mt mv5]
            exact row
          · simp [c0, c1, c3, mt mv5]
            exact row
  · rintro ρ S1 ⟨ps, o5, o6, o7, o8, o9, o10, o11, o12, S2, rfl, rfl, mv2, dr⟩
    rw [rangeD_len] at dr
    have cell : (S2 ++ [Cell.lst (ps.map pD)])[S.length]? = some (.lst (ps.map pD)) := by rw [← mv2.len]; simp
    have hpl : ps.length ≤ k := by have := dr.len; omega
    have g1 : gc S (.tup [.int m, .tup (ps.map pD)]) (S2 ++ [.lst (ps.map pD)]) = .ok (.tup [.int m, .tup (ps.map pD)]) S2 := gc_mvx mv2 (pure_bnd _ _ (flatI_ok 3 _ (flat_stD 0 m ps)).1)
    simp [biD, tupD, asQ, cell, g1, sz]
    exact ⟨ps, rfl, ⟨hpl, dr.row⟩, mv2⟩
end
end Pyx.Tx
end
section
/-! The laws' own reading of texts. -/
namespace Pyx.Tx
open PySem (Str sizeLine)
open TL
section
variable {T : Str → Option Df} {G : Str → Option D} {W n : Nat} {S : Store}
theorem intD_fig {s : Str} {k : Nat} (h : sg s = numL k) (z : s.length ≤ 640) : intD (.str s) = some (k : Int) := by
  have e : numC (k : Int) = numL k := by
    unfold numC
    rw [if_neg (by omega), Int.natAbs_natCast]
  have h2 : sg s = numC (k : Int) := by rw [h, e]
  have := sg_int (s := s) (by rw [h2]; exact numB_numC _) z
  rw [h2, numV_numC] at this
  exact this
theorem ok_l_figures (F : LibF T G) {i : Int} (hi : i.natAbs < 10 ^ 60) : callF T G W (n + 1) "_law_figures" [.str (numS i)] S = .ok (.int i) S := by
  apply eq_of_ok
  rw [Ok_callF F.t_l_figures rfl]
  have hl : (numS i).length ≤ 61 := num_len hi
  have hs : ∀ (s : Str) l h (S : Store), slD false (.str s) l h S = .ok (.str (L2.cutS s l h)) S := fun _ _ _ _ => rfl
  -- what is told of the figures, for any plain text of them
  have key : ∀ (pl : Str), sg pl = numL i.natAbs → ∀ {S : Store} {Q : D → Store → Prop}, Ok (evE (callF T G W n) G (.comp false [2] (.var 2) (.var 2) (.val (.var 1)) (.cons (.cmp .notin (.var 2) (.con (.str (Str.ofString "0123456789")))) .nil)) [some (.str (numS i)), some (.str pl), none] S) Q ↔ Q (.lst []) S := fun pl hp {S Q} => by
    rw [Ok_filter1 (xs := (sg pl).map fun c => .str ⟨#[c]⟩) (fun x => !isFig (sgn x)) (by simp [srcVal_str]) (by simp) fun x k => by
      obtain ⟨c, _, rfl⟩ := List.mem_map.mp k
      have e : sgn (.str ⟨#[c]⟩) = c := rfl
      have e2 : decide (c ∈ sg (Str.ofString "0123456789")) = isFig c := fig_mem c
      simp [wipeE, inD_sign, e2, e]]
    have e3 : ((sg pl).map fun c => D.str ⟨#[c]⟩).filter (fun x => !isFig (sgn x)) = [] := by
      rw [List.filter_eq_nil_iff]
      intro x mx
      obtain ⟨c, mc, rfl⟩ := List.mem_map.mp mx
      rw [hp] at mc
      have := numL_digits _ c mc
      have e : sgn (.str ⟨#[c]⟩) = c := rfl
      simp [e, isFig]; omega
    rw [e3]
    simp [sz]
  have eq0 : ∀ S, eqD S (.lst []) (.lst []) = some true := fun S => by
    rw [eqD_lst (k := 0) (by simp [flatIs]) (by simp [flatIs]) (by decide)]
    simp [D.eqs]
  have len1 : ∀ pl : Str, sg pl = numL i.natAbs → ∀ S, lenD S (.str pl) = .ok (.int (numL i.natAbs).length) S := fun pl h S => by
    simp [lenD, sg_len, h]
  have nne := numL_ne i.natAbs
  have nf := figB_numL i.natAbs
  by_cases c : i < 0
  · have e1 : sg (numS i) = 45 :: numL i.natAbs := by
      rw [sg_numS]; unfold numC; rw [if_pos c]
    have e2 : sg (L2.cutS (numS i) none (some 1)) = [45] := by
      rw [sg_cutS, e1]; exact cut_to _ 1
    have e3 : sg (L2.cutS (numS i) (some 1) none) = numL i.natAbs := by
      rw [sg_cutS, e1]; exact cut_from _ 1
    have z3 : (L2.cutS (numS i) (some 1) none).length ≤ 640 := by
      have := L2.cutS_length (numS i) (some 1) none
      omega
    have n0 : i.natAbs ≠ 0 := by omega
    have hd := numL_head i.natAbs n0
    have id1 := intD_fig e3 z3
    have e4 : -((i.natAbs : Nat) : Int) = i := by omega
    have kk := @key _ e3
    have nm0 : ¬ (numL i.natAbs = [48]) := fun q => hd (by rw [q]; rfl)
    cases en : numL i.natAbs with
    | nil => exact absurd en nne
    | cons a r =>
      rw [en] at e1 e3 hd nm0
      have ha : ¬ a = 48 := by simpa using hd
      have l1 := len1 _ (by rw [e3, en])
      rw [en] at l1
      by_cases r0 : r = []
      · subst r0
        simp at nm0
        simp [b_l_figures, esOf, ssOf, hs, asI, sg_beq, e2, sg_m, e3, sg_e, kk, eq0, biD, l1, e1, sg_m0, ha, Ok_ix_str, atI_0, sg_1, id1, e4, nm0]
      · have r1 : ¬ ((r.length : Int) + 1 ≤ 1) := by
          have := List.length_pos_iff.mpr r0
          omega
        have r2 : (0 : Int) < r.length := by
          have := List.length_pos_iff.mpr r0
          omega
        simp [b_l_figures, esOf, ssOf, hs, asI, sg_beq, e2, sg_m, e3, sg_e, kk, eq0, biD, l1, e1, sg_m0, ha, Ok_ix_str, atI_0, sg_1, id1, e4, r0, r2]
        exact .inr ⟨by omega, by rw [sg_0]; simp [ha]⟩
  · have e1 : sg (numS i) = numL i.natAbs := by
      rw [sg_numS]; unfold numC; rw [if_neg c]
    have id1 := intD_fig e1 (by omega)
    have e4 : ((i.natAbs : Nat) : Int) = i := by omega
    rw [e4] at id1
    have kk := @key _ e1
    cases en : numL i.natAbs with
    | nil => exact absurd en nne
    | cons a r =>
      have dg := numL_digits i.natAbs a (by rw [en]; simp)
      have ha : ¬ a = 45 := by omega
      have e2 : sg (L2.cutS (numS i) none (some 1)) = [a] := by
        rw [sg_cutS, e1, en]; exact cut_to _ 1
      have l1 := len1 _ e1
      rw [en] at e1 l1
      by_cases r0 : r = []
      · subst r0
        simp [b_l_figures, esOf, ssOf, hs, asI, sg_beq, e2, sg_m, sg_e, kk, eq0, biD, l1, e1, sg_m0, ha, Ok_ix_str, atI_0, sg_1, id1]
      · have hd : ¬ a = 48 := fun q => by
          by_cases n0 : i.natAbs = 0
          · rw [n0, numL_lt (by decide)] at en
            simp at en
            exact r0 (by rw [en.2])
          · have := numL_head _ n0
            rw [en, q] at this
            exact this rfl
        have r2 : (0 : Int) < r.length := by
          have := List.length_pos_iff.mpr r0
          omega
        simp [b_l_figures, esOf, ssOf, hs, asI, sg_beq, e2, sg_m, sg_e, kk, eq0, biD, l1, e1, sg_m0, ha, Ok_ix_str, atI_0, sg_1, id1, r0, r2]
        exact .inr ⟨by omega, by rw [sg_0]; simp [hd]⟩
theorem ok_l_row_text (F : LibF T G) {p : List Int} (h : RowOk p) : callF T G W (n + 1) "_law_row_text" [.tup (p.map .int)] S = .ok (.str (rowT p)) S := by
  apply eq_of_ok
  rw [Ok_callF F.t_l_row_text rfl]
  have zl : (p.map D.int).length ≤ sizeLine := by rw [List.length_map, sz]; have := h.len; omega
  have key : ∀ {S : Store} {Q : D → Store → Prop}, Ok (evE (callF T G W n) G (.comp false [1] (.bi .str false (.cons (.var 1) .nil)) (.var 1) (.val (.var 0)) .nil) [some (.tup (p.map .int)), none] S) Q ↔ Q (.lst ((p.map numS).map .str)) S := fun {S Q} => by
    rw [Ok_map1 (xs := p.map .int) (fun x => .str (numS (intOf x))) (by simp) (by simp) fun x k => by
      obtain ⟨i, mi, rfl⟩ := List.mem_map.mp k
      simp [wipeE, bi_str (h.num i mi), intOf]]
    have e : List.map (fun x => D.str (numS (intOf x))) (p.map .int) = (p.map numS).map .str := by
      rw [List.map_map, List.map_map]; rfl
    rw [e]
    simp only [zl, true_and]
    rfl
  have hj : ∀ {S : Store} {Q : D → Store → Prop}, Ok (mtD .join false (.str (Str.ofString " ")) [.lst ((p.map numS).map .str)] S) Q ↔ Q (.str (rowT p)) S := fun {S Q} => Ok_join (k := 61) (fun x m => by
    obtain ⟨i, mi, rfl⟩ := List.mem_map.mp m
    exact num_len (h.num i mi)) (by
    rw [len_b, List.length_map, sz]
    have := h.len
    have := Nat.mul_le_mul_right 62 this
    omega)
  simp [-List.map_map, b_l_row_text, esOf, ssOf, mtTy, key, hj]
theorem headT_eq (m : Int) : headT m = Str.ofString "goods " ++ numS m := by
  have : Str.ofString "goods" ++ Str.ofString " " = Str.ofString "goods " := sg_inj (by rw [sg_app, sg_goods, sg_b, sg_goodsb]; rfl)
  rw [headT, this]
theorem lineT_eq (p : List Int) : lineT p = Str.ofString "pack " ++ rowT p := by
  have : Str.ofString "pack" ++ Str.ofString " " = Str.ofString "pack " := sg_inj (by rw [sg_app, sg_pack, sg_b, sg_packb]; rfl)
  rw [lineT, this]
theorem len_goodsb : (Str.ofString "goods ").length = 6 := by decide +kernel
theorem len_packb : (Str.ofString "pack ").length = 5 := by decide +kernel
def rowOf : D → List Int
  | .tup ds => ds.map intOf
  | _ => []
theorem rowOf_pD (p : List Int) : rowOf (pD p) = p := by
  show (p.map D.int).map intOf = p
  rw [List.map_map]
  exact List.map_id _
theorem ok_l_list_rows (F : LibF T G) {m : Int} {ps : List (List Int)} (h : ListOk m ps) : callF T G W (n + 2) "_law_list_rows" [stD m ps] S = .ok (.lst ((linesT m ps).map .str)) S := by
  apply eq_of_ok
  rw [Ok_callF F.t_l_list_rows rfl]
  have hn : (numS m).length ≤ 61 := num_len h.num
  have z1 : 6 + (numS m).length ≤ 16777216 := by omega
  have zl : (ps.map pD).length ≤ sizeLine := by rw [List.length_map, sz]; have := h.len; omega
  have key : ∀ {S : Store} {Q : D → Store → Prop}, Ok (evE (callF T G W (n + 1)) G (.comp false [1] (.bin .add (.con (.str (Str.ofString "pack "))) (.call "_law_row_text" (.cons (.var 1) .nil))) (.var 1) (.val (.ix (.var 0) (.con (.int 1)))) .nil) [some (stD m ps), none] S) Q ↔ Q (.lst ((ps.map lineT).map .str)) S := fun {S Q} => by
    rw [Ok_map1 (xs := ps.map pD) (fun x => .str (lineT (rowOf x))) (by simp [stD, atI_1]) (by simp) fun x k => by
      obtain ⟨p, mp, rfl⟩ := List.mem_map.mp k
      have r := h.row p mp
      have rl := rowT_len r
      have z2 : 5 + (rowT p).length ≤ 16777216 := by omega
      rw [rowOf_pD]
      unfold pD
      simp [wipeE, ok_l_row_text F r, len_packb, sz, z2, lineT_eq]]
    have e : (ps.map pD).map (fun x => D.str (lineT (rowOf x))) = (ps.map lineT).map .str := by
      rw [List.map_map, List.map_map]
      apply List.map_congr_left
      intro p _
      simp only [Function.comp_apply, rowOf_pD]
    rw [e]
    simp only [zl, true_and]
    rfl
  have z3 : 1 + ps.length ≤ 16777216 := by have := h.len; omega
  have hst : [some (stD m ps), none] = [some (stD m ps), (none : Option D)] := rfl
  unfold stD at key ⊢
  simp [-List.map_map, b_l_list_rows, esOf, ssOf, atI_0, bi_str h.num, len_goodsb, sz, z1, key, z3, linesT, headT_eq]
/-! ### told texts cut again -/
theorem rowT_split {p : List Int} (h : p ≠ []) : PySem.Txt.split (rowT p) (Str.ofString " ") = p.map numS :=
  split_join (s := 32) (S := []) sg_b plain_b (by simpa using h) fun x m => by
    obtain ⟨i, _, rfl⟩ := List.mem_map.mp m
    show 32 ∉ sg (numS i)
    rw [sg_numS]
    exact numC_free (by omega)
theorem lineT_split {p : List Int} (h : p ≠ []) : PySem.Txt.split (lineT p) (Str.ofString " ") = Str.ofString "pack" :: p.map numS := by
  have e : lineT p = PySem.Txt.join (Str.ofString " ") (Str.ofString "pack" :: p.map numS) := by
    apply sg_inj
    rw [sg_join, lineT, sg_app, sg_app, rowT, sg_join, List.map_cons]
    cases p with
    | nil => exact absurd rfl h
    | cons i p => rw [List.map_cons, List.map_cons, joinL, List.append_assoc]
  rw [e]
  refine split_join (s := 32) (S := []) sg_b plain_b (by simp) fun x m => ?_
  rcases List.mem_cons.mp m with rfl | m
  · show 32 ∉ sg (Str.ofString "pack")
    rw [sg_pack]; decide
  · obtain ⟨i, _, rfl⟩ := List.mem_map.mp m
    show 32 ∉ sg (numS i)
    rw [sg_numS]
    exact numC_free (by omega)
theorem headT_split (m : Int) : PySem.Txt.split (headT m) (Str.ofString " ") = [Str.ofString "goods", numS m] := by
  have e : headT m = PySem.Txt.join (Str.ofString " ") [Str.ofString "goods", numS m] := by
    apply sg_inj
    rw [sg_join, headT, sg_app, sg_app, List.map_cons, List.map_cons, List.map_nil, joinL, joinL, List.append_assoc]
  rw [e]
  refine split_join (s := 32) (S := []) sg_b plain_b (by simp) fun x k => ?_
  rcases List.mem_cons.mp k with rfl | k
  · show 32 ∉ sg (Str.ofString "goods")
    rw [sg_goods]; decide
  · rw [List.mem_singleton.mp k]
    show 32 ∉ sg (numS m)
    rw [sg_numS]
    exact numC_free (by omega)
theorem joinL_free {s c : Nat} : ∀ (l : List (List Nat)), s ≠ c → (∀ x ∈ l, s ∉ x) → s ∉ joinL [c] l
  | [], _, _ => by simp [joinL]
  | [x], _, h => by rw [joinL]; exact h x (by simp)
  | x :: y :: l, hc, h => by
    rw [joinL]
    intro m
    rcases List.mem_append.mp m with m | m
    · exact h x (by simp) m
    · rcases List.mem_append.mp m with m | m
      · exact hc (List.mem_singleton.mp m)
      · exact joinL_free (y :: l) hc (fun z k => h z (List.mem_cons_of_mem _ k)) m
theorem rowT_free (p : List Int) : 10 ∉ sg (rowT p) := by
  rw [rowT, sg_join, sg_b]
  refine joinL_free _ (by decide) fun x m => ?_
  obtain ⟨s, ms, rfl⟩ := List.mem_map.mp m
  obtain ⟨i, _, rfl⟩ := List.mem_map.mp ms
  rw [sg_numS]
  exact numC_free (by omega)
theorem lines_free (m : Int) (ps : List (List Int)) : ∀ x ∈ linesT m ps, 10 ∉ sg x := fun x k => by
  rcases List.mem_cons.mp k with rfl | k
  · rw [headT_eq, sg_app, sg_goodsb, sg_numS]
    intro q
    rcases List.mem_append.mp q with q | q
    · revert q; decide
    · exact numC_free (by omega) q
  · obtain ⟨p, _, rfl⟩ := List.mem_map.mp k
    rw [lineT_eq, sg_app, sg_packb]
    intro q
    rcases List.mem_append.mp q with q | q
    · revert q; decide
    · exact rowT_free p q
def ended (l : List (List Nat)) : List Nat := l.flatMap fun x => x ++ [10]
theorem joinL_ends : ∀ (l : List (List Nat)), joinL [] (l.map (· ++ [10])) = ended l
  | [] => rfl
  | [x] => by simp [joinL, ended]
  | x :: y :: l => by
    have := joinL_ends (y :: l)
    rw [List.map_cons, List.map_cons, joinL]
    rw [List.map_cons] at this
    rw [this]
    simp [ended]
theorem joinL_last : ∀ (l : List (List Nat)), joinL [10] (l ++ [[]]) = ended l
  | [] => rfl
  | [x] => by simp [joinL, ended]
  | x :: y :: l => by
    have := joinL_last (y :: l)
    rw [List.cons_append, List.cons_append, joinL]
    rw [List.cons_append] at this
    rw [this]
    simp [ended]
theorem joinL_but : ∀ (l : List (List Nat)), l ≠ [] → joinL [10] l ++ [10] = ended l
  | [], h => absurd rfl h
  | [x], _ => by simp [joinL, ended]
  | x :: y :: l, _ => by
    have := joinL_but (y :: l) (by simp)
    rw [joinL, List.append_assoc, List.append_assoc, this]
    simp [ended]
theorem sg_listT (m : Int) (ps : List (List Int)) : sg (listT m ps) = ended ((linesT m ps).map sg) := by
  rw [listT, sg_join, sg_e, List.map_map, ← joinL_ends, List.map_map]
  congr 1
  apply List.map_congr_left
  intro x _
  simp only [Function.comp_apply, sg_app, sg_n]
theorem listT_rows (m : Int) (ps : List (List Int)) : PySem.Txt.split (listT m ps) (Str.ofString "\n") = linesT m ps ++ [Str.ofString ""] := by
  have e : listT m ps = PySem.Txt.join (Str.ofString "\n") (linesT m ps ++ [Str.ofString ""]) := by
    apply sg_inj
    rw [sg_listT, sg_join, sg_n, List.map_append, List.map_singleton, sg_e, joinL_last]
  rw [e]
  refine split_join (s := 10) (S := []) sg_n plain_n (by simp [linesT]) fun x k => ?_
  rcases List.mem_append.mp k with k | k
  · exact lines_free m ps x k
  · rw [List.mem_singleton.mp k]
    show 10 ∉ sg (Str.ofString "")
    rw [sg_e]; simp
theorem listT_cut (m : Int) (ps : List (List Int)) : PySem.Txt.split (L2.cutS (listT m ps) none (some (-1))) (Str.ofString "\n") = linesT m ps := by
  have e : L2.cutS (listT m ps) none (some (-1)) = PySem.Txt.join (Str.ofString "\n") (linesT m ps) := by
    apply sg_inj
    rw [sg_cutS, cut_last, sg_listT, sg_join, sg_n, ← joinL_but _ (by simp [linesT]), List.dropLast_concat]
  rw [e]
  exact split_join (s := 10) (S := []) sg_n plain_n (by simp [linesT]) fun x k => lines_free m ps x k
theorem listT_last (m : Int) (ps : List (List Int)) : lastN (sg (listT m ps)) = true := by
  rw [sg_listT, ← joinL_but _ (by simp [linesT])]
  simp [lastN]
theorem readN_row (p : List Int) : readN (p.map numS) = some p := by
  unfold readN
  have h : (p.map numS).all (fun w => numB (sg w)) = true := by
    rw [List.all_eq_true]
    intro w m
    obtain ⟨i, _, rfl⟩ := List.mem_map.mp m
    rw [sg_numS]; exact numB_numC i
  rw [if_pos h, List.map_map]
  congr 1
  conv => rhs; rw [← List.map_id p]
  apply List.map_congr_left
  intro i _
  simp only [Function.comp_apply, sg_numS, numV_numC, id]
/-- a list that is one -/
structure Good (m : Int) (ps : List (List Int)) : Prop where
  lo : 1 ≤ m
  hi : m ≤ 6
  len : ps.length ≤ 8
  row : ∀ p ∈ ps, (p.length : Int) = m ∧ Bd p
theorem Good.ne {m : Int} {ps : List (List Int)} (h : Good m ps) : ∀ p ∈ ps, p ≠ [] := fun p mp e => by
  have := (h.row p mp).1
  have := h.lo
  subst e
  simp at *
  omega
theorem Good.ok {m : Int} {ps : List (List Int)} (h : Good m ps) : ListOk m ps := by
  have h1 := h.lo
  have h2 := h.hi
  have p60 : (10 : Nat) ^ 60 = 1000000000000000000000000000000000000000000000000000000000000 := by decide +kernel
  refine ⟨by rw [p60]; omega, by have := h.len; omega, fun p mp => ?_⟩
  obtain ⟨l, b⟩ := h.row p mp
  refine ⟨by omega, fun x mx => ?_⟩
  have := b x mx
  rw [p60]; omega
theorem Good.isL {m : Int} {ps : List (List Int)} (h : Good m ps) : isLs (stD m ps) = true := by
  have h1 := h.lo
  have h2 := h.hi
  have h3 := h.len
  have h4 : (ps.map pD).all (isPk m) = true := by
    rw [List.all_eq_true]
    intro x mx
    obtain ⟨p, mp, rfl⟩ := List.mem_map.mp mx
    obtain ⟨l, b⟩ := h.row p mp
    simp only [pD, isPk, tupAll, List.length_map, Bool.and_eq_true, beq_iff_eq, List.all_eq_true]
    refine ⟨l, fun y my => ?_⟩
    obtain ⟨i, mi, rfl⟩ := List.mem_map.mp my
    have := b i mi
    simp [arB, this]
  simp [stD, isLs, h1, h2, h3, h4]
theorem readLs_lines {m : Int} {ps : List (List Int)} (h : ∀ p ∈ ps, p ≠ []) : readLs (linesT m ps) = some (m, ps) := by
  have e0 : readLine (headT m) (Str.ofString "goods") = some [m] := by
    unfold readLine
    rw [headT_split]
    exact readN_row [m]
  have e1 : ∀ ps : List (List Int), (∀ p ∈ ps, p ≠ []) → (ps.map lineT).mapM (fun l => readLine l (Str.ofString "pack")) = some ps := by
    intro ps
    induction ps with
    | nil => intro _; rfl
    | cons p ps ih =>
      intro h
      have e2 : readLine (lineT p) (Str.ofString "pack") = some p := by
        unfold readLine
        rw [lineT_split (h p (by simp))]
        simp only [if_true]
        exact readN_row p
      rw [List.map_cons, List.mapM_cons, e2, ih fun q mq => h q (List.mem_cons_of_mem _ mq)]
      rfl
  unfold readLs linesT
  simp only [e0, e1 ps h, Option.map_some]
/-- THE READ-BACK -/
theorem readW_listT {m : Int} {ps : List (List Int)} (h : Good m ps) : readW (listT m ps) = some (m, ps) := by
  unfold readW
  rw [if_pos (listT_last m ps), listT_cut, readLs_lines h.ne]
  simp [Option.filter, inB, h.isL]
end
end Pyx.Tx
end
section
/-! The laws' own reading of a told list. -/
namespace Pyx.Tx
open PySem (Str sizeLine)
open TL
section
variable {T : Str → Option Df} {G : Str → Option D} {W n : Nat} {S : Store}
theorem inD_none (p : List Int) : inD S .non (.lst (p.map .int)) = some false := by
  have h1 : (p.map D.int).all D.flat = true := by
    rw [List.all_eq_true]
    intro x m
    obtain ⟨i, _, rfl⟩ := List.mem_map.mp m
    rfl
  have h2 : ((p.map D.int).any fun y => y.eq .non) = false := by
    rw [List.any_eq_false]
    intro x m
    obtain ⟨i, _, rfl⟩ := List.mem_map.mp m
    simp [D.eq]
  simp [inD, asQ, D.flat, h1, h2]
theorem ok_l_read_row (F : LibF T G) {p : List Int} (h : RowOk p) (hp : p ≠ []) : callF T G W (n + 2) "_law_read_row" [.str (rowT p), .int p.length] S = .ok (pD p) S := by
  apply eq_of_ok
  rw [Ok_callF F.t_l_read_row rfl]
  have zl : (p.map numS).length ≤ 1000000 := by rw [List.length_map]; have := h.len; omega
  have rl := rowT_len h
  have sp : ∀ {S : Store} {Q : D → Store → Prop}, Ok (mtD .split false (.str (rowT p)) [.str (Str.ofString " ")] S) Q ↔ Q (.lst ((p.map numS).map .str)) S := fun {S Q} => by
    rw [Ok_split sg_b plain_b (by omega), rowT_split hp]
  have key : ∀ {S : Store} {Q : D → Store → Prop}, Ok (evE (callF T G W (n + 1)) G (.comp false [3] (.call "_law_figures" (.cons (.var 3) .nil)) (.var 3) (.val (.mt .split false (.var 0) (.cons (.con (.str (Str.ofString " "))) .nil))) .nil) [some (.str (rowT p)), some (.int p.length), none, none] S) Q ↔ Q (.lst (p.map .int)) S := fun {S Q} => by
    rw [Ok_map1 (xs := (p.map numS).map .str) (fun x => .int (numV (sg (strOf x)))) (by simp [mtTy, sp]) (by simp) fun x k => by
      obtain ⟨s, ms, rfl⟩ := List.mem_map.mp k
      obtain ⟨i, mi, rfl⟩ := List.mem_map.mp ms
      simp [wipeE, ok_l_figures F (h.num i mi), strOf, sg_numS, numV_numC]]
    have e : ((p.map numS).map D.str).map (fun x => D.int (numV (sg (strOf x)))) = p.map .int := by
      rw [List.map_map, List.map_map]
      apply List.map_congr_left
      intro i _
      simp only [Function.comp_apply, strOf, sg_numS, numV_numC]
    have zz : ((p.map numS).map D.str).length ≤ sizeLine := by rw [List.length_map, sz]; omega
    rw [e]
    simp only [zz, true_and]
    rfl
  simp [b_l_read_row, esOf, ssOf, key, inD_none, pD]
theorem atI_last {α : Type} (xs : List α) (a : α) : L2.atI (xs ++ [a]) (-1) = some a := by
  unfold L2.atI L2.ixN
  rw [if_neg (by decide), if_pos (by simp; omega)]
  have : ((-1 : Int) + ((xs ++ [a]).length : Int)).toNat = xs.length := by simp; omega
  simp only [Option.bind_some, this]
  simp
theorem eq_nil (S : Store) : eqD S (.lst []) (.lst []) = some true := by
  rw [eqD_lst (k := 0) (by simp [flatIs]) (by simp [flatIs]) (by decide)]
  simp [D.eqs]
theorem isD_tup (ds : List D) : isD (.tup ds) .non = some false := rfl
theorem ok_l_read_list (F : LibF T G) {m : Int} {ps : List (List Int)} (h : Good m ps) : callF T G W (n + 3) "_law_read_list" [.str (listT m ps)] S = .ok (stD m ps) S := by
  apply eq_of_ok
  rw [Ok_callF F.t_l_read_list rfl]
  have hk := h.ok
  have hlo := h.lo
  have hhi := h.hi
  have hn : (numS m).length ≤ 61 := num_len hk.num
  have lT : (listT m ps).length ≤ 100000 := by
    rw [sg_len, sg_listT]
    have e : ∀ l : List Str, (∀ x ∈ l, x.length ≤ 1000) → (ended (l.map sg)).length ≤ l.length * 1001 := by
      intro l
      induction l with
      | nil => intro _; simp [ended]
      | cons x l ih =>
        intro hx
        have h1 := hx x (by simp)
        have h2 := ih fun y my => hx y (List.mem_cons_of_mem _ my)
        rw [sg_len] at h1
        simp only [ended, List.map_cons, List.flatMap_cons, List.length_append, List.length_singleton, List.length_cons, List.length_nil] at h2 ⊢
        have : (l.length + 1) * 1001 = l.length * 1001 + 1001 := by omega
        omega
    have := e _ (lines_len hk)
    have l2 : (linesT m ps).length ≤ 9 := by
      rw [linesT, List.length_cons, List.length_map]
      have := h.len
      omega
    omega
  have sp : ∀ {S : Store} {Q : D → Store → Prop}, Ok (mtD .split false (.str (listT m ps)) [.str (Str.ofString "\n")] S) Q ↔ Q (.lst ((linesT m ps ++ [Str.ofString ""]).map .str)) S := fun {S Q} => by
    rw [Ok_split sg_n plain_n (by omega), listT_rows]
  have key1 : ∀ (rows : D) {S : Store} {Q : D → Store → Prop}, Ok (evE (callF T G W (n + 2)) G (.comp false [2] (.bin .add (.con (.str (Str.ofString "goods "))) (.bi .str false (.cons (.var 2) .nil))) (.var 2) (.rng (.cons (.con (.int 1)) (.cons (.con (.int 7)) .nil))) .nil) [some (.str (listT m ps)), some rows, none, none, none, none, none] S) Q ↔ Q (.lst ((rangeD 1 6).map fun x => .str (headT (intOf x)))) S := fun rows {S Q} => by
    have sr : srcRng [.int 1, .int 7] = some (rangeD 1 6) := by
      show (if smallI 1 = true ∧ smallI 7 = true ∧ ((7 : Int) - 1).toNat ≤ sizeLine then some (rangeD 1 ((7 : Int) - 1).toNat) else none) = _
      rw [if_pos ⟨by decide, by decide, by rw [sz]; decide⟩]; rfl
    rw [Ok_map1 (xs := rangeD 1 6) (fun x => .str (headT (intOf x))) (by simp [sr]) (by simp) fun x k => by
      obtain ⟨j, mj, rfl⟩ := List.mem_map.mp k
      have hj := List.mem_range.mp mj
      have p60 : (10 : Nat) ^ 60 = 1000000000000000000000000000000000000000000000000000000000000 := by decide +kernel
      have hb : ((1 : Int) + (j : Int)).natAbs < 10 ^ 60 := by rw [p60]; omega
      have hz : 6 + (numS (1 + (j : Int))).length ≤ 16777216 := by have := num_len hb; omega
      simp [wipeE, bi_str hb, len_goodsb, sz, hz, intOf, headT_eq]]
    have zz : (rangeD 1 6).length ≤ sizeLine := by simp [rangeD, sz]
    simp only [zz, true_and]
    rfl
  have inh : ∀ S, inD S (.str (headT m)) (.lst ((rangeD 1 6).map fun x => .str (headT (intOf x)))) = some true := fun S => by
    have h1 : ((rangeD 1 6).map fun x => D.str (headT (intOf x))).all D.flat = true := by
      rw [List.all_eq_true]
      intro x mx
      obtain ⟨y, _, rfl⟩ := List.mem_map.mp mx
      rfl
    have h2 : (((rangeD 1 6).map fun x => D.str (headT (intOf x))).any fun y => y.eq (.str (headT m))) = true := by
      rw [List.any_eq_true]
      refine ⟨.str (headT m), List.mem_map.mpr ⟨.int m, ?_, rfl⟩, by simp [D.eq]⟩
      refine List.mem_map.mpr ⟨(m - 1).toNat, List.mem_range.mpr (by omega), ?_⟩
      congr 1
      omega
    simp only [inD, asQ, D.flat, h1, h2, Bool.true_and, if_true]
  have int6 : intD (.str (L2.cutS (headT m) (some 6) none)) = some m := by
    have e : sg (L2.cutS (headT m) (some 6) none) = numC m := by
      rw [sg_cutS, headT_eq, sg_app, sg_goodsb, sg_numS]
      exact cut_from _ 6
    have z : (L2.cutS (headT m) (some 6) none).length ≤ 640 := by rw [sg_len, e, ← sg_numS, ← sg_len]; omega
    rw [sg_int (by rw [e]; exact numB_numC m) z, e, numV_numC]
  have hs : ∀ (s : Str) l h (S : Store), slD false (.str s) l h S = .ok (.str (L2.cutS s l h)) S := fun _ _ _ _ => rfl
  have slm : ∀ (S : Store), slD false (.lst (.str (headT m) :: ((ps.map lineT).map .str ++ [.str (Str.ofString "")]))) (some 1) (some (-1)) S = .ok (.lst ((ps.map lineT).map .str)) S := fun S => by
    have zz : ((ps.map lineT).map D.str).length ≤ sizeLine := by
      rw [List.length_map, List.length_map, sz]
      have := h.len
      omega
    simp only [slD, asQ, cut_mid, mkL]
    rw [List.drop_one, List.tail_cons, List.dropLast_concat, if_pos zz]; rfl
  have rows : (linesT m ps ++ [Str.ofString ""]).map D.str = .str (headT m) :: ((ps.map lineT).map .str ++ [.str (Str.ofString "")]) := by simp [linesT]
  rw [rows] at sp
  have c1 : ¬ ((ps.length : Int) + 1 + 1 < 2) := by omega
  have c2 : ¬ ((10 : Int) < (ps.length : Int) + 1 + 1) := by have := h.len; omega
  have la : L2.atI (.str (headT m) :: ((ps.map lineT).map D.str ++ [.str (Str.ofString "")])) (-1) = some (.str (Str.ofString "")) := by
    rw [← List.cons_append]; exact atI_last _ _
  have bint : ∀ S, biD .int false [.str (L2.cutS (headT m) (some 6) none)] S = .ok (.int m) S := fun S => by simp only [biD, int6, intR]
  simp [-List.map_map, b_l_read_list, esOf, ssOf, tgsOf, sz, mtTy, sp, c1, c2, la, atI_0, key1, inh, Ok_for, asI, hs, bint, Tgs.len, slm]
  refine Ok_for_inv (fun i ρ S1 => ∃ r o4 o5 o6, ρ = [some (.str (listT m ps)), some r, some (.int m), some (.ref S.length), o4, o5, o6] ∧ S1 = S ++ [.lst ((ps.take i).map pD)]) ⟨_, none, none, none, rfl, by simp⟩ (fun _ _ _ _ _ => trivial) ?_ ?_
  · rintro i x e ρ S1 ⟨r, o4, o5, o6, rfl, rfl⟩
    rw [List.getElem?_map, List.getElem?_map] at e
    obtain ⟨s, es, rfl⟩ := Option.map_eq_some_iff.mp e
    obtain ⟨p, ep, rfl⟩ := Option.map_eq_some_iff.mp es
    have mp := List.mem_of_getElem? ep
    obtain ⟨pl, pb⟩ := h.row p mp
    have pr := hk.row p mp
    have pn := h.ne p mp
    have e5 : sg (L2.cutS (lineT p) none (some 5)) = sg (Str.ofString "pack ") := by
      rw [sg_cutS, lineT_eq, sg_app, sg_packb]
      exact cut_to _ 5
    have e6 : L2.cutS (lineT p) (some 5) none = rowT p := by
      apply sg_inj
      rw [sg_cutS, lineT_eq, sg_app, sg_packb]
      exact cut_from _ 5
    have rd : ∀ S, callF T G W (n + 2) "_law_read_row" [.str (rowT p), .int m] S = .ok (pD p) S := fun S => by rw [← pl]; exact ok_l_read_row F pr pn
    have key2 : ∀ (a b c d : Option D) {S : Store} {Q : D → Store → Prop}, Ok (evE (callF T G W (n + 2)) G (.comp false [6] (.var 6) (.var 6) (.val (.var 5)) (.cons (.or (.cmp .gt (.var 6) (.con (.int 9999))) (.cmp .lt (.var 6) (.neg (.con (.int 9999))))) .nil)) [a, b, some (.int m), c, d, some (.tup (p.map .int)), o6] S) Q ↔ Q (.lst []) S := fun a b c d {S Q} => by
      rw [Ok_filter1 (xs := p.map .int) (fun _ => false) (by simp) (by simp) fun x k => by
        obtain ⟨j, mj, rfl⟩ := List.mem_map.mp k
        have hj := pb j mj
        have g1 : ¬ (9999 < j) := by omega
        have g2 : ¬ (j < -9999) := by omega
        simp [wipeE, g1, g2]]
      have e9 : (p.map D.int).filter (fun _ => false) = [] := List.filter_eq_nil_iff.mpr (by simp)
      rw [e9]
      simp [sz]
    have z4 : min i ps.length + 1 < 16777216 := by
      have := h.len
      omega
    have et : ps.take (i + 1) = ps.take i ++ [p] := by rw [List.take_succ, ep]; rfl
    have z5 : ((ps.take i).map pD).length < 16777216 := by simp; omega
    simp [-List.map_map, asI, hs, sg_beq, e5, e6, rd, pD, isD_tup, key2, eq_nil, mtTy, lstAt]
    have z6 : min i ps.length < 16777216 := by omega
    have e10 : (ps.take i).map pD ++ [D.tup (p.map .int)] = (ps.take (i + 1)).map pD := by rw [et, List.map_append]; rfl
    simp only [List.map_take] at e10
    simp [-List.map_map, mtD, appendD, lstAt, sz, z6, e10]
  · rintro ρ S1 ⟨r, o4, o5, o6, rfl, rfl⟩
    rw [List.length_map, List.length_map, List.take_length]
    have g1 : gc S (.tup [.int m, .tup (ps.map pD)]) (S ++ [.lst (ps.map pD)]) = .ok (.tup [.int m, .tup (ps.map pD)]) S := gc_app (pure_bnd _ _ (flatI_ok 3 _ (flat_stD 0 m ps)).1)
    simp [-List.map_map, biD, tupD, asQ, g1, sz, stD]
/-! ### the same through and through -/
theorem same_int (L : LibL T G) (i : Int) : callF T G W (n + 1) "_law_same" [.int i, .int i] S = .ok (.bl true) S := by
  apply eq_of_ok
  rw [Ok_callF L.t_l_same rfl]
  simp [b_l_same, esOf, ssOf]
theorem same_tup (L : LibL T G) {ds : List D} (hz : ds.length ≤ 1000000) (h : ∀ d ∈ ds, ∀ S, callF T G W (n + 1) "_law_same" [d, d] S = .ok (.bl true) S) : callF T G W (n + 2) "_law_same" [.tup ds, .tup ds] S = .ok (.bl true) S := by
  apply eq_of_ok
  rw [Ok_callF L.t_l_same rfl]
  have key : ∀ {S : Store} {Q : D → Store → Prop}, Ok (evE (callF T G W (n + 1)) G (.comp false [2] (.var 2) (.var 2) (.rng (.cons (.bi .len false (.cons (.var 0) .nil)) .nil)) (.cons (.not (.call "_law_same" (.cons (.ix (.var 0) (.var 2)) (.cons (.ix (.var 1) (.var 2)) .nil)))) .nil)) [some (.tup ds), some (.tup ds), none] S) Q ↔ Q (.lst []) S := fun {S Q} => by
    rw [Ok_filter1 (xs := rangeD 0 ds.length) (fun _ => false) (by simp [srcRng_nat hz]) (by simp) fun x k => by
      obtain ⟨j, mj, rfl⟩ := List.mem_map.mp k
      have hj := List.mem_range.mp mj
      obtain ⟨d, ed, md⟩ := atI_nat (xs := ds) (i := (j : Int)) (Int.natCast_nonneg j) (by omega)
      simp [wipeE, ed, h d md]]
    have e9 : (rangeD 0 ds.length).filter (fun _ => false) = [] := List.filter_eq_nil_iff.mpr (by simp)
    rw [e9]
    simp [sz]
  simp [b_l_same, esOf, ssOf, key, eq_nil, sz]
theorem same_pD (L : LibL T G) {p : List Int} (h : p.length ≤ 1000000) : callF T G W (n + 2) "_law_same" [pD p, pD p] S = .ok (.bl true) S :=
  same_tup L (by rw [List.length_map]; exact h) fun d m S => by
    obtain ⟨i, _, rfl⟩ := List.mem_map.mp m
    exact same_int L i
theorem same_stD (L : LibL T G) {m : Int} {ps : List (List Int)} (h : Good m ps) : callF T G W (n + 4) "_law_same" [stD m ps, stD m ps] S = .ok (.bl true) S :=
  same_tup L (by simp) fun d k S => by
    simp only [List.mem_cons, List.not_mem_nil, or_false] at k
    rcases k with rfl | rfl
    · exact same_int L m
    · refine same_tup L (by rw [List.length_map]; have := h.len; omega) fun d k S => ?_
      obtain ⟨p, mp, rfl⟩ := List.mem_map.mp k
      refine same_pD L ?_
      have := (h.row p mp).1
      have := h.hi
      omega
theorem ok_put (L : LibP T G) {ds : List D} {e : D} {k : Nat} (h : k < ds.length) (hz : ds.length ≤ 1000000) : callF T G W (n + 1) "_law_put" [.tup ds, .int k, e] S = .ok (.tup (ds.set k e)) S := by
  apply eq_of_ok
  rw [Ok_callF L.t_l_put rfl]
  have s1 : ∀ S, slD false (.tup ds) none (some (k : Int)) S = .ok (.tup (ds.take k)) S := fun S => by simp only [slD]; rw [cut_to]
  have s2 : ∀ S, slD false (.tup ds) (some ((k : Int) + 1)) none S = .ok (.tup (ds.drop (k + 1))) S := fun S => by
    simp only [slD]
    rw [show ((k : Int) + 1) = ((k + 1 : Nat) : Int) by omega, cut_from]
  have z1 : min k ds.length + 1 ≤ 16777216 := by omega
  have z2 : min k ds.length + 1 + (ds.length - (k + 1)) ≤ 16777216 := by omega
  have e1 : ds.set k e = ds.take k ++ e :: ds.drop (k + 1) := by rw [List.set_eq_take_append_cons_drop, if_pos h]
  simp [b_l_put, esOf, ssOf, asI, s1, s2, sz, z1, z2, e1]
end
end Pyx.Tx
end
section
namespace Pyx.K81
open PySem L2 Pyx
abbrev top (i : Nat) : Stmt := PySem.Challenge.pw_packtags_k81_whole_texts_of_lists.main.body.getD i (.Pass ⟨0, 0, 0, 0⟩)
def b_is_whole : Ss := (ssOf [(.ret (.and (.isin (.var 0) [.int]) (.not (.isin (.var 0) [.bool]))))])
def b_is_between : Ss := (ssOf [(.ret (.and (.call "is_whole" (esOf [(.var 0)])) (.cmp2 .le .le (.var 1) (.var 0) (.var 2))))])
def b_is_tuple_of : Ss := (ssOf [(.ret (.and (.isin (.var 0) [.tuple]) (.cmp .eq (.bi .len false (esOf [(.var 0)])) (.var 1))))])
def b_are_wholes : Ss := (ssOf [(.ret (.and (.call "is_tuple_of" (esOf [(.var 0), (.var 1)])) (.bi .all false (esOf [(.comp false [2] (.call "is_whole" (esOf [(.var 2)])) (.var 2) (.val (.var 0)) (esOf []))]))))])
def b_are_between : Ss := (ssOf [(.ret (.and (.call "is_tuple_of" (esOf [(.var 0), (.var 1)])) (.bi .all false (esOf [(.comp false [4] (.call "is_between" (esOf [(.var 4), (.var 2), (.var 3)])) (.var 4) (.val (.var 0)) (esOf []))]))))])
def b_is_pack : Ss := (ssOf [(.ret (.call "are_between" (esOf [(.var 1), (.var 0), (.neg (.glob "MOST_IN_PACK")), (.glob "MOST_IN_PACK")])))])
def b_is_list_by : Ss := (ssOf [(.ite (.or (.not (.call "is_tuple_of" (esOf [(.var 0), (.con (.int 2))]))) (.not (.call "is_between" (esOf [(.ix (.var 0) (.glob "MANY")), (.con (.int 1)), (.glob "MOST_GOODS")])))) (ssOf [(.ret (.con (.bl false)))]) (ssOf [])), (.ite (.or (.not (.isin (.ix (.var 0) (.glob "PACKS")) [.tuple])) (.cmp .gt (.bi .len false (esOf [(.ix (.var 0) (.glob "PACKS"))])) (.glob "MOST_PACKS"))) (ssOf [(.ret (.con (.bl false)))]) (ssOf [])), (.ret (.bi .all false (esOf [(.comp false [1] (.call "is_pack" (esOf [(.ix (.var 0) (.glob "MANY")), (.var 1)])) (.var 1) (.val (.ix (.var 0) (.glob "PACKS"))) (esOf []))])))])
def b_check_list : Ss := (ssOf [(.ite (.not (.call "is_list_by" (esOf [(.var 0)]))) (ssOf [.never]) (ssOf []))])
def b_is_figures : Ss := (ssOf [(.ite (.or (.cmp .eq (.var 0) (.con (.str ""))) (.bi .any false (esOf [(.comp false [1] (.cmp .notin (.var 1) (.glob "FIGURES")) (.var 1) (.val (.var 0)) (esOf []))]))) (ssOf [(.ret (.con (.bl false)))]) (ssOf [])), (.ret (.or (.cmp .eq (.var 0) (.con (.str "0"))) (.cmp .ne (.ix (.var 0) (.con (.int 0))) (.con (.str "0")))))])
def b_is_number_text : Ss := (ssOf [(.ite (.mt .startswith false (.var 0) (esOf [(.glob "MINUS")])) (ssOf [(.ret (.and (.call "is_figures" (esOf [(.sl false (.var 0) (.some (.con (.int 1))) .none)])) (.cmp .ne (.var 0) (.con (.str "-0")))))]) (ssOf [])), (.ret (.call "is_figures" (esOf [(.var 0)])))])
def b_text_of_row : Ss := (ssOf [(.ret (.mt .join false (.glob "BLANK") (esOf [(.comp false [1] (.bi .str false (esOf [(.var 1)])) (.var 1) (.val (.var 0)) (esOf []))])))])
def b_read_numbers : Ss := (ssOf [(.ite (.not (.bi .all false (esOf [(.comp false [1] (.call "is_number_text" (esOf [(.var 1)])) (.var 1) (.val (.var 0)) (esOf []))]))) (ssOf [(.ret (.lst false (esOf [])))]) (ssOf [])), (.ret (.lst false (esOf [(.bi .tuple false (esOf [(.comp false [1] (.bi .int false (esOf [(.var 1)])) (.var 1) (.val (.var 0)) (esOf []))]))])))])
def b_text_of_list : Ss := (ssOf [(.asg (.var 1) (.lst true (esOf [(.bin .add (.bin .add (.glob "GOODS_WORD") (.glob "BLANK")) (.bi .str false (esOf [(.ix (.var 0) (.glob "MANY"))])))]))), (.for (.var 2) (.val (.ix (.var 0) (.glob "PACKS"))) (ssOf [(.expr (.mt .append false (.var 1) (esOf [(.bin .add (.bin .add (.glob "PACK_WORD") (.glob "BLANK")) (.call "text_of_row" (esOf [(.var 2)])))])))])), (.ret (.mt .join false (.con (.str "")) (esOf [(.comp false [3] (.bin .add (.var 3) (.glob "END")) (.var 3) (.val (.var 1)) (esOf []))])))])
def b_read_line : Ss := (ssOf [(.asg (.var 2) (.mt .split false (.var 0) (esOf [(.glob "BLANK")]))), (.ret (.ite (.cmp .eq (.ix (.var 2) (.con (.int 0))) (.var 1)) (.call "read_numbers" (esOf [(.sl false (.var 2) (.some (.con (.int 1))) .none)])) (.lst false (esOf []))))])
def b_read_lines : Ss := (ssOf [(.asg (.tup (tgsOf [(.var 1), (.var 2)])) (.tup (esOf [(.call "read_line" (esOf [(.ix (.var 0) (.con (.int 0))), (.glob "GOODS_WORD")])), (.lst true (esOf []))]))), (.ite (.or (.cmp .eq (.var 1) (.lst false (esOf []))) (.cmp .ne (.bi .len false (esOf [(.ix (.var 1) (.con (.int 0)))])) (.con (.int 1)))) (ssOf [(.ret (.lst false (esOf [])))]) (ssOf [])), (.for (.var 3) (.val (.sl false (.var 0) (.some (.con (.int 1))) .none)) (ssOf [(.asg (.var 4) (.call "read_line" (esOf [(.var 3), (.glob "PACK_WORD")]))), (.ite (.cmp .eq (.var 4) (.lst false (esOf []))) (ssOf [(.ret (.lst false (esOf [])))]) (ssOf [])), (.expr (.mt .extend false (.var 2) (esOf [(.var 4)])))])), (.ret (.lst false (esOf [(.tup (esOf [(.ix (.ix (.var 1) (.con (.int 0))) (.con (.int 0))), (.bi .tuple false (esOf [(.var 2)]))]))])))])
def b_list_with_text : Ss := (ssOf [(.ite (.not (.mt .endswith false (.var 0) (esOf [(.glob "END")]))) (ssOf [(.ret (.lst false (esOf [])))]) (ssOf [])), (.ret (.comp false [1] (.var 1) (.var 1) (.val (.call "read_lines" (esOf [(.mt .split false (.sl false (.var 0) .none (.some (.neg (.con (.int 1))))) (esOf [(.glob "END")]))]))) (esOf [(.call "is_list_by" (esOf [(.var 1)]))])))])
def b_row_text : Ss := (ssOf [(.ite (.or (.not (.isin (.var 0) [.tuple])) (.or (.cmp .eq (.var 0) (.tup (esOf []))) (.not (.call "are_wholes" (esOf [(.var 0), (.bi .len false (esOf [(.var 0)]))]))))) (ssOf [.never]) (ssOf [])), (.ret (.call "text_of_row" (esOf [(.var 0)])))])
def b_list_text : Ss := (ssOf [(.expr (.call "check_list" (esOf [(.var 0)]))), (.ret (.call "text_of_list" (esOf [(.var 0)])))])
def b_read_list : Ss := (ssOf [(.asg (.var 1) (.ite (.isin (.var 0) [.str]) (.call "list_with_text" (esOf [(.var 0)])) (.lst false (esOf [])))), (.ite (.cmp .eq (.var 1) (.lst false (esOf []))) (ssOf [.never]) (ssOf [])), (.ret (.ix (.var 1) (.con (.int 0))))])
def b_l_pool : Ss := (ssOf [(.asg (.tup (tgsOf [(.var 2), (.var 3)])) (.tup (esOf [(.ite (.cmp .lt (.var 1) (.bi .len false (esOf [(.var 0)]))) (.bi .int false (esOf [(.ix (.var 0) (.var 1))])) (.bin .add (.bin .mul (.con (.int 70001)) (.var 1)) (.con (.int 3477)))), (.bin .add (.con (.int 824449)) (.bin .mul (.con (.int 5087)) (.var 1)))]))), (.for (.var 4) (.val (.sl false (.var 0) .none (.some (.con (.int 63))))) (ssOf [(.asg (.var 3) (.bin .mod (.bi .int false (esOf [(.bin .add (.bin .add (.bin .mul (.var 3) (.con (.int 48271))) (.bin .mod (.bi .int false (esOf [(.var 4)])) (.con (.int 2147483587)))) (.con (.int 1401)))])) (.con (.int 2147483587))))])), (.ret (.lst true (esOf [(.bin .mod (.bi .int false (esOf [(.bin .add (.var 3) (.bin .mul (.var 2) (.con (.int 1013))))])) (.con (.int 2147483587))), (.ite (.or (.cmp .lt (.var 2) (.con (.int 0))) (.cmp .ge (.var 2) (.bin .pow (.con (.int 10)) (.con (.int 18))))) (.bi .abs false (esOf [(.var 2)])) (.con (.int 0))), (.con (.int 0))])))])
def b_l_draw : Ss := (ssOf [(.ite (.cmp .gt (.ix (.var 0) (.con (.int 1))) (.con (.int 0))) (ssOf [(.asg (.tup (tgsOf [(.sub (.var 0) (.con (.int 1))), (.var 2)])) (.bi .divmod false (esOf [(.ix (.var 0) (.con (.int 1))), (.var 1)]))), (.ret (.var 2))]) (ssOf [])), (.asg (.sub (.var 0) (.con (.int 2))) (.bin .add (.ix (.var 0) (.con (.int 2))) (.con (.int 1)))), (.asg (.var 3) (.bi .int false (esOf [(.ix (.var 0) (.con (.int 0)))]))), (.asg (.sub (.var 0) (.con (.int 0))) (.bin .mod (.bi .int false (esOf [(.bin .add (.bin .add (.bin .mul (.var 3) (.bin .add (.bin .mod (.var 3) (.con (.int 20011))) (.con (.int 30011)))) (.bin .mul (.con (.int 70001)) (.ix (.var 0) (.con (.int 2))))) (.con (.int 9)))])) (.con (.int 2147483587)))), (.ret (.bin .mod (.bi .int false (esOf [(.bin .fdiv (.ix (.var 0) (.con (.int 0))) (.con (.int 128)))])) (.var 1)))])
def b_l_pick : Ss := (ssOf [(.ret (.ix (.var 1) (.call "_law_draw" (esOf [(.var 0), (.bi .len false (esOf [(.var 1)]))]))))])
def b_l_same : Ss := (ssOf [(.ite (.isin (.var 0) [.tuple]) (ssOf [(.ret (.and (.isin (.var 1) [.tuple]) (.and (.cmp .eq (.bi .len false (esOf [(.var 0)])) (.bi .len false (esOf [(.var 1)]))) (.cmp .eq (.comp false [2] (.var 2) (.var 2) (.rng (esOf [(.bi .len false (esOf [(.var 0)]))])) (esOf [(.not (.call "_law_same" (esOf [(.ix (.var 0) (.var 2)), (.ix (.var 1) (.var 2))])))])) (.lst false (esOf []))))))]) (ssOf [])), (.ite (.or (.isin (.var 0) [.bool]) (.isin (.var 1) [.bool])) (ssOf [(.ret (.and (.isin (.var 0) [.bool]) (.and (.isin (.var 1) [.bool]) (.cmp .eq (.var 0) (.var 1)))))]) (ssOf [])), (.ret (.and (.cmp .eq (.isin (.var 0) [.int]) (.isin (.var 1) [.int])) (.and (.cmp .eq (.isin (.var 0) [.str]) (.isin (.var 1) [.str])) (.cmp .eq (.var 0) (.var 1)))))])
def b_l_put : Ss := (ssOf [(.ret (.bin .add (.bin .add (.sl false (.var 0) .none (.some (.var 1))) (.tup (esOf [(.var 2)]))) (.sl false (.var 0) (.some (.bin .add (.var 1) (.con (.int 1)))) .none)))])
def b_l_number : Ss := (ssOf [(.ite (.cmp .eq (.var 1) (.con (.int 0))) (ssOf [(.ret (.bin .sub (.call "_law_draw" (esOf [(.var 0), (.con (.int 7))])) (.con (.int 3))))]) (ssOf [])), (.ite (.cmp .eq (.var 1) (.con (.int 1))) (ssOf [(.ret (.bin .sub (.call "_law_draw" (esOf [(.var 0), (.con (.int 41))])) (.con (.int 20))))]) (ssOf [])), (.ret (.call "_law_pick" (esOf [(.var 0), (.lst false (esOf [(.bin .sub (.call "_law_draw" (esOf [(.var 0), (.con (.int 19999))])) (.con (.int 9999))), (.con (.int 9999)), (.neg (.con (.int 9999))), (.con (.int 0)), (.con (.int 1))]))])))])
def b_l_row : Ss := (ssOf [(.ret (.bi .tuple false (esOf [(.comp false [3] (.call "_law_number" (esOf [(.var 0), (.var 2)])) (.var 3) (.rng (esOf [(.var 1)])) (esOf []))])))])
def b_l_list : Ss := (ssOf [(.asg (.var 4) (.lst true (esOf []))), (.for (.var 5) (.rng (esOf [(.call "_law_draw" (esOf [(.var 0), (.bin .add (.var 2) (.con (.int 1)))]))])) (ssOf [(.asg (.var 6) (.call "_law_draw" (esOf [(.var 0), (.con (.int 6))]))), (.ite (.and (.cmp .eq (.var 6) (.con (.int 0))) (.cmp .ne (.var 4) (.lst false (esOf [])))) (ssOf [(.expr (.mt .append false (.var 4) (esOf [(.call "_law_pick" (esOf [(.var 0), (.var 4)]))])))]) (ssOf [(.ite (.cmp .eq (.var 6) (.con (.int 1))) (ssOf [(.expr (.mt .append false (.var 4) (esOf [(.bi .tuple false (esOf [(.comp false [7] (.con (.int 0)) (.var 7) (.rng (esOf [(.var 1)])) (esOf []))]))])))]) (ssOf [(.ite (.and (.cmp .eq (.var 6) (.con (.int 2))) (.cmp .gt (.bi .len false (esOf [(.var 4)])) (.con (.int 1)))) (ssOf [(.asg (.tup (tgsOf [(.var 8), (.var 9)])) (.tup (esOf [(.call "_law_pick" (esOf [(.var 0), (.var 4)])), (.call "_law_pick" (esOf [(.var 0), (.var 4)]))]))), (.asg (.var 10) (.bi .tuple false (esOf [(.comp false [11] (.bin .sub (.bin .mul (.con (.int 2)) (.ix (.var 8) (.var 11))) (.ix (.var 9) (.var 11))) (.var 11) (.rng (esOf [(.var 1)])) (esOf []))]))), (.expr (.mt .append false (.var 4) (esOf [(.ite (.cmp .lt (.bi .max false (esOf [(.comp false [12] (.bi .abs false (esOf [(.var 12)])) (.var 12) (.val (.var 10)) (esOf []))])) (.con (.int 10000))) (.var 10) (.var 8))])))]) (ssOf [(.expr (.mt .append false (.var 4) (esOf [(.call "_law_row" (esOf [(.var 0), (.var 1), (.var 3)]))])))]))]))]))])), (.ret (.tup (esOf [(.var 1), (.bi .tuple false (esOf [(.var 4)]))])))])
def b_l_figures : Ss := (ssOf [(.asg (.var 1) (.ite (.cmp .eq (.sl false (.var 0) .none (.some (.con (.int 1)))) (.con (.str "-"))) (.sl false (.var 0) (.some (.con (.int 1))) .none) (.var 0))), (.ite (.or (.cmp .eq (.var 1) (.con (.str ""))) (.or (.cmp .ne (.comp false [2] (.var 2) (.var 2) (.val (.var 1)) (esOf [(.cmp .notin (.var 2) (.con (.str "0123456789")))])) (.lst false (esOf []))) (.or (.and (.cmp .gt (.bi .len false (esOf [(.var 1)])) (.con (.int 1))) (.cmp .eq (.ix (.var 1) (.con (.int 0))) (.con (.str "0")))) (.cmp .eq (.var 0) (.con (.str "-0")))))) (ssOf [(.ret (.con .non))]) (ssOf [])), (.ret (.ite (.cmp .eq (.ix (.var 0) (.con (.int 0))) (.con (.str "-"))) (.neg (.bi .int false (esOf [(.var 1)]))) (.bi .int false (esOf [(.var 1)]))))])
def b_l_row_text : Ss := (ssOf [(.ret (.mt .join false (.con (.str " ")) (esOf [(.comp false [1] (.bi .str false (esOf [(.var 1)])) (.var 1) (.val (.var 0)) (esOf []))])))])
def b_l_read_row : Ss := (ssOf [(.asg (.var 2) (.comp false [3] (.call "_law_figures" (esOf [(.var 3)])) (.var 3) (.val (.mt .split false (.var 0) (esOf [(.con (.str " "))]))) (esOf []))), (.ret (.ite (.and (.cmp .eq (.bi .len false (esOf [(.var 2)])) (.var 1)) (.cmp .notin (.con .non) (.var 2))) (.bi .tuple false (esOf [(.var 2)])) (.con .non)))])
def b_l_list_rows : Ss := (ssOf [(.ret (.bin .add (.lst false (esOf [(.bin .add (.con (.str "goods ")) (.bi .str false (esOf [(.ix (.var 0) (.con (.int 0)))])))])) (.comp false [1] (.bin .add (.con (.str "pack ")) (.call "_law_row_text" (esOf [(.var 1)]))) (.var 1) (.val (.ix (.var 0) (.con (.int 1)))) (esOf []))))])
def b_l_read_list : Ss := (ssOf [(.asg (.var 1) (.mt .split false (.var 0) (esOf [(.con (.str "\n"))]))), (.ite (.or (.cmp .lt (.bi .len false (esOf [(.var 1)])) (.con (.int 2))) (.or (.cmp .gt (.bi .len false (esOf [(.var 1)])) (.con (.int 10))) (.or (.cmp .ne (.ix (.var 1) (.neg (.con (.int 1)))) (.con (.str ""))) (.cmp .notin (.ix (.var 1) (.con (.int 0))) (.comp false [2] (.bin .add (.con (.str "goods ")) (.bi .str false (esOf [(.var 2)]))) (.var 2) (.rng (esOf [(.con (.int 1)), (.con (.int 7))])) (esOf [])))))) (ssOf [(.ret (.con .non))]) (ssOf [])), (.asg (.tup (tgsOf [(.var 2), (.var 3)])) (.tup (esOf [(.bi .int false (esOf [(.sl false (.ix (.var 1) (.con (.int 0))) (.some (.con (.int 6))) .none)])), (.lst true (esOf []))]))), (.for (.var 4) (.val (.sl false (.var 1) (.some (.con (.int 1))) (.some (.neg (.con (.int 1)))))) (ssOf [(.asg (.var 5) (.ite (.cmp .eq (.sl false (.var 4) .none (.some (.con (.int 5)))) (.con (.str "pack "))) (.call "_law_read_row" (esOf [(.sl false (.var 4) (.some (.con (.int 5))) .none), (.var 2)])) (.con .non))), (.ite (.or (.cmp .is (.var 5) (.con .non)) (.cmp .ne (.comp false [6] (.var 6) (.var 6) (.val (.var 5)) (esOf [(.or (.cmp .gt (.var 6) (.con (.int 9999))) (.cmp .lt (.var 6) (.neg (.con (.int 9999)))))])) (.lst false (esOf [])))) (ssOf [(.ret (.con .non))]) (ssOf [])), (.expr (.mt .append false (.var 3) (esOf [(.var 5)])))])), (.ret (.tup (esOf [(.var 2), (.bi .tuple false (esOf [(.var 3)]))])))])
def b_l_is_told : Ss := (ssOf [(.asg (.var 2) (.mt .join false (.con (.str "")) (esOf [(.comp false [3] (.bin .add (.var 3) (.con (.str "\n"))) (.var 3) (.val (.call "_law_list_rows" (esOf [(.var 1)]))) (esOf []))]))), (.asg (.var 4) (.ite (.cmp .eq (.call "_law_draw" (esOf [(.var 0), (.con (.int 3))])) (.con (.int 0))) (.callk "list_text" (esOf []) [0] (esOf [(.var 1)])) (.call "list_text" (esOf [(.var 1)])))), (.ite (.or (.not (.isin (.var 4) [.str])) (.or (.cmp .ne (.var 4) (.var 2)) (.cmp .ne (.call "_law_read_list" (esOf [(.var 2)])) (.var 1)))) (ssOf [(.ret (.con (.bl false)))]) (ssOf [])), (.asg (.var 5) (.ite (.cmp .eq (.call "_law_draw" (esOf [(.var 0), (.con (.int 3))])) (.con (.int 0))) (.callk "read_list" (esOf []) [0] (esOf [(.var 4)])) (.call "read_list" (esOf [(.var 4)])))), (.ret (.and (.call "_law_same" (esOf [(.var 5), (.var 1)])) (.cmp .eq (.call "list_text" (esOf [(.var 5)])) (.var 2))))])
def b_l_right : Ss := (ssOf [(.for (.var 1) (.rng (esOf [(.con (.int 6))])) (ssOf [(.asg (.var 2) (.ix (.lst false (esOf [(.con (.int 6)), (.con (.int 1)), (.con (.int 2)), (.con (.int 3)), (.con (.int 4)), (.con (.int 5))])) (.var 1))), (.asg (.var 3) (.call "_law_list" (esOf [(.var 0), (.var 2), (.con (.int 8)), (.call "_law_draw" (esOf [(.var 0), (.con (.int 3))]))]))), (.asg (.var 4) (.tup (esOf [(.var 2), (.bi .tuple false (esOf [(.comp false [5] (.call "_law_row" (esOf [(.var 0), (.var 2), (.con (.int 2))])) (.var 5) (.rng (esOf [(.con (.int 8))])) (esOf []))]))]))), (.ite (.or (.not (.call "_law_is_told" (esOf [(.var 0), (.var 3)]))) (.or (.not (.call "_law_is_told" (esOf [(.var 0), (.var 4)]))) (.not (.call "_law_is_told" (esOf [(.var 0), (.tup (esOf [(.var 2), (.tup (esOf []))]))]))))) (ssOf [(.ret (.con (.bl false)))]) (ssOf [])), (.ite (.cmp .ne (.comp false [6] (.var 6) (.var 6) (.val (.ix (.var 4) (.con (.int 1)))) (esOf [(.cmp .notin (.call "row_text" (esOf [(.var 6)])) (.call "list_text" (esOf [(.var 4)])))])) (.lst false (esOf []))) (ssOf [(.ret (.con (.bl false)))]) (ssOf [])), (.ite (.cmp .ne (.ix (.var 3) (.con (.int 1))) (.tup (esOf []))) (ssOf [(.asg (.var 7) (.call "_law_draw" (esOf [(.var 0), (.bi .len false (esOf [(.ix (.var 3) (.con (.int 1)))]))]))), (.asg (.tup (tgsOf [(.var 8), (.var 9)])) (.tup (esOf [(.tup (esOf [(.var 2), (.bin .add (.sl false (.ix (.var 3) (.con (.int 1))) .none (.some (.var 7))) (.sl false (.ix (.var 3) (.con (.int 1))) (.some (.bin .add (.var 7) (.con (.int 1)))) .none))])), (.tup (esOf [(.var 2), (.rev (.ix (.var 3) (.con (.int 1))))]))]))), (.ite (.or (.not (.call "_law_is_told" (esOf [(.var 0), (.var 8)]))) (.or (.cmp .eq (.call "list_text" (esOf [(.var 8)])) (.call "list_text" (esOf [(.var 3)]))) (.not (.call "_law_is_told" (esOf [(.var 0), (.var 9)]))))) (ssOf [(.ret (.con (.bl false)))]) (ssOf [])), (.asg (.var 10) (.tup (esOf [(.var 2), (.call "_law_put" (esOf [(.ix (.var 3) (.con (.int 1))), (.var 7), (.bi .tuple false (esOf [(.comp false [5] (.neg (.var 5)) (.var 5) (.val (.ix (.ix (.var 3) (.con (.int 1))) (.var 7))) (esOf []))]))]))]))), (.ite (.or (.not (.call "_law_is_told" (esOf [(.var 0), (.var 10)]))) (.cmp .ne (.cmp .eq (.call "list_text" (esOf [(.var 10)])) (.call "list_text" (esOf [(.var 3)]))) (.cmp .eq (.var 10) (.var 3)))) (ssOf [(.ret (.con (.bl false)))]) (ssOf []))]) (ssOf []))])), (.asg (.var 11) (.tup (esOf [(.con (.int 2)), (.tup (esOf [(.tup (esOf [(.con (.int 2)), (.con (.int 0))])), (.tup (esOf [(.neg (.con (.int 1))), (.con (.int 3))])), (.tup (esOf [(.con (.int 2)), (.con (.int 0))])), (.tup (esOf [(.con (.int 0)), (.con (.int 0))]))]))]))), (.ret (.and (.cmp .eq (.call "list_text" (esOf [(.var 11)])) (.con (.str "goods 2\npack 2 0\npack -1 3\npack 2 0\npack 0 0\n"))) (.call "_law_same" (esOf [(.call "read_list" (esOf [(.con (.str "goods 1\npack -9999\npack 9999\n"))])), (.tup (esOf [(.con (.int 1)), (.tup (esOf [(.tup (esOf [(.neg (.con (.int 9999)))])), (.tup (esOf [(.con (.int 9999))]))]))]))]))))])
def b_law : Ss := (ssOf [(.for (.var 1) (.rng (esOf [(.bi .max false (esOf [(.con (.int 2)), (.bi .min false (esOf [(.bi .len false (esOf [(.var 0)])), (.con (.int 3))]))]))])) (ssOf [(.ite (.not (.call "_law_right" (esOf [(.call "_law_pool" (esOf [(.var 0), (.var 1)]))]))) (ssOf [(.ret (.con (.bl false)))]) (ssOf []))])), (.ret (.con (.bl true)))])
abbrev r_is_whole : Row := ⟨"is_whole", top 6, ["value"], ["value"], [], b_is_whole⟩
abbrev r_is_between : Row := ⟨"is_between", top 7, ["value", "low", "high"], ["value", "low", "high"], [], b_is_between⟩
abbrev r_is_tuple_of : Row := ⟨"is_tuple_of", top 8, ["value", "many"], ["value", "many"], [], b_is_tuple_of⟩
abbrev r_are_wholes : Row := ⟨"are_wholes", top 9, ["value", "many"], ["value", "many", "each"], [], b_are_wholes⟩
abbrev r_are_between : Row := ⟨"are_between", top 10, ["value", "many", "low", "high"], ["value", "many", "low", "high", "each"], [], b_are_between⟩
abbrev r_is_pack : Row := ⟨"is_pack", top 17, ["many", "value"], ["many", "value"], [], b_is_pack⟩
abbrev r_is_list_by : Row := ⟨"is_list_by", top 18, ["value"], ["value", "each"], [], b_is_list_by⟩
abbrev r_check_list : Row := ⟨"check_list", top 20, ["value"], ["value"], [], b_check_list⟩
abbrev r_is_figures : Row := ⟨"is_figures", top 28, ["text"], ["text", "sign"], [], b_is_figures⟩
abbrev r_is_number_text : Row := ⟨"is_number_text", top 29, ["text"], ["text"], [], b_is_number_text⟩
abbrev r_text_of_row : Row := ⟨"text_of_row", top 30, ["row"], ["row", "number"], [], b_text_of_row⟩
abbrev r_read_numbers : Row := ⟨"read_numbers", top 31, ["words"], ["words", "word"], [], b_read_numbers⟩
abbrev r_text_of_list : Row := ⟨"text_of_list", top 32, ["stock"], ["stock", "lines", "pack", "line"], [], b_text_of_list⟩
abbrev r_read_line : Row := ⟨"read_line", top 33, ["line", "word"], ["line", "word", "words"], [], b_read_line⟩
abbrev r_read_lines : Row := ⟨"read_lines", top 34, ["lines"], ["lines", "many", "packs", "line", "found"], [], b_read_lines⟩
abbrev r_list_with_text : Row := ⟨"list_with_text", top 35, ["text"], ["text", "found"], [], b_list_with_text⟩
abbrev r_row_text : Row := ⟨"row_text", top 37, ["row"], ["row"], [], b_row_text⟩
abbrev r_list_text : Row := ⟨"list_text", top 38, ["stock"], ["stock"], [(0, ["stock"])], b_list_text⟩
abbrev r_read_list : Row := ⟨"read_list", top 39, ["text"], ["text", "found"], [(0, ["text"])], b_read_list⟩
abbrev r_l_pool : Row := ⟨"_law_pool", top 41, ["script", "lap"], ["script", "lap", "own", "stirred", "cell"], [], b_l_pool⟩
abbrev r_l_draw : Row := ⟨"_law_draw", top 42, ["pool", "many"], ["pool", "many", "figure", "held"], [], b_l_draw⟩
abbrev r_l_pick : Row := ⟨"_law_pick", top 43, ["pool", "some"], ["pool", "some"], [], b_l_pick⟩
abbrev r_l_same : Row := ⟨"_law_same", top 44, ["one", "other"], ["one", "other", "k"], [], b_l_same⟩
abbrev r_l_put : Row := ⟨"_law_put", top 45, ["some", "at", "each"], ["some", "at", "each"], [], b_l_put⟩
abbrev r_l_number : Row := ⟨"_law_number", top 46, ["pool", "way"], ["pool", "way"], [], b_l_number⟩
abbrev r_l_row : Row := ⟨"_law_row", top 47, ["pool", "many", "way"], ["pool", "many", "way", "lap"], [], b_l_row⟩
abbrev r_l_list : Row := ⟨"_law_list", top 48, ["pool", "many", "count", "way"], ["pool", "many", "count", "way", "packs", "lap", "kind", "good", "one", "other", "some", "k", "each"], [], b_l_list⟩
abbrev r_l_figures : Row := ⟨"_law_figures", top 49, ["word"], ["word", "plain", "sign"], [], b_l_figures⟩
abbrev r_l_row_text : Row := ⟨"_law_row_text", top 50, ["row"], ["row", "each"], [], b_l_row_text⟩
abbrev r_l_read_row : Row := ⟨"_law_read_row", top 51, ["text", "many"], ["text", "many", "row", "word"], [], b_l_read_row⟩
abbrev r_l_list_rows : Row := ⟨"_law_list_rows", top 52, ["stock"], ["stock", "pack"], [], b_l_list_rows⟩
abbrev r_l_read_list : Row := ⟨"_law_read_list", top 53, ["text"], ["text", "rows", "many", "packs", "row", "pack", "each"], [], b_l_read_list⟩
abbrev r_l_is_told : Row := ⟨"_law_is_told", top 54, ["pool", "stock"], ["pool", "stock", "due", "row", "told", "back"], [], b_l_is_told⟩
abbrev r_l_right : Row := ⟨"_law_right", top 55, ["pool"], ["pool", "turn", "many", "stock", "full", "each", "pack", "at", "less", "turned", "other", "two"], [], b_l_right⟩
abbrev r_law : Row := ⟨"law", top 56, ["script"], ["script", "turn"], [], b_law⟩
def rows : List Row := [r_is_whole, r_is_between, r_is_tuple_of, r_are_wholes, r_are_between, r_is_pack, r_is_list_by, r_check_list, r_is_figures, r_is_number_text, r_text_of_row, r_read_numbers, r_text_of_list, r_read_line, r_read_lines, r_list_with_text, r_row_text, r_list_text, r_read_list, r_l_pool, r_l_draw, r_l_pick, r_l_same, r_l_put, r_l_number, r_l_row, r_l_list, r_l_figures, r_l_row_text, r_l_read_row, r_l_list_rows, r_l_read_list, r_l_is_told, r_l_right, r_law]
def heads : List (Str × List Str × List (Nat × List Str)) := [hdr "is_whole" ["value"] [], hdr "is_between" ["value", "low", "high"] [], hdr "is_tuple_of" ["value", "many"] [], hdr "are_wholes" ["value", "many"] [], hdr "are_between" ["value", "many", "low", "high"] [], hdr "is_pack" ["many", "value"] [], hdr "is_list_by" ["value"] [], hdr "check_list" ["value"] [], hdr "is_figures" ["text"] [], hdr "is_number_text" ["text"] [], hdr "text_of_row" ["row"] [], hdr "read_numbers" ["words"] [], hdr "text_of_list" ["stock"] [], hdr "read_line" ["line", "word"] [], hdr "read_lines" ["lines"] [], hdr "list_with_text" ["text"] [], hdr "row_text" ["row"] [], hdr "list_text" ["stock"] [(0, ["stock"])], hdr "read_list" ["text"] [(0, ["text"])], hdr "_law_pool" ["script", "lap"] [], hdr "_law_draw" ["pool", "many"] [], hdr "_law_pick" ["pool", "some"] [], hdr "_law_same" ["one", "other"] [], hdr "_law_put" ["some", "at", "each"] [], hdr "_law_number" ["pool", "way"] [], hdr "_law_row" ["pool", "many", "way"] [], hdr "_law_list" ["pool", "many", "count", "way"] [], hdr "_law_figures" ["word"] [], hdr "_law_row_text" ["row"] [], hdr "_law_read_row" ["text", "many"] [], hdr "_law_list_rows" ["stock"] [], hdr "_law_read_list" ["text"] [], hdr "_law_is_told" ["pool", "stock"] [], hdr "_law_right" ["pool"] [], hdr "law" ["script"] []]
def glob : List (Str × D) := [glv "MOST_GOODS" (.int 6), glv "MOST_PACKS" (.int 8), glv "MOST_IN_PACK" (.int 9999), glv "MANY" (.int 0), glv "PACKS" (.int 1), glv "FIGURES" (.str "0123456789"), glv "BLANK" (.str " "), glv "END" (.str "\n"), glv "MINUS" (.str "-"), glv "GOODS_WORD" (.str "goods"), glv "PACK_WORD" (.str "pack")]
def bls : List Str := ["isinstance", "bool", "int", "len", "tuple", "all", "any", "str", "abs", "divmod", "range", "max", "min"]
def mus : List (Nat × Nat) := [(67, 12), (75, 52), (106, 11), (134, 12), (164, 37)]
def pr : Pr := mkPr heads glob bls mus
theorem pr_eq : pr = mkPr (hdOf rows) glob bls mus := rfl
theorem scopes : rows.all Row.scopeOk = true := by decide +kernel
theorem texts : rows.all (Row.bodyOk pr 60) = true := by decide +kernel
def tab : Str → Option Df := tabOf rows
theorem t_is_whole : tab "is_whole" = some ⟨1, 1, b_is_whole⟩ := rfl
theorem t_is_between : tab "is_between" = some ⟨3, 3, b_is_between⟩ := rfl
theorem t_is_tuple_of : tab "is_tuple_of" = some ⟨2, 2, b_is_tuple_of⟩ := rfl
theorem t_are_wholes : tab "are_wholes" = some ⟨2, 3, b_are_wholes⟩ := rfl
theorem t_are_between : tab "are_between" = some ⟨4, 5, b_are_between⟩ := rfl
theorem t_is_pack : tab "is_pack" = some ⟨2, 2, b_is_pack⟩ := rfl
theorem t_is_list_by : tab "is_list_by" = some ⟨1, 2, b_is_list_by⟩ := rfl
theorem t_check_list : tab "check_list" = some ⟨1, 1, b_check_list⟩ := rfl
theorem t_is_figures : tab "is_figures" = some ⟨1, 2, b_is_figures⟩ := rfl
theorem t_is_number_text : tab "is_number_text" = some ⟨1, 1, b_is_number_text⟩ := rfl
theorem t_text_of_row : tab "text_of_row" = some ⟨1, 2, b_text_of_row⟩ := rfl
theorem t_read_numbers : tab "read_numbers" = some ⟨1, 2, b_read_numbers⟩ := rfl
theorem t_text_of_list : tab "text_of_list" = some ⟨1, 4, b_text_of_list⟩ := rfl
theorem t_read_line : tab "read_line" = some ⟨2, 3, b_read_line⟩ := rfl
theorem t_read_lines : tab "read_lines" = some ⟨1, 5, b_read_lines⟩ := rfl
theorem t_list_with_text : tab "list_with_text" = some ⟨1, 2, b_list_with_text⟩ := rfl
theorem t_row_text : tab "row_text" = some ⟨1, 1, b_row_text⟩ := rfl
theorem t_list_text : tab "list_text" = some ⟨1, 1, b_list_text⟩ := rfl
theorem t_read_list : tab "read_list" = some ⟨1, 2, b_read_list⟩ := rfl
theorem t_l_pool : tab "_law_pool" = some ⟨2, 5, b_l_pool⟩ := rfl
theorem t_l_draw : tab "_law_draw" = some ⟨2, 4, b_l_draw⟩ := rfl
theorem t_l_pick : tab "_law_pick" = some ⟨2, 2, b_l_pick⟩ := rfl
theorem t_l_same : tab "_law_same" = some ⟨2, 3, b_l_same⟩ := rfl
theorem t_l_put : tab "_law_put" = some ⟨3, 3, b_l_put⟩ := rfl
theorem t_l_number : tab "_law_number" = some ⟨2, 2, b_l_number⟩ := rfl
theorem t_l_row : tab "_law_row" = some ⟨3, 4, b_l_row⟩ := rfl
theorem t_l_list : tab "_law_list" = some ⟨4, 13, b_l_list⟩ := rfl
theorem t_l_figures : tab "_law_figures" = some ⟨1, 3, b_l_figures⟩ := rfl
theorem t_l_row_text : tab "_law_row_text" = some ⟨1, 2, b_l_row_text⟩ := rfl
theorem t_l_read_row : tab "_law_read_row" = some ⟨2, 4, b_l_read_row⟩ := rfl
theorem t_l_list_rows : tab "_law_list_rows" = some ⟨1, 2, b_l_list_rows⟩ := rfl
theorem t_l_read_list : tab "_law_read_list" = some ⟨1, 7, b_l_read_list⟩ := rfl
theorem t_l_is_told : tab "_law_is_told" = some ⟨2, 6, b_l_is_told⟩ := rfl
theorem t_l_right : tab "_law_right" = some ⟨1, 12, b_l_right⟩ := rfl
theorem t_law : tab "law" = some ⟨1, 2, b_law⟩ := rfl
theorem g_MOST_GOODS : pr.gl "MOST_GOODS" = some (.int 6) := rfl
theorem g_MOST_PACKS : pr.gl "MOST_PACKS" = some (.int 8) := rfl
theorem g_MOST_IN_PACK : pr.gl "MOST_IN_PACK" = some (.int 9999) := rfl
theorem g_MANY : pr.gl "MANY" = some (.int 0) := rfl
theorem g_PACKS : pr.gl "PACKS" = some (.int 1) := rfl
theorem g_FIGURES : pr.gl "FIGURES" = some (.str "0123456789") := rfl
theorem g_BLANK : pr.gl "BLANK" = some (.str " ") := rfl
theorem g_END : pr.gl "END" = some (.str "\n") := rfl
theorem g_MINUS : pr.gl "MINUS" = some (.str "-") := rfl
theorem g_GOODS_WORD : pr.gl "GOODS_WORD" = some (.str "goods") := rfl
theorem g_PACK_WORD : pr.gl "PACK_WORD" = some (.str "pack") := rfl
end Pyx.K81
end
section
namespace Pyx.K81
open PySem (Str sizeLine)
open Pyx Pyx.Tx TL
noncomputable abbrev cf (n : Nat) : Str → List D → Store → R D := callF tab pr.gl 0 n
theorem libV : LibV tab pr.gl := by constructor <;> rfl
theorem libA : LibA tab pr.gl := by constructor; rfl
theorem libR : LibR tab pr.gl := by constructor <;> rfl
theorem libW : LibW tab pr.gl := by constructor <;> rfl
theorem libL : LibL tab pr.gl := by constructor <;> rfl
theorem libP : LibP tab pr.gl := by constructor; rfl
theorem libN : LibN tab pr.gl := by constructor <;> rfl
theorem libF : LibF tab pr.gl := by constructor <;> rfl
theorem ix_ref {S : Store} {Q : D → Store → Prop} (l : Nat) (i : Int) : Ok (ixD (.ref l) (.int i) S) Q ↔ ∃ ds, S[l]? = some (.lst ds) ∧ ∃ d, L2.atI ds i = some d ∧ Q d S := by
  simp only [ixD, asQ]
  cases S[l]? with
  | none => simp
  | some c => cases c <;> simp
theorem bi_int_int {S : Store} (m : Bool) (i : Int) : biD .int m [.int i] S = .ok (.int i) S := rfl
theorem bi_abs {S : Store} (m : Bool) (i : Int) : biD .abs m [.int i] S = .ok (.int (if i < 0 then -i else i)) S := rfl
theorem bi_divmod {S : Store} {Q : D → Store → Prop} (m : Bool) (i j : Int) : Ok (biD .divmod m [.int i, .int j] S) Q ↔ (0 < j ∧ j < 1073741824) ∧ Q (.tup [.int (i / j), .int (i % j)]) S := by
  simp only [biD, divmodD, Ok_ite, Ok_ok, Ok_stuck]
  by_cases h : 0 < j ∧ j < 1073741824 <;> simp [h]
theorem draw : DrawOk tab pr.gl 0 := by
  intro n S l m h m0 m1
  have hl := h.lt
  obtain ⟨⟨a, b, c⟩, hp⟩ := h
  have hp : S[l]? = some (.lst [.int a, .int b, .int c]) := hp
  rw [Ok_callF t_l_draw rfl]
  have i0 : ∀ x y z : D, L2.atI [x, y, z] 0 = some x := fun x y z => atI_0 _ _
  have i1 : ∀ x y z : D, L2.atI [x, y, z] 1 = some y := fun x y z => atI_1 _ _ _
  have i2 : ∀ x y z : D, L2.atI [x, y, z] 2 = some z := fun x y z => by simp [L2.atI, L2.ixN]
  have j0 : L2.ixN 3 0 = some 0 := by decide
  have j1 : L2.ixN 3 1 = some 1 := by decide
  have j2 : L2.ixN 3 2 = some 2 := by decide
  have gs : ∀ c : Cell, (S.set l c)[l]? = some c := fun c => List.getElem?_set_self hl
  have mo1 : ∀ x : Int, mulOk 70001 x = true := fun x => mulOk_l (by decide)
  by_cases hb : 0 < b
  · simp [b_l_draw, esOf, ssOf, tgsOf, ix_ref, hp, i1, hb, bi_divmod, m0, m1, Tgs.len, j1, gs]
    exact ⟨Int.emod_nonneg _ (by omega), Int.emod_lt_of_pos _ m0, ⟨(a, b / m, c), rfl⟩⟩
  · have md : ∀ x : Int, ∀ S, binD .mod (.int x) (.int 20011) S = .ok (.int (x % 20011)) S := fun x S => binD_mod (by decide)
    have md2 : ∀ x : Int, ∀ S, binD .mod (.int x) (.int 2147483587) S = .ok (.int (x % 2147483587)) S := fun x S => binD_mod (by decide)
    have md3 : ∀ x : Int, ∀ S, binD .mod (.int x) (.int m) S = .ok (.int (x % m)) S := fun x S => binD_mod m0
    have fd : ∀ x : Int, ∀ S, binD .fdiv (.int x) (.int 128) S = .ok (.int (x / 128)) S := fun x S => binD_fdiv (by decide)
    have r1 : 0 ≤ a % 20011 := Int.emod_nonneg _ (by decide)
    have r2 : a % 20011 < 20011 := Int.emod_lt_of_pos _ (by decide)
    have mo2 : mulOk a (a % 20011 + 30011) = true := mulOk_r ⟨by omega, by omega⟩
    simp [b_l_draw, esOf, ssOf, tgsOf, ix_ref, hp, i0, i1, i2, hb, j0, j1, j2, bi_int_int, md, md2, md3, fd, mo1, mo2, gs]
    exact ⟨Int.emod_nonneg _ (by omega), Int.emod_lt_of_pos _ m0, ⟨(_, b, c + 1), rfl⟩⟩
theorem ok_pool (n : Nat) (ns : List Int) (hn : ns.length ≤ 63) (S0 : Store) {t : Int} (t0 : 0 ≤ t) (t1 : t < 3) : Ok (cf (n + 1) "_law_pool" [.fz (ns.map .int), .int t] S0) fun d S => d = .ref S0.length ∧ Pool S S0.length := by
  rw [cf, Ok_callF t_l_pool rfl]
  have md2 : ∀ x : Int, ∀ S, binD .mod (.int x) (.int 2147483587) S = .ok (.int (x % 2147483587)) S := fun x S => binD_mod (by decide)
  have mo1 : ∀ x : Int, mulOk 70001 x = true := fun x => mulOk_l (by decide)
  have mo2 : ∀ x : Int, mulOk 5087 x = true := fun x => mulOk_l (by decide)
  have mo3 : ∀ x : Int, mulOk x 48271 = true := fun x => mulOk_r (by decide)
  have mo4 : ∀ x : Int, mulOk x 1013 = true := fun x => mulOk_r (by decide)
  have pw : ∀ S, binD .pow (.int 10) (.int 18) S = .ok (.int 1000000000000000000) S := fun S => by
    simp only [binD, powD]
    rw [if_pos (by decide)]; rfl
  have sl : ∀ S, slD false (.fz (ns.map .int)) none (some 63) S = .ok (.lst ((ns.take 63).map .int)) S := fun S => by
    simp only [slD, asQ, mkL]
    rw [show cut (ns.map D.int) none (some 63) = (ns.map D.int).take 63 from cut_to _ 63, ← List.map_take, if_pos (by rw [List.length_map, List.length_take, sz]; omega)]; rfl
  have gcr : ∀ c : Cell, gc S0 (.ref S0.length) (S0 ++ [c]) = .ok (.ref S0.length) (S0 ++ [c]) := fun c => by
    unfold gc
    rw [if_neg]
    intro h
    have := h.1
    simp [D.bnd] at this
  have main : ∀ own : Int, Ok (exSs (callF tab pr.gl 0 n) pr.gl 0 (ssOf [(.for (.var 4) (.val (.sl false (.var 0) .none (.some (.con (.int 63))))) (ssOf [(.asg (.var 3) (.bin .mod (.bi .int false (esOf [(.bin .add (.bin .add (.bin .mul (.var 3) (.con (.int 48271))) (.bin .mod (.bi .int false (esOf [(.var 4)])) (.con (.int 2147483587)))) (.con (.int 1401)))])) (.con (.int 2147483587))))])), (.ret (.lst true (esOf [(.bin .mod (.bi .int false (esOf [(.bin .add (.var 3) (.bin .mul (.var 2) (.con (.int 1013))))])) (.con (.int 2147483587))), (.ite (.or (.cmp .lt (.var 2) (.con (.int 0))) (.cmp .ge (.var 2) (.bin .pow (.con (.int 10)) (.con (.int 18))))) (.bi .abs false (esOf [(.var 2)])) (.con (.int 0))), (.con (.int 0))])))])
      [some (.fz (ns.map .int)), some (.int t), some (.int own), some (.int (824449 + 5087 * t)), none] S0) (leave S0 fun d S => d = .ref S0.length ∧ Pool S S0.length) := fun own => by
    simp [ssOf, esOf, Ok_for, asI, sl]
    refine Ok_for_inv (fun i ρ S1 => ∃ st o4, ρ = [some (.fz (ns.map .int)), some (.int t), some (.int own), some (.int st), o4] ∧ S1 = S0) ⟨_, _, rfl, rfl⟩ (fun _ _ _ _ _ => trivial) ?_ ?_
    · rintro i x e ρ S1 ⟨st, o4, rfl, rfl⟩
      obtain ⟨y, ey, rfl⟩ := List.mem_map.mp (List.mem_of_mem_take (List.mem_of_getElem? e))
      simp [bi_int_int, mo3, md2]
    · rintro ρ S1 ⟨st, o4, rfl, rfl⟩
      have fin : ∀ (S : Store) (a b : Int), Pool (S ++ [Cell.lst [.int a, .int b, .int 0]]) S.length := fun S a b => ⟨(a, b, 0), by simp [PL]⟩
      by_cases c1 : own < 0
      · simp [bi_int_int, mo4, md2, c1, bi_abs, sz, gcr, fin]
      · by_cases c2 : (1000000000000000000 : Int) ≤ own
        · simp [bi_int_int, mo4, md2, c1, c2, pw, bi_abs, sz, gcr, fin]
        · simp [bi_int_int, mo4, md2, c1, c2, pw, sz, gcr, fin]
  simp only [b_l_pool]
  rw [ssOf, Ok_scons]
  by_cases c : t < ns.length
  · obtain ⟨d, e1, md⟩ := atI_nat (xs := ns.map D.int) t0 (by rw [List.length_map]; exact c)
    obtain ⟨own, mo, rfl⟩ := List.mem_map.mp md
    have := main own
    simp [esOf, tgsOf, c, e1, bi_int_int, mo2, Tgs.len, sz]
    exact this
  · have := main (70001 * t + 3477)
    simp [esOf, tgsOf, c, bi_int_int, mo1, mo2, Tgs.len, sz]
    exact this
theorem pure_stD (m : Int) (ps : List (List Int)) : (stD m ps).pure = true := (flatI_ok 3 _ (flat_stD 0 m ps)).1
theorem tup_len {m : Int} {ps : List (List Int)} (h : Good m ps) : ∀ a qs, stD m ps = .tup [a, .tup qs] → ∀ p ∈ qs, ∀ ds, p = .tup ds → ds.length ≤ sizeLine := by
  intro a qs e p mp ds ed
  simp only [stD, D.tup.injEq, List.cons.injEq, and_true] at e
  rw [← e.2] at mp
  obtain ⟨z, mz, rfl⟩ := List.mem_map.mp mp
  simp only [pD, D.tup.injEq] at ed
  rw [← ed, List.length_map, sz]
  have := (h.row z mz).1
  have := h.hi
  omega
theorem ok_check_list {n : Nat} {S : Store} {m : Int} {ps : List (List Int)} (h : Good m ps) : cf (n + 6) "check_list" [stD m ps] S = .ok .non S := by
  apply eq_of_ok
  rw [cf, Ok_callF t_check_list rfl]
  have hl : ∀ S, callF tab pr.gl 0 (n + 5) "is_list_by" [stD m ps] S = .ok (.bl true) S := fun S => eq_of_ok ((ok_is_list_by libV (pure_stD m ps) (tup_len h) (n := n)).mpr (by rw [h.isL]; exact ⟨rfl, rfl⟩))
  simp [b_check_list, esOf, ssOf, hl]
theorem ok_list_text {n : Nat} {S : Store} {m : Int} {ps : List (List Int)} (h : Good m ps) : cf (n + 7) "list_text" [stD m ps] S = .ok (.str (listT m ps)) S := by
  apply eq_of_ok
  rw [cf, Ok_callF t_list_text rfl]
  have h1 : ∀ S, callF tab pr.gl 0 (n + 6) "check_list" [stD m ps] S = .ok .non S := fun S => ok_check_list h
  have h2 : ∀ S, callF tab pr.gl 0 (n + 6) "text_of_list" [stD m ps] S = .ok (.str (listT m ps)) S := fun S => ok_text_of_list libW h.ok (n := n + 4)
  simp [b_list_text, esOf, ssOf, h1, h2]
theorem listT_len {m : Int} {ps : List (List Int)} (h : Good m ps) : (listT m ps).length ≤ 100000 := by
  rw [sg_len, sg_listT]
  have e : ∀ l : List Str, (∀ x ∈ l, x.length ≤ 1000) → (ended (l.map sg)).length ≤ l.length * 1001 := by
    intro l
    induction l with
    | nil => intro _; simp [ended]
    | cons x l ih =>
      intro hx
      have h1 := hx x (by simp)
      have h2 := ih fun y my => hx y (List.mem_cons_of_mem _ my)
      rw [sg_len] at h1
      simp only [ended, List.map_cons, List.flatMap_cons, List.length_append, List.length_singleton, List.length_cons, List.length_nil] at h2 ⊢
      have : (l.length + 1) * 1001 = l.length * 1001 + 1001 := by omega
      omega
  have := e _ (lines_len h.ok)
  have l2 : (linesT m ps).length ≤ 9 := by
    rw [linesT, List.length_cons, List.length_map]
    have := h.len
    omega
  omega
theorem rowT_small {m : Int} {ps : List (List Int)} (h : Good m ps) : ∀ x ∈ linesT m ps, x.length ≤ 640 := fun x k => by
  have small : ∀ i : Int, i.natAbs < 10 ^ 5 → (numS i).length ≤ 6 := fun i hi => by rw [sg_len, sg_numS]; exact numC_len (by decide) hi
  rcases List.mem_cons.mp k with rfl | k
  · have := small m (by have := h.lo; have := h.hi; omega)
    rw [headT, len_app, len_app, len_goods, len_b]; omega
  · obtain ⟨p, mp, rfl⟩ := List.mem_map.mp k
    obtain ⟨pl, pb⟩ := h.row p mp
    have h6 := h.hi
    have : (rowT p).length ≤ 100 := by
      unfold rowT
      rw [sg_len, sg_join]
      have := joinL_len (sg (Str.ofString " ")) ((p.map numS).map sg) 6 (fun x m => by
        obtain ⟨s, ms, rfl⟩ := List.mem_map.mp m
        obtain ⟨i, mi, rfl⟩ := List.mem_map.mp ms
        rw [← sg_len]
        exact small i (by have := pb i mi; omega))
      rw [List.length_map, List.length_map] at this
      rw [sg_b] at this ⊢
      simp only [List.length_singleton] at *
      omega
    rw [lineT, len_app, len_app, len_pack, len_b]; omega
theorem ok_read_list {n : Nat} {S : Store} {m : Int} {ps : List (List Int)} (h : Good m ps) : cf (n + 7) "read_list" [.str (listT m ps)] S = .ok (stD m ps) S := by
  apply eq_of_ok
  rw [cf, Ok_callF t_read_list rfl]
  have h1 : ∀ S, callF tab pr.gl 0 (n + 6) "list_with_text" [.str (listT m ps)] S = .ok (.lst [stD m ps]) S := fun S => by
    rw [ok_list_with_text libR libV (by have := listT_len h; omega) (by rw [listT_cut]; exact rowT_small h), readW_listT h]; rfl
  have h2 : ∀ S, eqD S (.lst [stD m ps]) (.lst []) = some false := fun S => by
    rw [eqD_lst (k := 3) (by simp [flatIs, flat_stD 0]) (by simp [flatIs]) (by decide)]
    simp [D.eqs]
  simp [b_read_list, esOf, ssOf, h1, h2, atI_0]
theorem ok_row_text {n : Nat} {S : Store} {p : List Int} (h : RowOk p) (hp : p ≠ []) : cf (n + 7) "row_text" [pD p] S = .ok (.str (rowT p)) S := by
  apply eq_of_ok
  rw [cf, Ok_callF t_row_text rfl]
  have h0 : ∀ S, eqD S (.tup (p.map .int)) (.tup []) = some false := fun S => by
    rw [eqD_tup (k := 0) (flat_ints 0 p) (by simp [flatIs]) (by decide)]
    cases p with
    | nil => exact absurd rfl hp
    | cons => simp [D.eqs]
  have h1 : ∀ {S : Store} {Q : D → Store → Prop}, Ok (callF tab pr.gl 0 (n + 6) "text_of_row" [.tup (p.map .int)] S) Q ↔ Q (.str (rowT p)) S := fun {S Q} => ok_text_of_row libW h (n := n + 5)
  have h2 : ∀ S, callF tab pr.gl 0 (n + 6) "are_wholes" [.tup (p.map .int), .int p.length] S = .ok (.bl true) S := fun S => by
    apply eq_of_ok
    rw [Ok_callF t_are_wholes rfl]
    have pu : (D.tup (p.map .int)).pure = true := (flatI_ok 1 _ (flat_pD 0 p)).1
    have t1 : ∀ {S : Store} {Q : D → Store → Prop}, Ok (callF tab pr.gl 0 (n + 5) "is_tuple_of" [.tup (p.map .int), .int p.length] S) Q ↔ Q (.bl true) S := fun {S Q} => by
      rw [ok_is_tuple_of libV pu (n := n + 4)]
      simp [lenIs]
    have zl : (p.map D.int).length ≤ sizeLine := by rw [List.length_map, sz]; have := h.len; omega
    have key : ∀ {S : Store} {Q : D → Store → Prop}, Ok (evE (callF tab pr.gl 0 (n + 5)) pr.gl (.comp false [2] (.call "is_whole" (.cons (.var 2) .nil)) (.var 2) (.val (.var 0)) .nil) [some (.tup (p.map .int)), some (.int p.length), none] S) Q ↔ Q (.lst ((p.map D.int).map fun _ => .bl true)) S := fun {S Q} => by
      rw [Ok_map1 (xs := p.map .int) (fun _ => .bl true) (by simp) (by simp) fun x k => by
        obtain ⟨j, mj, rfl⟩ := List.mem_map.mp k
        have : ∀ {S : Store} {Q : D → Store → Prop}, Ok (callF tab pr.gl 0 (n + 5) "is_whole" [.int j] S) Q ↔ Q (.bl true) S := fun {S Q} => by
          rw [ok_is_whole libV (d := .int j) rfl (n := n + 4)]; rfl
        simp [wipeE, this]]
      simp only [zl, true_and]
      rfl
    have ba : ∀ S, biD .all false [.lst ((p.map D.int).map fun _ => .bl true)] S = .ok (.bl true) S := fun S => by
      rw [bi_all (p := fun _ => true)]; simp
    simp [-List.map_map, b_are_wholes, esOf, ssOf, t1, key, ba]
  simp [b_row_text, esOf, ssOf, pD, h0, h1, h2]
theorem ints_eqs : ∀ (p q : List Int), D.eqs (p.map .int) (q.map .int) = decide (p = q) := by
  intro p
  induction p with
  | nil => intro q; cases q <;> simp [D.eqs]
  | cons i p ih =>
    intro q
    cases q with
    | nil => simp [D.eqs]
    | cons j q =>
      simp only [List.map_cons, D.eqs, D.eq, ih]
      rw [Bool.eq_iff_iff]; simp
theorem eqD_st (S : Store) (m m' : Int) (ps qs : List (List Int)) : eqD S (stD m ps) (stD m' qs) = some (decide (m = m' ∧ ps = qs)) := by
  have h : ∀ (m : Int) (ps : List (List Int)), flatIs 2 [.int m, .tup (ps.map pD)] = true := fun m ps => by simp [flatIs, flatI, flat_pDs]
  unfold stD
  rw [eqD_tup (k := 2) (h m ps) (h m' qs) (by decide)]
  simp only [D.eqs, D.eq, eqs_pDs, Bool.and_true]
  congr 1
  rw [Bool.eq_iff_iff]; simp
theorem join_list {S1 : Store} {Q : D → Store → Prop} {m : Int} {ps : List (List Int)} (h : Good m ps) : Ok (mtD .join false (.str (Str.ofString "")) [.lst (((linesT m ps).map (· ++ Str.ofString "\n")).map .str)] S1) Q ↔ Q (.str (listT m ps)) S1 :=
  Ok_join (k := 1001) (fun x k => by
    obtain ⟨s, ms, rfl⟩ := List.mem_map.mp k
    have := lines_len h.ok s ms
    rw [len_app, len_n]; omega) (by
    rw [len_e, List.length_map, linesT, List.length_cons, List.length_map]
    have := h.len
    exact Nat.le_trans (Nat.mul_le_mul_right 1001 (Nat.succ_le_succ this)) (by decide))
theorem ok_told {n l : Nat} {S : Store} {m : Int} {ps : List (List Int)} (hp : Pool S l) (h : Good m ps) : Ok (cf (n + 8) "_law_is_told" [.ref l, stD m ps] S) fun d S1 => d = .bl true ∧ Mv S l S1 := by
  rw [cf, Ok_callF t_l_is_told rfl]
  have rows : ∀ S, callF tab pr.gl 0 (n + 7) "_law_list_rows" [stD m ps] S = .ok (.lst ((linesT m ps).map .str)) S := fun S => ok_l_list_rows libF h.ok (n := n + 5)
  have key : ∀ {S : Store} {Q : D → Store → Prop}, Ok (evE (callF tab pr.gl 0 (n + 7)) pr.gl (.comp false [3] (.bin .add (.var 3) (.con (.str (Str.ofString "\n")))) (.var 3) (.val (.call "_law_list_rows" (.cons (.var 1) .nil))) .nil) [some (.ref l), some (stD m ps), none, none, none, none] S) Q ↔ Q (.lst (((linesT m ps).map (· ++ Str.ofString "\n")).map .str)) S := fun {S Q} => by
    rw [Ok_map1 (xs := (linesT m ps).map .str) (fun x => .str (strOf x ++ Str.ofString "\n")) (by simp [rows]) (by simp) fun x k => by
      obtain ⟨s, ms, rfl⟩ := List.mem_map.mp k
      have := lines_len h.ok s ms
      have z5 : s.length + 1 ≤ 16777216 := by omega
      simp [sz, wipeE, len_n, z5, strOf]]
    have zl : ((linesT m ps).map D.str).length ≤ sizeLine := by
      rw [List.length_map, linesT, List.length_cons, List.length_map, sz]
      have := h.len
      omega
    simp only [zl, true_and, List.map_map]
    rfl
  have lt : ∀ S, callF tab pr.gl 0 (n + 7) "list_text" [stD m ps] S = .ok (.str (listT m ps)) S := fun S => ok_list_text h
  have rl : ∀ S, callF tab pr.gl 0 (n + 7) "read_list" [.str (listT m ps)] S = .ok (stD m ps) S := fun S => ok_read_list h
  have rd : ∀ S, callF tab pr.gl 0 (n + 7) "_law_read_list" [.str (listT m ps)] S = .ok (stD m ps) S := fun S => ok_l_read_list libF h (n := n + 4)
  have sm : ∀ S, callF tab pr.gl 0 (n + 7) "_law_same" [stD m ps, stD m ps] S = .ok (.bl true) S := fun S => same_stD libL h (n := n + 3)
  have es : ∀ S, eqD S (stD m ps) (stD m ps) = some true := fun S => by rw [eqD_st]; simp
  simp [-List.map_map, b_l_is_told, esOf, ssOf, key, join_list h, mtTy]
  refine (draw (n + 6) S l 3 hp (by decide) (by decide)).mono fun d S1 ⟨r, e1, r0, r1, mv⟩ => ?_
  subst e1
  have back : ∀ (S1 : Store), Mv S l S1 → Ok (callF tab pr.gl 0 (n + 7) "_law_draw" [.ref l, .int 3] S1) fun d S2 => ∃ r, d = .int r ∧ Mv S l S2 := fun S1 mv => (draw (n + 6) S1 l 3 (mv.pool hp) (by decide) (by decide)).mono fun d S2 ⟨r, e1, _, _, mv2⟩ => ⟨r, e1, mv.trans mv2⟩
  by_cases c : r = 0
  · simp [c, lt, rd, es]
    refine (back S1 mv).mono fun d S2 ⟨q, e2, mv2⟩ => ?_
    subst e2
    by_cases c2 : q = 0
    · simp [c2, rl, sm, lt, gc_mv mv2]
      exact mv2
    · simp [c2, rl, sm, lt, gc_mv mv2]
      exact mv2
  · simp [c, lt, rd, es]
    refine (back S1 mv).mono fun d S2 ⟨q, e2, mv2⟩ => ?_
    subst e2
    by_cases c2 : q = 0
    · simp [c2, rl, sm, lt, gc_mv mv2]
      exact mv2
    · simp [c2, rl, sm, lt, gc_mv mv2]
      exact mv2
theorem in_text {S : Store} {s t : Str} {a b : List Nat} (e : sg t = a ++ (sg s ++ b)) (ne : sg s ≠ []) : inD S (.str s) (.str t) = some true := by
  have h : (!(PySem.Builtin.Str.occurrences t s 0 t.length 1).isEmpty) = true := by
    rw [PySem.StrLaws.found_iff]
    have hat : PySem.StrLaws.At t s t.length a.length := (at_iff (x := t) (y := s) ne a.length).mpr (by
      show pre (sg s) ((sg t).drop a.length) = true
      rw [e, List.drop_left]; exact pre_self _ _)
    exact ⟨a.length, hat⟩
  simp only [inD]
  split
  · rename_i c hc
    have hc : sg s = [c] := hc
    have : c ∈ sg t := by rw [e, hc]; simp
    rw [decide_eq_true (show c ∈ t.cps.toList from this)]
  · rw [h]
theorem row_in {S : Store} {m : Int} {ps : List (List Int)} {p : List Int} (mp : p ∈ ps) (hp : p ≠ []) : inD S (.str (rowT p)) (.str (listT m ps)) = some true := by
  have ml : sg (lineT p) ∈ (linesT m ps).map sg := List.mem_map.mpr ⟨lineT p, List.mem_cons_of_mem _ (List.mem_map.mpr ⟨p, mp, rfl⟩), rfl⟩
  obtain ⟨l1, l2, el⟩ := List.append_of_mem ml
  refine in_text (a := ended l1 ++ sg (Str.ofString "pack ")) (b := 10 :: ended l2) ?_ ?_
  · rw [sg_listT, el, lineT_eq, sg_app]
    simp [ended]
  · rw [rowT, sg_join]
    cases p with
    | nil => exact absurd rfl hp
    | cons i p =>
      cases p with
      | nil => simp [joinL, sg_numS, numC_ne]
      | cons j p =>
        rw [List.map_cons, List.map_cons, List.map_cons, List.map_cons, joinL]
        intro q
        have := (List.append_eq_nil_iff.mp q).1
        rw [sg_numS] at this
        exact numC_ne i this
theorem listT_inj {m : Int} {ps qs : List (List Int)} (h : Good m ps) (k : Good m qs) (e : listT m ps = listT m qs) : ps = qs := by
  have h1 := readW_listT h
  rw [e, readW_listT k] at h1
  cases h1
  rfl
theorem listT_beq {m : Int} {ps qs : List (List Int)} (h : Good m ps) (k : Good m qs) : (listT m ps == listT m qs) = decide (ps = qs) := by
  by_cases c : ps = qs
  · subst c; simp
  · have : listT m ps ≠ listT m qs := fun e => c (listT_inj h k e)
    simp [c, this]
section
variable {C : Str → List D → Store → R D} {G : Str → Option D} {W : Nat} {ρ : Env} {S : Store} {Q : Fl → Store → Prop}
theorem step {s : Pyx.S} {ss : Ss} (P : Env → Store → Prop) (h : Ok (exS C G W s ρ S) fun fl S1 => ∃ ρ1, fl = .nx ρ1 ∧ P ρ1 S1) (k : ∀ ρ1 S1, P ρ1 S1 → Ok (exSs C G W ss ρ1 S1) Q) : Ok (exSs C G W (.cons s ss) ρ S) Q := by
  rw [Ok_scons]
  refine h.mono fun fl S1 ⟨ρ1, e, p⟩ => ?_
  subst e
  exact k ρ1 S1 p
end
theorem drawn_good {k : Nat} {ps : List (List Int)} (h : Drawn k 8 ps) (h1 : 1 ≤ k) (h2 : k ≤ 6) : Good (k : Int) ps := ⟨by omega, by omega, h.len, fun p mp => ⟨by rw [(h.row p mp).1], (h.row p mp).2⟩⟩
theorem good_nil {k : Nat} (h1 : 1 ≤ k) (h2 : k ≤ 6) : Good (k : Int) [] := ⟨by omega, by omega, by simp, by simp⟩
theorem good_of {m : Int} {ps qs : List (List Int)} (h : Good m ps) (l : qs.length ≤ 8) (k : ∀ q ∈ qs, q ∈ ps) : Good m qs := ⟨h.lo, h.hi, l, fun q mq => h.row q (k q mq)⟩
theorem eqD_packs {S : Store} (ps : List (List Int)) : eqD S (.tup (ps.map pD)) (.tup []) = some (decide (ps = [])) := by
  rw [eqD_tup (k := 1) (flat_pDs 0 ps) (by simp [flatIs]) (by decide)]
  have := eqs_pDs ps []
  rw [List.map_nil] at this
  rw [this]
/-- what the calls of the law's last def give -/
structure Calls (C : Str → List D → Store → R D) (l : Nat) : Prop where
  draw : ∀ (S : Store) (m : Int), Pool S l → 0 < m → m < 1073741824 → Ok (C "_law_draw" [.ref l, .int m] S) fun d S1 => ∃ r, d = .int r ∧ 0 ≤ r ∧ r < m ∧ Mv S l S1
  told : ∀ (S : Store) (m : Int) (ps : List (List Int)), Pool S l → Good m ps → Ok (C "_law_is_told" [.ref l, stD m ps] S) fun d S1 => d = .bl true ∧ Mv S l S1
  list : ∀ (S : Store) (k : Nat) (way : Int), Pool S l → 1 ≤ k → k ≤ 6 → Ok (C "_law_list" [.ref l, .int k, .int 8, .int way] S) fun e S1 => ∃ ps, e = stD k ps ∧ Drawn k 8 ps ∧ Mv S l S1
  row : ∀ (S : Store) (k : Nat), Pool S l → k ≤ 1000 → Ok (C "_law_row" [.ref l, .int k, .int 2] S) fun e S1 => ∃ p, e = pD p ∧ p.length = k ∧ Bd p ∧ Mv S l S1
  text : ∀ (m : Int) (ps : List (List Int)), Good m ps → ∀ S, C "list_text" [stD m ps] S = .ok (.str (listT m ps)) S
  rowt : ∀ p : List Int, RowOk p → p ≠ [] → ∀ S, C "row_text" [pD p] S = .ok (.str (rowT p)) S
  put : ∀ (ds : List D) (k : Nat) (e : D), k < ds.length → ds.length ≤ 1000000 → ∀ S, C "_law_put" [.tup ds, .int k, e] S = .ok (.tup (ds.set k e)) S
  read : ∀ (m : Int) (ps : List (List Int)), Good m ps → ∀ S, C "read_list" [.str (listT m ps)] S = .ok (stD m ps) S
  same : ∀ (m : Int) (ps : List (List Int)), Good m ps → ∀ S, C "_law_same" [stD m ps, stD m ps] S = .ok (.bl true) S
section
variable {C : Str → List D → Store → R D} {G : Str → Option D}
theorem ok_full {l : Nat} {S : Store} {k : Nat} {o1 o3 o4 o5 o6 o7 o8 o9 o10 o11 : Option D} (K : Calls C l) (hp : Pool S l) (hk : k ≤ 1000) :
    Ok (evE (C) G (.comp false [5] (.call "_law_row" (.cons (.var 0) (.cons (.var 2) (.cons (.con (.int 2)) .nil)))) (.var 5) (.rng (.cons (.con (.int 8)) .nil)) .nil) [some (.ref l), o1, some (.int k), o3, o4, o5, o6, o7, o8, o9, o10, o11] S) fun d S1 => ∃ qs : List (List Int), d = .lst (qs.map pD) ∧ qs.length = 8 ∧ (∀ q ∈ qs, q.length = k ∧ Bd q) ∧ Mv S l S1 := by
  have s8 : srcRng [.int 8] = some (rangeD 0 8) := srcRng_nat (m := 8) (by decide)
  generalize hR : rangeD 0 8 = R at s8
  have lR : R.length = 8 := by rw [← hR, rangeD_len]
  rw [Ok_comp]
  simp only [Ok_srng, Ok_econs, Ok_con, Ok_enil, s8, exO_some]
  refine Ok_comp_one (fun ys S1 => ∃ qs : List (List Int), ys = qs.map pD ∧ (∀ q ∈ qs, q.length = k ∧ Bd q) ∧ Mv S l S1) ⟨[], rfl, by simp, Mv.refl hp⟩ ?_ ?_
  · intro x mx ys S4 hI
    refine Exists.elim hI fun qs h => ?_
    have ey := h.1
    have hq := h.2.1
    have mv4 := h.2.2
    subst ey
    simp [wipeE]
    refine (K.row _ k (mv4.pool hp) hk).mono fun d S5 ⟨p, e5, pl, pb, mv5⟩ => ?_
    subst e5
    refine ⟨qs ++ [p], by simp, fun q mq => ?_, mv4.trans mv5⟩
    rcases List.mem_append.mp mq with mq | mq
    · exact hq q mq
    · rw [List.mem_singleton.mp mq]; exact ⟨pl, pb⟩
  · rintro ys S4 hl ⟨qs, rfl, hq, mv4⟩
    rw [lR, List.length_map] at hl
    simp [sz, hl]
    exact ⟨qs, rfl, hl, hq, mv4⟩
theorem ok_right {l : Nat} {S : Store} (K : Calls C l) (hp : Pool S l) : Ok (exSs C G 0 b_l_right (([.ref l] : List D).map some ++ List.replicate (12 - 1) none) S) (leave S fun d S1 => d = .bl true ∧ Mv S l S1) := by
  simp only [b_l_right, ssOf, List.map_cons, List.map_nil, List.cons_append, List.nil_append, List.replicate]
  refine step (fun ρ1 S1 => ∃ o1 o2 o3 o4 o5 o6 o7 o8 o9 o10 o11, ρ1 = [some (.ref l), o1, o2, o3, o4, o5, o6, o7, o8, o9, o10, o11] ∧ Mv S l S1) ?_ ?_
  · have s6 : srcRng [.int 6] = some (rangeD 0 6) := srcRng_nat (m := 6) (by decide)
    simp only [Ok_for, esOf, Ok_srng, Ok_econs, Ok_con, Ok_enil, s6, exO_some]
    refine Ok_for_inv (fun i ρ S1 => ∃ o1 o2 o3 o4 o5 o6 o7 o8 o9 o10 o11, ρ = [some (.ref l), o1, o2, o3, o4, o5, o6, o7, o8, o9, o10, o11] ∧ Mv S l S1) ⟨_, _, _, _, _, _, _, _, _, _, _, rfl, Mv.refl hp⟩ (fun _ _ _ _ _ => trivial) ?_ ?_
    · rintro i x e ρ S1 ⟨o1, o2, o3, o4, o5, o6, o7, o8, o9, o10, o11, rfl, mv⟩
      obtain ⟨j, mj, rfl⟩ := List.mem_map.mp (List.mem_of_getElem? e)
      have hj := List.mem_range.mp mj
      have hpool := mv.pool hp
      simp only [Ok_bind, Ok_tvar]
      refine ⟨by simp, ?_⟩
      simp only [List.set_cons_succ, List.set_cons_zero]
      -- many
      refine step (fun ρ1 S2 => ∃ k : Nat, 1 ≤ k ∧ k ≤ 6 ∧ ρ1 = [some (.ref l), some (.int (0 + (j : Int))), some (.int k), o3, o4, o5, o6, o7, o8, o9, o10, o11] ∧ S2 = S1) ?_ ?_
      · obtain ⟨d, ed, md⟩ := atI_nat (xs := [D.int 6, .int 1, .int 2, .int 3, .int 4, .int 5]) (i := (j : Int)) (by omega) (by simp; omega)
        simp [sz, esOf, ed]
        simp only [List.mem_cons, List.not_mem_nil, or_false] at md
        rcases md with rfl | rfl | rfl | rfl | rfl | rfl
        · exact ⟨6, by decide, by decide, rfl⟩
        · exact ⟨1, by decide, by decide, rfl⟩
        · exact ⟨2, by decide, by decide, rfl⟩
        · exact ⟨3, by decide, by decide, rfl⟩
        · exact ⟨4, by decide, by decide, rfl⟩
        · exact ⟨5, by decide, by decide, rfl⟩
      rintro ρ1 S2 ⟨k, k1, k2, rfl, rfl⟩
      generalize D.int (0 + (j : Int)) = v1
      -- stock
      refine step (fun ρ1 S2 => ∃ ps, Drawn k 8 ps ∧ ρ1 = [some (.ref l), some v1, some (.int k), some (stD k ps), o4, o5, o6, o7, o8, o9, o10, o11] ∧ Mv S l S2) ?_ ?_
      · simp [esOf]
        refine (K.draw _ 3 hpool (by decide) (by decide)).mono fun d S3 ⟨r, e1, _, _, mv3⟩ => ?_
        subst e1
        refine (K.list _ k r (mv3.pool hpool) k1 k2).mono fun d S4 ⟨ps, e4, dr, mv4⟩ => ?_
        subst e4
        exact ⟨ps, dr, rfl, mv.trans (mv3.trans mv4)⟩
      rintro ρ1 S2 ⟨ps, dr, rfl, mv2⟩
      have gd := drawn_good dr k1 k2
      -- full
      refine step (fun ρ1 S3 => ∃ qs, Good k qs ∧ ρ1 = [some (.ref l), some v1, some (.int k), some (stD k ps), some (stD k qs), o5, o6, o7, o8, o9, o10, o11] ∧ Mv S l S3) ?_ ?_
      · simp only [Ok_asg, esOf, Ok_tup, Ok_econs, Ok_var, Ok_bi, Ok_enil]
        simp
        refine (ok_full K (mv2.pool hp) (by omega)).mono fun d S4 ⟨qs, e4, hl, hq, mv4⟩ => ?_
        subst e4
        simp [sz, hl]
        exact ⟨qs, ⟨by omega, by omega, by omega, fun p mp => ⟨by rw [(hq p mp).1], (hq p mp).2⟩⟩, rfl, mv2.trans mv4⟩
      rintro ρ1 S3 ⟨qs, gq, rfl, mv3⟩
      -- told
      refine step (fun ρ1 S4 => ρ1 = [some (.ref l), some v1, some (.int k), some (stD k ps), some (stD k qs), o5, o6, o7, o8, o9, o10, o11] ∧ Mv S l S4) ?_ ?_
      · simp [esOf, ssOf]
        refine (K.told _ _ _ (mv3.pool hp) gd).mono fun d S4 ⟨e4, mv4⟩ => ?_
        subst e4
        simp
        refine (K.told _ _ _ ((mv3.trans mv4).pool hp) gq).mono fun d S5 ⟨e5, mv5⟩ => ?_
        subst e5
        simp [sz]
        refine (K.told _ _ _ ((mv3.trans (mv4.trans mv5)).pool hp) (good_nil k1 k2)).mono fun d S6 ⟨e6, mv6⟩ => ?_
        subst e6
        simp
        exact mv3.trans (mv4.trans (mv5.trans mv6))
      rintro ρ1 S4 ⟨rfl, mv4⟩
      -- row_text in list_text
      refine step (fun ρ1 S5 => ρ1 = [some (.ref l), some v1, some (.int k), some (stD k ps), some (stD k qs), o5, o6, o7, o8, o9, o10, o11] ∧ Mv S l S5) ?_ ?_
      · have lq : ∀ S, C "list_text" [stD k qs] S = .ok (.str (listT k qs)) S := K.text _ _ gq
        have key : ∀ {S : Store} {Q : D → Store → Prop}, Ok (evE (C) G (.comp false [6] (.var 6) (.var 6) (.val (.ix (.var 4) (.con (.int 1)))) (.cons (.cmp .notin (.call "row_text" (.cons (.var 6) .nil)) (.call "list_text" (.cons (.var 4) .nil))) .nil)) [some (.ref l), some v1, some (.int k), some (stD k ps), some (stD k qs), o5, o6, o7, o8, o9, o10, o11] S) Q ↔ Q (.lst []) S := fun {S Q} => by
          rw [Ok_filter1 (xs := qs.map pD) (fun _ => false) (by simp [stD, atI_1]) (by simp) fun x kx => by
            obtain ⟨q, mq, rfl⟩ := List.mem_map.mp kx
            have rt : ∀ S, C "row_text" [pD q] S = .ok (.str (rowT q)) S := K.rowt q (gq.ok.row q mq) (gq.ne q mq)
            have ri : ∀ S, inD S (.str (rowT q)) (.str (listT k qs)) = some true := fun S => row_in mq (gq.ne q mq)
            simp [wipeE, rt, lq, ri]]
          have e9 : (qs.map pD).filter (fun _ => false) = [] := List.filter_eq_nil_iff.mpr (by simp)
          rw [e9]
          simp [sz]
        simp [esOf, ssOf, key, eq_nil, sz]
        exact mv4
      rintro ρ1 S5 ⟨rfl, mv5⟩
      -- one changed
      refine step (fun ρ1 S6 => ∃ o7 o8 o9 o10, ρ1 = [some (.ref l), some v1, some (.int k), some (stD k ps), some (stD k qs), o5, o6, o7, o8, o9, o10, o11] ∧ Mv S l S6) ?_ ?_
      · have i1 : ∀ {S : Store} {Q : D → Store → Prop}, Ok (ixD (stD k ps) (.int 1) S) Q ↔ Q (.tup (ps.map pD)) S := fun {S Q} => by simp [stD, atI_1]
        have z0 : ps.length ≤ 8 := gd.len
        simp only [Ok_site, esOf, Ok_cmp, Ok_ix, Ok_var, Ok_con, Ok_tup, Ok_enil, Ok_mkT]
        by_cases c0 : ps = []
        · have e0 : ∀ S, eqD S (.tup (ps.map pD)) (.tup []) = some true := fun S => by rw [eqD_packs, decide_eq_true c0]
          simp [i1, e0, sz]
          exact mv5
        · have e0 : ∀ S, eqD S (.tup (ps.map pD)) (.tup []) = some false := fun S => by rw [eqD_packs, decide_eq_false c0]
          have pos : 0 < ps.length := List.length_pos_iff.mpr c0
          simp [-Ok_scons, i1, e0, sz, ssOf]
          -- at
          refine step (fun ρ1 S6 => ∃ a : Nat, a < ps.length ∧ ρ1 = [some (.ref l), some v1, some (.int k), some (stD k ps), some (stD k qs), o5, o6, some (.int a), o8, o9, o10, o11] ∧ Mv S l S6) ?_ ?_
          · simp [esOf, i1]
            refine (K.draw _ ps.length (mv5.pool hp) (by omega) (by omega)).mono fun d S6 ⟨r, e6, r0, r1, mv6⟩ => ?_
            subst e6
            exact ⟨r.toNat, by omega, by rw [Int.toNat_of_nonneg r0], mv5.trans mv6⟩
          rintro ρ1 S6 ⟨a, ha, rfl, mv6⟩
          have g8 : Good k (ps.take a ++ ps.drop (a + 1)) := good_of gd (by simp; omega) fun q mq => by
            rcases List.mem_append.mp mq with mq | mq
            · exact List.mem_of_mem_take mq
            · exact List.mem_of_mem_drop mq
          have g9 : Good k ps.reverse := good_of gd (by simp; omega) fun q mq => List.mem_reverse.mp mq
          refine step (fun ρ1 S7 => ρ1 = [some (.ref l), some v1, some (.int k), some (stD k ps), some (stD k qs), o5, o6, some (.int a), some (stD k (ps.take a ++ ps.drop (a + 1))), some (stD k ps.reverse), o10, o11] ∧ Mv S l S7) ?_ ?_
          · have s1 : ∀ S, slD false (.tup (ps.map pD)) none (some (a : Int)) S = .ok (.tup ((ps.take a).map pD)) S := fun S => by simp only [slD]; rw [cut_to, List.map_take]
            have s2 : ∀ S, slD false (.tup (ps.map pD)) (some ((a : Int) + 1)) none S = .ok (.tup ((ps.drop (a + 1)).map pD)) S := fun S => by
              simp only [slD]
              rw [show ((a : Int) + 1) = ((a + 1 : Nat) : Int) by omega, cut_from, List.map_drop]
            have z2 : min a ps.length + (ps.length - (a + 1)) ≤ 16777216 := by omega
            have z3 : ps.length ≤ 16777216 := by omega
            have r1 : (ps.map pD).reverse = ps.reverse.map pD := List.map_reverse.symm
            simp [-List.map_take, -List.map_drop, esOf, tgsOf, i1, asI, s1, s2, sz, z2, z3, Tgs.len]
            refine ⟨?_, mv6⟩
            simp [stD]
          rintro ρ1 S7 ⟨rfl, mv7⟩
          have l3 : ∀ S, C "list_text" [stD k ps] S = .ok (.str (listT k ps)) S := K.text _ _ gd
          refine step (fun ρ1 S8 => ρ1 = [some (.ref l), some v1, some (.int k), some (stD k ps), some (stD k qs), o5, o6, some (.int a), some (stD k (ps.take a ++ ps.drop (a + 1))), some (stD k ps.reverse), o10, o11] ∧ Mv S l S8) ?_ ?_
          · have l8 : ∀ S, C "list_text" [stD k (ps.take a ++ ps.drop (a + 1))] S = .ok (.str (listT k (ps.take a ++ ps.drop (a + 1)))) S := K.text _ _ g8
            have ne : ∀ S, eqD S (.str (listT k (ps.take a ++ ps.drop (a + 1)))) (.str (listT k ps)) = some false := fun S => by
              rw [eqD_str, listT_beq g8 gd, decide_eq_false fun e => by
                have := congrArg List.length e
                simp at this; omega]
            simp only [esOf, ssOf, Ok_site, Ok_or, Ok_not, Ok_call, Ok_econs, Ok_var, Ok_enil]
            simp [-eqD_str]
            refine (K.told _ _ _ (mv7.pool hp) g8).mono fun d S8 ⟨e8, mv8⟩ => ?_
            subst e8
            simp [-eqD_str, l8, l3, ne]
            refine (K.told _ _ _ ((mv7.trans mv8).pool hp) g9).mono fun d S9 ⟨e9, mv9⟩ => ?_
            subst e9
            simp
            exact mv7.trans (mv8.trans mv9)
          rintro ρ1 S8 ⟨rfl, mv8⟩
          have hpa : ps[a] ∈ ps := List.getElem_mem _
          have g10 : Good k (ps.set a (ps[a].map fun x => -x)) := ⟨gd.lo, gd.hi, by simp; omega, fun q mq => by
            rcases List.mem_or_eq_of_mem_set mq with mq | rfl
            · exact gd.row q mq
            · refine ⟨by rw [List.length_map]; exact (gd.row _ hpa).1, fun x mx => ?_⟩
              obtain ⟨y, my, rfl⟩ := List.mem_map.mp mx
              have := (gd.row _ hpa).2 y my
              omega⟩
          refine step (fun ρ1 S9 => ρ1 = [some (.ref l), some v1, some (.int k), some (stD k ps), some (stD k qs), o5, o6, some (.int a), some (stD k (ps.take a ++ ps.drop (a + 1))), some (stD k ps.reverse), some (stD k (ps.set a (ps[a].map fun x => -x))), o11] ∧ Mv S l S9) ?_ ?_
          · have ia : ∀ {S : Store} {Q : D → Store → Prop}, Ok (ixD (.tup (ps.map pD)) (.int (a : Int)) S) Q ↔ Q (pD ps[a]) S := fun {S Q} => by
              have h2 := ixN_nat (k := ps.length) (i := (a : Int)) (by omega) (by omega)
              have h3 : L2.atI (ps.map pD) (a : Int) = some (pD ps[a]) := by simp [L2.atI, h2, ha]
              simp [h3]
            have key : ∀ {S : Store} {Q : D → Store → Prop}, Ok (evE (C) G (.comp false [5] (.neg (.var 5)) (.var 5) (.val (.ix (.ix (.var 3) (.con (.int 1))) (.var 7))) .nil) [some (.ref l), some v1, some (.int k), some (stD k ps), some (stD k qs), o5, o6, some (.int a), some (stD k (ps.take a ++ ps.drop (a + 1))), some (stD k ps.reverse), o10, o11] S) Q ↔ Q (.lst ((ps[a].map fun x => -x).map .int)) S := fun {S Q} => by
              have rl := gd.ok.row _ hpa
              rw [Ok_map1 (xs := ps[a].map .int) (fun x => .int (-intOf x)) (by simp [i1, ia, pD]) (by simp) fun x kx => by
                obtain ⟨y, my, rfl⟩ := List.mem_map.mp kx
                simp [wipeE, intOf]]
              have zl : (ps[a].map D.int).length ≤ sizeLine := by rw [List.length_map, sz]; have := rl.len; omega
              simp only [zl, true_and, List.map_map]
              rfl
            have pt : ∀ S, C "_law_put" [.tup (ps.map pD), .int a, .tup ((ps[a].map fun x => -x).map .int)] S = .ok (.tup ((ps.set a (ps[a].map fun x => -x)).map pD)) S := fun S => by
              rw [K.put _ _ _ (by rw [List.length_map]; exact ha) (by rw [List.length_map]; omega), List.map_set]; rfl
            simp [-List.map_map, esOf, i1, key, pt, sz]
            exact ⟨by simp [stD], mv8⟩
          rintro ρ1 S9 ⟨rfl, mv9⟩
          refine step (fun ρ1 S9 => ∃ o7 o8 o9 o10, ρ1 = [some (.ref l), some v1, some (.int k), some (stD k ps), some (stD k qs), o5, o6, o7, o8, o9, o10, o11] ∧ Mv S l S9) ?_ ?_
          · have l10 : ∀ S, C "list_text" [stD k (ps.set a (ps[a].map fun x => -x))] S = .ok (.str (listT k (ps.set a (ps[a].map fun x => -x)))) S := K.text _ _ g10
            have e1 : ∀ S, eqD S (.str (listT k (ps.set a (ps[a].map fun x => -x)))) (.str (listT k ps)) = some (decide (ps.set a (ps[a].map fun x => -x) = ps)) := fun S => by
              rw [eqD_str, listT_beq g10 gd]
            have e2 : ∀ S, eqD S (stD k (ps.set a (ps[a].map fun x => -x))) (stD k ps) = some (decide (ps.set a (ps[a].map fun x => -x) = ps)) := fun S => by
              rw [eqD_st]; simp
            simp only [esOf, ssOf, Ok_site, Ok_or, Ok_not, Ok_call, Ok_econs, Ok_var, Ok_enil]
            simp [-eqD_str]
            refine (K.told _ _ _ (mv9.pool hp) g10).mono fun d S10 ⟨e10, mv10⟩ => ?_
            subst e10
            simp [-eqD_str, l10, l3, e1, e2]
            by_cases cc : ps.set a (ps[a].map fun x => -x) = ps
            · exact .inr ⟨cc, mv9.trans mv10⟩
            · exact .inl ⟨cc, mv9.trans mv10⟩
          rintro ρ1 S10 ⟨p7, p8, p9, p10, rfl, mv10⟩
          simp
          exact mv10
      rintro ρ1 S6 ⟨p7, p8, p9, p10, rfl, mv6⟩
      simp
      exact mv6
    · rintro ρ S1 ⟨o1, o2, o3, o4, o5, o6, o7, o8, o9, o10, o11, rfl, mv⟩
      exact ⟨_, rfl, _, _, _, _, _, _, _, _, _, _, _, rfl, mv⟩
  · rintro ρ S1 ⟨o1, o2, o3, o4, o5, o6, o7, o8, o9, o10, o11, rfl, mv⟩
    have g2 : Good 2 [[2, 0], [-1, 3], [2, 0], [0, 0]] := ⟨by decide, by decide, by decide, by simp only [Bd]; decide⟩
    have g1 : Good 1 [[-9999], [9999]] := ⟨by decide, by decide, by decide, by simp only [Bd]; decide⟩
    have e2 : listT 2 [[2, 0], [-1, 3], [2, 0], [0, 0]] = Str.ofString "goods 2\npack 2 0\npack -1 3\npack 2 0\npack 0 0\n" := by decide +kernel
    have e1 : listT 1 [[-9999], [9999]] = Str.ofString "goods 1\npack -9999\npack 9999\n" := by decide +kernel
    have t2 := K.text _ _ g2
    have t1 := K.read _ _ g1
    have s1 := K.same _ _ g1
    rw [e2] at t2
    rw [e1] at t1
    simp only [stD, pD, List.map_cons, List.map_nil] at t2 t1 s1
    have q2 : ∀ (S : Store) (s : Str), eqD S (.str s) (.str s) = some true := fun S s => by simp
    simp [-eqD_str, esOf, sz, t2, t1, s1, q2, gc_mv mv]
    exact mv
end
theorem row_of {T : Str → Option Df} {G : Str → Option D} {W : Nat} (Dr : DrawOk T G W) (L : LibL T G) (N : LibN T G) (n l : Nat) : ∀ (S : Store) (k : Nat), Pool S l → k ≤ 1000 → Ok (callF T G W (n + 8) "_law_row" [.ref l, .int k, .int 2] S) fun e S1 => ∃ p, e = pD p ∧ p.length = k ∧ Bd p ∧ Mv S l S1 :=
  fun S k hp hk => ok_row Dr L N (n := n + 4) (way := 2) (m := k) hp (by omega)
theorem calls (n l : Nat) : Calls (callF tab pr.gl 0 (n + 8)) l where
  draw := fun S m hp h0 h1 => K81.draw (n + 7) S l m hp h0 h1
  told := fun S m ps hp g => ok_told (n := n) hp g
  list := fun S k way hp k1 k2 => ok_list K81.draw libL libN (n := n + 3) (way := way) (m := k) (k := 8) hp k1 (by omega) (by decide)
  row := @row_of tab pr.gl 0 K81.draw libL libN n l
  text := fun m ps g S => ok_list_text g (n := n + 1)
  rowt := fun p h hp S => ok_row_text h hp (n := n + 1)
  put := fun ds k e h hz S => ok_put libP h hz (n := n + 7)
  read := fun m ps g S => ok_read_list g (n := n + 1)
  same := fun m ps g S => same_stD libL g (n := n + 4)
theorem right_ok {n l : Nat} {S : Store} (hp : Pool S l) : Ok (callF tab pr.gl 0 (n + 9) "_law_right" [.ref l] S) fun d S1 => d = .bl true ∧ Mv S l S1 := by
  rw [Ok_callF t_l_right rfl]
  exact ok_right (calls n l) hp
section
variable {C : Str → List D → Store → R D} {G : Str → Option D}
theorem ok_law {ns : List Int} (hn : ns.length ≤ 63) (hp : ∀ (S : Store) (t : Int), 0 ≤ t → t < 3 → Ok (C "_law_pool" [.fz (ns.map .int), .int t] S) fun d S1 => d = .ref S.length ∧ Pool S1 S.length)
    (hr : ∀ S l, Pool S l → Ok (C "_law_right" [.ref l] S) fun d S1 => d = .bl true ∧ Mv S l S1) :
    Ok (exSs C G 0 b_law (([.fz (ns.map .int)] : List D).map some ++ List.replicate (2 - 1) none) []) (leave [] fun d _ => d = .bl true) := by
  simp only [b_law, ssOf, List.map_cons, List.map_nil, List.cons_append, List.nil_append, List.replicate]
  have bm : ∀ (a b : Int) (S : Store), biD .max false [.int a, .int b] S = .ok (.int (if b > a then b else a)) S := fun a b S => rfl
  have bn : ∀ (a b : Int) (S : Store), biD .min false [.int a, .int b] S = .ok (.int (if b < a then b else a)) S := fun a b S => rfl
  have fr : ∀ t : Nat, t ≤ 3 → srcRng [.int (t : Int)] = some (rangeD 0 t) := fun t ht => srcRng_nat (by omega)
  obtain ⟨t, ht, et⟩ : ∃ t : Nat, t ≤ 3 ∧ (if 2 < if (3 : Int) < ns.length then 3 else (ns.length : Int) then if (3 : Int) < ns.length then 3 else (ns.length : Int) else 2) = (t : Int) := by
    by_cases c1 : (3 : Int) < ns.length
    · exact ⟨3, by omega, by simp [c1]⟩
    · by_cases c2 : (2 : Int) < ns.length
      · exact ⟨ns.length, by omega, by simp [c1, c2]⟩
      · exact ⟨2, by omega, by simp [c1, c2]⟩
  refine step (fun ρ1 S1 => True) ?_ (fun ρ1 S1 _ => by
    have g : ∀ S1, gc [] (.bl true) S1 = .ok (.bl true) (S1.take 0) ∨ gc [] (.bl true) S1 = .ok (.bl true) S1 := fun S1 => by
      unfold gc
      split
      · exact .inl rfl
      · exact .inr rfl
    simp
    rcases g S1 with e | e <;> rw [e] <;> rfl)
  simp only [Ok_for, esOf, Ok_srng, Ok_econs, Ok_bi, Ok_var, Ok_con, Ok_enil]
  simp [bm, bn]
  rw [et, fr t ht]
  simp only [exO_some]
  refine Ok_for_inv (fun i ρ S1 => ∃ o, ρ = [some (.fz (ns.map .int)), o]) ⟨none, rfl⟩ (fun _ _ _ _ _ => trivial) ?_ ?_
  · rintro i x e ρ S1 ⟨o, rfl⟩
    obtain ⟨j, mj, rfl⟩ := List.mem_map.mp (List.mem_of_getElem? e)
    have hj := List.mem_range.mp mj
    simp
    refine (hp S1 (j : Int) (by omega) (by omega)).mono fun d S2 ⟨e1, p1⟩ => ?_
    subst e1
    refine (hr S2 _ p1).mono fun d S3 ⟨e2, mv⟩ => ?_
    subst e2
    simp
  · rintro ρ S1 ⟨o, rfl⟩
    exact ⟨_, rfl⟩
end
theorem law_true (ns : List Int) (hl : ns.length ≤ 63) : ∃ S, callF tab pr.gl 0 60 "law" [.fz (ns.map .int)] [] = .ok (.bl true) S := by
  have h : Ok (callF tab pr.gl 0 60 "law" [.fz (ns.map .int)] []) fun d _ => d = .bl true := by
    rw [Ok_callF t_law rfl]
    exact ok_law hl (fun S t t0 t1 => ok_pool 58 ns hl S t0 t1) fun S l hp => right_ok (n := 50) hp
  obtain ⟨a, S1, e, rfl⟩ := h.get
  exact ⟨S1, e⟩
end Pyx.K81
end
section
open PySem PySem.W PyProof.Rows in
set_option maxRecDepth 100000 in
set_option maxHeartbeats 0 in
theorem PySem.Challenge.cw_packtags_k81_whole_texts_of_lists_holds : PySem.Challenge.rw_packtags_k81_whole_texts_of_lists.Holds := by
  w_on; o_law; k_head; (case hw => w_witness2)
  k_fill
  refine Pyx.walk (l := PySem.Challenge.rw_packtags_k81_whole_texts_of_lists) (P := Pyx.K81.pr) (T := Pyx.K81.tab) (W := 0) (m := 60) (f := "law") (x := "script") rfl rfl ⟨by decide, by decide, by decide⟩ (fun w h Y => PySem.W.kIn_of Y) rfl rfl ?F (fun ns hl => Pyx.K81.law_true ns hl)
  case F =>
    intro w mg h X G
    refine' Pyx.Prog.of (k := 60) X G Pyx.K81.pr Pyx.K81.pr_eq Pyx.K81.scopes Pyx.K81.texts ?sh ?hb ?hg
    (case sh =>
      intro r m
      rcases List.mem_cons.mp m with rfl | m
      · refine' Pyx.Shown.mk' X G (fun _ _ _ _ _ _ us hl => match us, hl with | [_], _ => rfl) ?kb ?a ?l ?c ?k
        (case kb =>
          intro kV doc pm an cdv ct p m pl e
          cases m)
        (case a => k_is)
        (case l => k_is)
        (case c => k_is)
        (case k => k_is)
      rcases List.mem_cons.mp m with rfl | m
      · refine' Pyx.Shown.mk' X G (fun _ _ _ _ _ _ us hl => match us, hl with | [_, _, _], _ => rfl) ?kb ?a ?l ?c ?k
        (case kb =>
          intro kV doc pm an cdv ct p m pl e
          cases m)
        (case a => k_is)
        (case l => k_is)
        (case c => k_is)
        (case k => k_is)
      rcases List.mem_cons.mp m with rfl | m
      · refine' Pyx.Shown.mk' X G (fun _ _ _ _ _ _ us hl => match us, hl with | [_, _], _ => rfl) ?kb ?a ?l ?c ?k
        (case kb =>
          intro kV doc pm an cdv ct p m pl e
          cases m)
        (case a => k_is)
        (case l => k_is)
        (case c => k_is)
        (case k => k_is)
      rcases List.mem_cons.mp m with rfl | m
      · refine' Pyx.Shown.mk' X G (fun _ _ _ _ _ _ us hl => match us, hl with | [_, _], _ => rfl) ?kb ?a ?l ?c ?k
        (case kb =>
          intro kV doc pm an cdv ct p m pl e
          cases m)
        (case a => k_is)
        (case l => k_is)
        (case c => k_is)
        (case k => k_is)
      rcases List.mem_cons.mp m with rfl | m
      · refine' Pyx.Shown.mk' X G (fun _ _ _ _ _ _ us hl => match us, hl with | [_, _, _, _], _ => rfl) ?kb ?a ?l ?c ?k
        (case kb =>
          intro kV doc pm an cdv ct p m pl e
          cases m)
        (case a => k_is)
        (case l => k_is)
        (case c => k_is)
        (case k => k_is)
      rcases List.mem_cons.mp m with rfl | m
      · refine' Pyx.Shown.mk' X G (fun _ _ _ _ _ _ us hl => match us, hl with | [_, _], _ => rfl) ?kb ?a ?l ?c ?k
        (case kb =>
          intro kV doc pm an cdv ct p m pl e
          cases m)
        (case a => k_is)
        (case l => k_is)
        (case c => k_is)
        (case k => k_is)
      rcases List.mem_cons.mp m with rfl | m
      · refine' Pyx.Shown.mk' X G (fun _ _ _ _ _ _ us hl => match us, hl with | [_], _ => rfl) ?kb ?a ?l ?c ?k
        (case kb =>
          intro kV doc pm an cdv ct p m pl e
          cases m)
        (case a => k_is)
        (case l => k_is)
        (case c => k_is)
        (case k => k_is)
      rcases List.mem_cons.mp m with rfl | m
      · refine' Pyx.Shown.mk' X G (fun _ _ _ _ _ _ us hl => match us, hl with | [_], _ => rfl) ?kb ?a ?l ?c ?k
        (case kb =>
          intro kV doc pm an cdv ct p m pl e
          cases m)
        (case a => k_is)
        (case l => k_is)
        (case c => k_is)
        (case k => k_is)
      rcases List.mem_cons.mp m with rfl | m
      · refine' Pyx.Shown.mk' X G (fun _ _ _ _ _ _ us hl => match us, hl with | [_], _ => rfl) ?kb ?a ?l ?c ?k
        (case kb =>
          intro kV doc pm an cdv ct p m pl e
          cases m)
        (case a => k_is)
        (case l => k_is)
        (case c => k_is)
        (case k => k_is)
      rcases List.mem_cons.mp m with rfl | m
      · refine' Pyx.Shown.mk' X G (fun _ _ _ _ _ _ us hl => match us, hl with | [_], _ => rfl) ?kb ?a ?l ?c ?k
        (case kb =>
          intro kV doc pm an cdv ct p m pl e
          cases m)
        (case a => k_is)
        (case l => k_is)
        (case c => k_is)
        (case k => k_is)
      rcases List.mem_cons.mp m with rfl | m
      · refine' Pyx.Shown.mk' X G (fun _ _ _ _ _ _ us hl => match us, hl with | [_], _ => rfl) ?kb ?a ?l ?c ?k
        (case kb =>
          intro kV doc pm an cdv ct p m pl e
          cases m)
        (case a => k_is)
        (case l => k_is)
        (case c => k_is)
        (case k => k_is)
      rcases List.mem_cons.mp m with rfl | m
      · refine' Pyx.Shown.mk' X G (fun _ _ _ _ _ _ us hl => match us, hl with | [_], _ => rfl) ?kb ?a ?l ?c ?k
        (case kb =>
          intro kV doc pm an cdv ct p m pl e
          cases m)
        (case a => k_is)
        (case l => k_is)
        (case c => k_is)
        (case k => k_is)
      rcases List.mem_cons.mp m with rfl | m
      · refine' Pyx.Shown.mk' X G (fun _ _ _ _ _ _ us hl => match us, hl with | [_], _ => rfl) ?kb ?a ?l ?c ?k
        (case kb =>
          intro kV doc pm an cdv ct p m pl e
          cases m)
        (case a => k_is)
        (case l => k_is)
        (case c => k_is)
        (case k => k_is)
      rcases List.mem_cons.mp m with rfl | m
      · refine' Pyx.Shown.mk' X G (fun _ _ _ _ _ _ us hl => match us, hl with | [_, _], _ => rfl) ?kb ?a ?l ?c ?k
        (case kb =>
          intro kV doc pm an cdv ct p m pl e
          cases m)
        (case a => k_is)
        (case l => k_is)
        (case c => k_is)
        (case k => k_is)
      rcases List.mem_cons.mp m with rfl | m
      · refine' Pyx.Shown.mk' X G (fun _ _ _ _ _ _ us hl => match us, hl with | [_], _ => rfl) ?kb ?a ?l ?c ?k
        (case kb =>
          intro kV doc pm an cdv ct p m pl e
          cases m)
        (case a => k_is)
        (case l => k_is)
        (case c => k_is)
        (case k => k_is)
      rcases List.mem_cons.mp m with rfl | m
      · refine' Pyx.Shown.mk' X G (fun _ _ _ _ _ _ us hl => match us, hl with | [_], _ => rfl) ?kb ?a ?l ?c ?k
        (case kb =>
          intro kV doc pm an cdv ct p m pl e
          cases m)
        (case a => k_is)
        (case l => k_is)
        (case c => k_is)
        (case k => k_is)
      rcases List.mem_cons.mp m with rfl | m
      · refine' Pyx.Shown.mk' X G (fun _ _ _ _ _ _ us hl => match us, hl with | [_], _ => rfl) ?kb ?a ?l ?c ?k
        (case kb =>
          intro kV doc pm an cdv ct p m pl e
          cases m)
        (case a => k_is)
        (case l => k_is)
        (case c => k_is)
        (case k => k_is)
      rcases List.mem_cons.mp m with rfl | m
      · refine' Pyx.Shown.mk' X G (fun _ _ _ _ _ _ us hl => match us, hl with | [_], _ => rfl) ?kb ?a ?l ?c ?k
        (case kb =>
          intro kV doc pm an cdv ct p m pl e
          rcases List.mem_cons.mp m with rfl | m
          · (cases e; exact fun us ws h1 h2 => match us, ws, h1, h2 with | [], [_], _, _ => rfl)
          cases m)
        (case a => k_is)
        (case l => k_is)
        (case c => k_is)
        (case k => k_is)
      rcases List.mem_cons.mp m with rfl | m
      · refine' Pyx.Shown.mk' X G (fun _ _ _ _ _ _ us hl => match us, hl with | [_], _ => rfl) ?kb ?a ?l ?c ?k
        (case kb =>
          intro kV doc pm an cdv ct p m pl e
          rcases List.mem_cons.mp m with rfl | m
          · (cases e; exact fun us ws h1 h2 => match us, ws, h1, h2 with | [], [_], _, _ => rfl)
          cases m)
        (case a => k_is)
        (case l => k_is)
        (case c => k_is)
        (case k => k_is)
      rcases List.mem_cons.mp m with rfl | m
      · refine' Pyx.Shown.mk' X G (fun _ _ _ _ _ _ us hl => match us, hl with | [_, _], _ => rfl) ?kb ?a ?l ?c ?k
        (case kb =>
          intro kV doc pm an cdv ct p m pl e
          cases m)
        (case a => k_is)
        (case l => k_is)
        (case c => k_is)
        (case k => k_is)
      rcases List.mem_cons.mp m with rfl | m
      · refine' Pyx.Shown.mk' X G (fun _ _ _ _ _ _ us hl => match us, hl with | [_, _], _ => rfl) ?kb ?a ?l ?c ?k
        (case kb =>
          intro kV doc pm an cdv ct p m pl e
          cases m)
        (case a => k_is)
        (case l => k_is)
        (case c => k_is)
        (case k => k_is)
      rcases List.mem_cons.mp m with rfl | m
      · refine' Pyx.Shown.mk' X G (fun _ _ _ _ _ _ us hl => match us, hl with | [_, _], _ => rfl) ?kb ?a ?l ?c ?k
        (case kb =>
          intro kV doc pm an cdv ct p m pl e
          cases m)
        (case a => k_is)
        (case l => k_is)
        (case c => k_is)
        (case k => k_is)
      rcases List.mem_cons.mp m with rfl | m
      · refine' Pyx.Shown.mk' X G (fun _ _ _ _ _ _ us hl => match us, hl with | [_, _], _ => rfl) ?kb ?a ?l ?c ?k
        (case kb =>
          intro kV doc pm an cdv ct p m pl e
          cases m)
        (case a => k_is)
        (case l => k_is)
        (case c => k_is)
        (case k => k_is)
      rcases List.mem_cons.mp m with rfl | m
      · refine' Pyx.Shown.mk' X G (fun _ _ _ _ _ _ us hl => match us, hl with | [_, _, _], _ => rfl) ?kb ?a ?l ?c ?k
        (case kb =>
          intro kV doc pm an cdv ct p m pl e
          cases m)
        (case a => k_is)
        (case l => k_is)
        (case c => k_is)
        (case k => k_is)
      rcases List.mem_cons.mp m with rfl | m
      · refine' Pyx.Shown.mk' X G (fun _ _ _ _ _ _ us hl => match us, hl with | [_, _], _ => rfl) ?kb ?a ?l ?c ?k
        (case kb =>
          intro kV doc pm an cdv ct p m pl e
          cases m)
        (case a => k_is)
        (case l => k_is)
        (case c => k_is)
        (case k => k_is)
      rcases List.mem_cons.mp m with rfl | m
      · refine' Pyx.Shown.mk' X G (fun _ _ _ _ _ _ us hl => match us, hl with | [_, _, _], _ => rfl) ?kb ?a ?l ?c ?k
        (case kb =>
          intro kV doc pm an cdv ct p m pl e
          cases m)
        (case a => k_is)
        (case l => k_is)
        (case c => k_is)
        (case k => k_is)
      rcases List.mem_cons.mp m with rfl | m
      · refine' Pyx.Shown.mk' X G (fun _ _ _ _ _ _ us hl => match us, hl with | [_, _, _, _], _ => rfl) ?kb ?a ?l ?c ?k
        (case kb =>
          intro kV doc pm an cdv ct p m pl e
          cases m)
        (case a => k_is)
        (case l => k_is)
        (case c => k_is)
        (case k => k_is)
      rcases List.mem_cons.mp m with rfl | m
      · refine' Pyx.Shown.mk' X G (fun _ _ _ _ _ _ us hl => match us, hl with | [_], _ => rfl) ?kb ?a ?l ?c ?k
        (case kb =>
          intro kV doc pm an cdv ct p m pl e
          cases m)
        (case a => k_is)
        (case l => k_is)
        (case c => k_is)
        (case k => k_is)
      rcases List.mem_cons.mp m with rfl | m
      · refine' Pyx.Shown.mk' X G (fun _ _ _ _ _ _ us hl => match us, hl with | [_], _ => rfl) ?kb ?a ?l ?c ?k
        (case kb =>
          intro kV doc pm an cdv ct p m pl e
          cases m)
        (case a => k_is)
        (case l => k_is)
        (case c => k_is)
        (case k => k_is)
      rcases List.mem_cons.mp m with rfl | m
      · refine' Pyx.Shown.mk' X G (fun _ _ _ _ _ _ us hl => match us, hl with | [_, _], _ => rfl) ?kb ?a ?l ?c ?k
        (case kb =>
          intro kV doc pm an cdv ct p m pl e
          cases m)
        (case a => k_is)
        (case l => k_is)
        (case c => k_is)
        (case k => k_is)
      rcases List.mem_cons.mp m with rfl | m
      · refine' Pyx.Shown.mk' X G (fun _ _ _ _ _ _ us hl => match us, hl with | [_], _ => rfl) ?kb ?a ?l ?c ?k
        (case kb =>
          intro kV doc pm an cdv ct p m pl e
          cases m)
        (case a => k_is)
        (case l => k_is)
        (case c => k_is)
        (case k => k_is)
      rcases List.mem_cons.mp m with rfl | m
      · refine' Pyx.Shown.mk' X G (fun _ _ _ _ _ _ us hl => match us, hl with | [_], _ => rfl) ?kb ?a ?l ?c ?k
        (case kb =>
          intro kV doc pm an cdv ct p m pl e
          cases m)
        (case a => k_is)
        (case l => k_is)
        (case c => k_is)
        (case k => k_is)
      rcases List.mem_cons.mp m with rfl | m
      · refine' Pyx.Shown.mk' X G (fun _ _ _ _ _ _ us hl => match us, hl with | [_, _], _ => rfl) ?kb ?a ?l ?c ?k
        (case kb =>
          intro kV doc pm an cdv ct p m pl e
          cases m)
        (case a => k_is)
        (case l => k_is)
        (case c => k_is)
        (case k => k_is)
      rcases List.mem_cons.mp m with rfl | m
      · refine' Pyx.Shown.mk' X G (fun _ _ _ _ _ _ us hl => match us, hl with | [_], _ => rfl) ?kb ?a ?l ?c ?k
        (case kb =>
          intro kV doc pm an cdv ct p m pl e
          cases m)
        (case a => k_is)
        (case l => k_is)
        (case c => k_is)
        (case k => k_is)
      rcases List.mem_cons.mp m with rfl | m
      · refine' Pyx.Shown.mk' X G (fun _ _ _ _ _ _ us hl => match us, hl with | [_], _ => rfl) ?kb ?a ?l ?c ?k
        (case kb =>
          intro kV doc pm an cdv ct p m pl e
          cases m)
        (case a => k_is)
        (case l => k_is)
        (case c => k_is)
        (case k => k_is)
      cases m)
    (case hb =>
      intro x m
      rcases List.mem_cons.mp m with rfl | m
      · k_is
      rcases List.mem_cons.mp m with rfl | m
      · k_is
      rcases List.mem_cons.mp m with rfl | m
      · k_is
      rcases List.mem_cons.mp m with rfl | m
      · k_is
      rcases List.mem_cons.mp m with rfl | m
      · k_is
      rcases List.mem_cons.mp m with rfl | m
      · k_is
      rcases List.mem_cons.mp m with rfl | m
      · k_is
      rcases List.mem_cons.mp m with rfl | m
      · k_is
      rcases List.mem_cons.mp m with rfl | m
      · k_is
      rcases List.mem_cons.mp m with rfl | m
      · k_is
      rcases List.mem_cons.mp m with rfl | m
      · k_is
      rcases List.mem_cons.mp m with rfl | m
      · k_is
      rcases List.mem_cons.mp m with rfl | m
      · k_is
      cases m)
    (case hg =>
      intro p m
      rcases List.mem_cons.mp m with rfl | m
      · refine' Pyx.con_int ?a
        (case a => k_is)
      rcases List.mem_cons.mp m with rfl | m
      · refine' Pyx.con_int ?a
        (case a => k_is)
      rcases List.mem_cons.mp m with rfl | m
      · refine' Pyx.con_int ?a
        (case a => k_is)
      rcases List.mem_cons.mp m with rfl | m
      · refine' Pyx.con_int ?a
        (case a => k_is)
      rcases List.mem_cons.mp m with rfl | m
      · refine' Pyx.con_int ?a
        (case a => k_is)
      rcases List.mem_cons.mp m with rfl | m
      · refine' Pyx.con_str ?a (by decide)
        (case a => k_is)
      rcases List.mem_cons.mp m with rfl | m
      · refine' Pyx.con_str ?a (by decide)
        (case a => k_is)
      rcases List.mem_cons.mp m with rfl | m
      · refine' Pyx.con_str ?a (by decide)
        (case a => k_is)
      rcases List.mem_cons.mp m with rfl | m
      · refine' Pyx.con_str ?a (by decide)
        (case a => k_is)
      rcases List.mem_cons.mp m with rfl | m
      · refine' Pyx.con_str ?a (by decide)
        (case a => k_is)
      rcases List.mem_cons.mp m with rfl | m
      · refine' Pyx.con_str ?a (by decide)
        (case a => k_is)
      cases m)
end
