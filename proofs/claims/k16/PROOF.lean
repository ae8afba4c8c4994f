import PyProof.Rows.All
import Wide.All
import OpenK.AllK
import Wide.FinOn
import KE.KStateDown
import HandS.Head2
import HandS.HeadEnd
import HandS.HeadHook4
import HandS.HeadWalk
import KE.KOpsOwn
import HandS.Iter
import HandS.Style
import HandS.SortInts
import HandS.Dict
import KE.KExcSuper
import PyProof.RowDictHeap
import HandS.ForMost
import HandS.ForExc
import HandS.Lambda
import HandS.Star
import HandS.ClsMeth
import HandS.Property
import HandS.OwnEq
import HandS.Wide
import HandS.Flow
import HandS.TryMany
import HandS.ExcInit
import HandS.ExcField
import HandS.IsInst
import HandS.Zip
import HandS.CallSlots
import PyProof.NeKinds
import HandS.TupAny
import HandS.RaiseMore
import KE.KCallOwn
import PyProof.WalksMore
import PyProof.ReprRoads
import HandS.Comp
import PySem.Challenge.RW_everyfits_k16_whole_needs_fall_and_scale
set_option linter.all false
set_option Elab.async false
/-! BV0: data by value, the store, the small language and what it does. -/
namespace BV
open PySem

inductive D where
  | non | bl (b : Bool) | int (i : Int) | str (x : Str)
  | tup (l : List D) | lst (l : List D) | dic (ks vs : List D)
  | ins (c : Nat) (ds : List D)
  | fn (f : Nat) | cls (c : Nat) | ty (t : String)
  | scr (l : List D)
  deriving Inhabited

inductive Val where
  | d (x : D) | ref (n : Nat) | exn (c : Nat) (ds : List D) | lam
  deriving Inhabited

inductive Cell where
  | lst (xs : List Val) | ins (c : Nat) (vs : List Val)
  deriving Inhabited

abbrev Store := List (Option Cell)

/-- an outcome: a value and the store, an error of an own class, or no word -/
inductive R (a : Type) where
  | ok (x : a) (M : Store) | ex (c : Nat) (ds : List D) (M : Store) | no

@[simp] def R.bind {a b : Type} : R a → (a → Store → R b) → R b
  | .ok x M, f => f x M
  | .ex c ds M, _ => .ex c ds M
  | .no, _ => .no

/-- only if its value is such a one -/
def R.chk {a : Type} (p : a → Bool) : R a → R a
  | .ok v M => if p v then .ok v M else .no
  | .ex c ds M => .ex c ds M
  | .no => .no
@[simp] theorem R.chk_ok {a : Type} (p : a → Bool) (v : a) (M : Store) : R.chk p (.ok v M) = if p v then .ok v M else .no := rfl
@[simp] theorem R.chk_ex {a : Type} (p : a → Bool) (c : Nat) (ds : List D) (M : Store) : R.chk p (.ex c ds M) = .ex c ds M := rfl
/-- only if it raises nothing -/
def R.calm {a : Type} : R a → R a
  | .ok v M => .ok v M
  | .ex _ _ _ => .no
  | .no => .no
@[simp] theorem R.calm_ok {a : Type} (v : a) (M : Store) : R.calm (.ok v M) = .ok v M := rfl
@[simp] def lenV : Val → Bool
  | .d (.int i) => decide (0 ≤ i) && decide (i < 9223372036854775808)
  | _ => false
@[simp] def strV : Val → Bool
  | .d (.str _) => true
  | _ => false
@[simp] def blV : Val → Bool
  | .d (.bl _) => true
  | _ => false

/-- operations of one and of two values -/
inductive K1 where
  | neg | at (m : Nat) | atx (m : Nat) | fz | rev (mt : Bool)
inductive K2 where
  | add | addm | sub | mul | mulm | fdiv | mod | pow | band | bor
  | eq | ne | lt | le | gt | ge | isn | notn | inn | nin | get | isb | notb
  deriving DecidableEq
/-- built-in functions and types that are called -/
inductive BI where
  | len | sum | min | max | abs | int | str | bool | list | listm | tuple | all | any | isi (ts : List Nat) (os : List String) | repr | sorted | sortedm
/-- displays -/
inductive KD where
  | tup | lst | mut
/-- methods of built-in types -/
inductive KM where
  | append | pop | extend | join | split | splitm

mutual
inductive E where
  | v (i : Nat) | c (d : D)
  | o1 (k : K1) (a : E) | o2 (k : K2) (a b : E)
  | andV (a b : E) | orV (a b : E) | tst (t : Te) | ite (t : Te) (a b : E)
  | chain (k l : K2) (a b c : E)
  | dsp (k : KD) (as : As)
  | call (f : Nat) (as : As) | mk (c : Nat) (as : As) | bi (k : BI) (as : As)
  | me (m : Nat) (a : E) (as : As) | bm (k : KM) (a : E) (as : As)
  | mkv (a : E) (as : As) | meP (m : Nat) (a : E) (as : As) (pm : List Nat) | mkP (c : Nat) (as : As) (pm : List Nat) | callP (f : Nat) (as : As) (pm : List Nat)
  | sl (mt : Bool) (a : E) (lo hi : Eo)
  | cp (mt : Bool) (it : It) (tg : List Nat) (ifs : Tes) (e : E)
  | hear (g : Nat) (e : E) | ask | dct (ks : List D) (as : As)
inductive Eo where
  | none | some (e : E)
inductive As where
  | nil | cons (e : E) (r : As) | star (e : E) (r : As)
inductive Te where
  | tr (e : E) | and (a b : Te) | or (a b : Te) | not (a : Te)
inductive Tes where
  | nil | cons (t : Te) (r : Tes)
inductive It where
  | e (e : E) | rng (as : As) | zip (a b : E) | enum (a : E) (k : Int)
end

/-- a target: a name, a place of a list -/
inductive Tg1 where
  | nm (i : Nat) | sub (a i : E)

mutual
inductive Sm where
  | asg (i : Nat) (e : E) | asgs (is : List Nat) (e : E)
  | par (is : List Nat) (as : As)
  | fld (a : E) (m : Nat) (e : E) | sub (a i e : E)
  | aug (i : Nat) (k : K2) (e : E) | augF (a : E) (m : Nat) (k : K2) (e : E)
  | ex (e : E) | ret (e : E)
  | ifs (t : Te) (a b : Ss) | whl (fuel : Nat) (t : Te) (b : Ss) | for (tg : List Nat) (it : It) (b : Ss)
  | raise (c : Nat) (as : As) | try (b : Ss) (hs : Hs)
  | brk | cont | pass | sto (ts : List Tg1) (as : As)
inductive Ss where
  | nil | cons (s : Sm) (r : Ss)
inductive Hs where
  | nil | cons (c : Nat) (i : Option Nat) (b : Ss) (r : Hs)
end

/-- a def: parameters (the star one is the last), defaults of the last ones, whether it runs on a store of its own, slots, body -/
structure FnI where
  np : Nat
  star : Bool
  dfl : List D
  pur : Bool
  ns : Nat
  body : Ss
  /-- it is handed a lambda -/
  hr : Bool := false

/-- the program's tables -/
structure Pg where
  fn : Nat → Option FnI
  /-- methods, by class and name, that are found on an instance -/
  meth : Nat → Nat → Option Nat
  /-- class methods, static methods -/
  cmeth : Nat → Nat → Option Nat
  smeth : Nat → Nat → Option Nat
  prop : Nat → Nat → Option Nat
  ccon : Nat → Nat → Option D
  /-- the place of a field -/
  fld : Nat → Nat → Option Nat
  /-- .. of an error class -/
  xfl : Nat → Nat → Option Nat
  /-- the class is the other one or below it -/
  sub : Nat → Nat → Bool
  /-- a class with ordinary instances; whether they never change once they are made -/
  frz : Nat → Option Bool
  /-- the class's own __init__ -/
  ini : Nat → Option Nat
  /-- error classes: how many fields -/
  exc : Nat → Option Nat

abbrev Env := List (Option Val)
abbrev Asker := Option (Store → R Val)
abbrev Caller := Nat → Asker → List Val → Store → R Val

/-! ### numbers of names with a meaning of their own -/
def K2.dn : K2 → Nat
  | .add => 1 | .addm => 1 | .sub => 2 | .mul => 3 | .mulm => 3 | .fdiv => 4 | .mod => 5 | .band => 6 | .bor => 7
  | .eq => 8 | .lt => 9 | .le => 10 | .gt => 11 | .ge => 12 | .ne => 24 | .inn => 13 | .nin => 13 | .get => 14
  | .pow => 25 | .isn => 26 | .notn => 27 | .isb => 28 | .notb => 29

/-! ### data -/
@[simp] def allD : List Val → Option (List D)
  | [] => some []
  | .d x :: r => match allD r with
    | some l => some (x :: l)
    | none => none
  | _ :: _ => none

/-- a list that is read -/
@[simp] def lstOf (M : Store) : Val → Option (List Val)
  | .d (.lst l) => some (l.map Val.d)
  | .ref n => match M[n]? with
    | some (some (.lst xs)) => some xs
    | _ => none
  | _ => none
/-- a list or a tuple that is read -/
@[simp] def seqOf (M : Store) : Val → Option (List Val)
  | .d (.tup l) => some (l.map Val.d)
  | x => lstOf M x

/-- item by item -/
def eqDs (f : D → D → Option Bool) : List D → List D → Option Bool
  | [], [] => some true
  | [], _ :: _ => some false
  | _ :: _, [] => some false
  | x :: xs, y :: ys => match f x y, eqDs f xs ys with
    | some a, some b => some (a && b)
    | _, _ => none
/-- == of data, as deep as n; none: no word -/
def eqD : Nat → D → D → Option Bool
  | 0, _, _ => none
  | n + 1, a, b => match a, b with
    | .non, .non => some true
    | .bl a, .bl b => some (a == b)
    | .int a, .int b => some (a == b)
    | .str a, .str b => some (a == b)
    | .non, .int _ => some false | .int _, .non => some false
    | .non, .bl _ => some false | .bl _, .non => some false
    | .non, .str _ => some false | .str _, .non => some false
    | .int _, .str _ => some false | .str _, .int _ => some false
    | .bl _, .str _ => some false | .str _, .bl _ => some false
    | .tup a, .tup b => eqDs (eqD n) a b
    | .lst a, .lst b => eqDs (eqD n) a b
    | .tup _, .lst _ => some false | .lst _, .tup _ => some false
    | _, _ => none

/-- a whole list by value -/
@[simp] def dataOf (M : Store) : Val → Option D
  | .d x => some x
  | .ref n => match M[n]? with
    | some (some (.lst xs)) => (match allD xs with
      | some l => some (.lst l)
      | none => none)
    | _ => none
  | _ => none

/-- no caught error -/
@[simp] def plainV : Val → Bool
  | .exn _ _ => false
  | .lam => false
  | _ => true
def lim : Nat := 16777216
/-- a new list -/
def newL (mt : Bool) (xs : List Val) (M : Store) : R Val :=
  if xs.length ≤ lim then
    (match mt with
    | true => if xs.all plainV then .ok (.ref M.length) (M ++ [some (.lst xs)]) else .no
    | false => match allD xs with
      | some l => .ok (.d (.lst l)) M
      | none => .no)
  else .no
def newT (xs : List Val) (M : Store) : R Val :=
  if xs.length ≤ lim then
    (match allD xs with
      | some l => .ok (.d (.tup l)) M
      | none => .no)
  else .no

def mulOk (i j : Int) : Bool := decide (i.natAbs < 18446744073709551616) || decide (j.natAbs < 18446744073709551616) || decide (i.natAbs.log2 + j.natAbs.log2 < 1000000)
def divOk (j : Int) : Bool := decide (0 < j) && decide (j.natAbs.log2 < 9000)
def powOk (i j : Int) : Bool := decide (0 ≤ j) && decide (j ≤ 1000000) && decide (i.natAbs < 18446744073709551616)

/-- place i of a row of n, from behind where it is below 0 -/
@[simp] def ixOf (n : Nat) (i : Int) : Option Nat := L2.ixN n i
/-- a cut's bounds -/
@[simp] def cut {a : Type} (xs : List a) (lo hi : Option Int) : List a := (xs.drop (HT.sIx xs.length 0 lo)).take (HT.sIx xs.length xs.length hi - HT.sIx xs.length 0 lo)

/-- what is there of an instance -/
@[simp] def insOf (M : Store) : Val → Option (Nat × List Val)
  | .d (.ins c ds) => some (c, ds.map Val.d)
  | .ref n => match M[n]? with
    | some (some (.ins c vs)) => some (c, vs)
    | _ => none
  | _ => none

def strIn (i j : Str) : Bool := !(Builtin.Str.occurrences j i 0 j.length 1).isEmpty
/-- a flat datum -/
def flatD : D → Bool
  | .non => true | .bl _ => true | .int _ => true | .str _ => true | _ => false
def toV : D → L2.V
  | .non => .non | .bl b => .bl b | .int i => .int i | .str x => .str x | _ => .non
def inSeq (x : D) (l : List D) : Option Bool :=
  if flatD x && l.all flatD then some (L2.inV (toV x) (l.map toV)) else none

section
variable (P : Pg) (C : Caller)

/-- the method of an instance's class -/
@[simp] def methOf (M : Store) (v : Val) (m : Nat) : Option Nat :=
  match insOf M v with
  | some (c, _) => P.meth c m
  | none => none

def notR : R Val → R Val
  | .ok (.d (.bl b)) M => .ok (.d (.bl !b)) M
  | .ok _ _ => .no
  | .ex c ds M => .ex c ds M
  | .no => .no

/-- is it a comparison -/
def K2.isCmp : K2 → Bool
  | .eq => true | .ne => true | .lt => true | .le => true | .gt => true | .ge => true
  | _ => false
/-- the other side of an own operator of class c -/
def argK (k : K2) (c : Nat) : Val → Bool
  | .d .non => k.isCmp
  | .d (.bl _) => k.isCmp
  | .d (.str _) => k.isCmp
  | .d (.int _) => true
  | .d (.ins c' _) => if k.isCmp then (P.frz c').isSome else c' == c
  | .d (.tup _) => k.isCmp
  | .d (.lst _) => k.isCmp
  | .d (.dic _ _) => k.isCmp
  | _ => false
/-- an own operator of a -/
def ownL (k : K2) (i : Nat) (a b : Val) (M : Store) : R Val :=
  match insOf M a with
  | some (c, _) => (match P.meth c i with
    | some f => if argK P k c b then C f none [a, b] M else .no
    | none => .no)
  | none => .no
/-- the text's own operators -/
def ownOp (k : K2) (a b : Val) (M : Store) : R Val :=
  match k with
  | .ne => .no
  | .inn => (match methOf P M b 13 with
    | some f => C f none [b, a] M
    | none => .no)
  | .nin => (match methOf P M b 13 with
    | some f => notR (C f none [b, a] M)
    | none => .no)
  | .get => (match methOf P M a 14 with
    | some f => C f none [a, b] M
    | none => .no)
  | k => ownL P C k k.dn a b M

/-- an operator of two ints -/
def intOp (c : Int → Int → Bool) (g : Int → Int → D) (a b : D) (M : Store) : R Val :=
  match a, b with
  | .int i, .int j => if c i j then .ok (.d (g i j)) M else .no
  | _, _ => .no
def datAdd (mt : Bool) (a b : D) (M : Store) : R Val :=
  match a, b with
  | .int i, .int j => if mt then .no else .ok (.d (.int (i + j))) M
  | .str i, .str j => if mt then .no else if i.length + j.length ≤ lim then .ok (.d (.str (i ++ j))) M else .no
  | .lst x, .lst y => newL mt ((x ++ y).map Val.d) M
  | _, _ => .no
def datMul (mt : Bool) (a b : D) (M : Store) : R Val :=
  match a, b with
  | .int i, .int j => if mt then .no else if mulOk i j then .ok (.d (.int (i * j))) M else .no
  | .lst x, .int k => if x.length * k.toNat ≤ lim ∧ -(2 ^ 63) ≤ k ∧ k < 2 ^ 63 then newL mt ((List.replicate k.toNat x).flatten.map Val.d) M else .no
  | _, _ => .no
def datIs (neg : Bool) (a b : D) (M : Store) : R Val :=
  match b with
  | .non => (match a with
    | .non => .ok (.d (.bl (!neg))) M
    | _ => .ok (.d (.bl neg)) M)
  | _ => .no
def datIsB (neg : Bool) (a b : D) (M : Store) : R Val :=
  match a, b with
  | .bl x, .bl y => .ok (.d (.bl (if neg then !decide (x = y) else decide (x = y)))) M
  | _, _ => .no
def datIn (neg : Bool) (a b : D) (M : Store) : R Val :=
  match b with
  | .str j => (match a with
    | .str i => .ok (.d (.bl (if neg then !(strIn i j) else strIn i j))) M
    | _ => .no)
  | .lst l => (match inSeq a l with
    | some b => .ok (.d (.bl (if neg then !b else b))) M
    | none => .no)
  | .tup l => (match inSeq a l with
    | some b => .ok (.d (.bl (if neg then !b else b))) M
    | none => .no)
  | _ => .no
def datGet (a b : D) (M : Store) : R Val :=
  match a, b with
  | .str x, .int i => if x.length ≤ lim then (match L2.atI x.cps.toList i with
    | some c => .ok (.d (.str ⟨#[c]⟩)) M
    | none => .no) else .no
  | _, _ => .no
def datEq (neg : Bool) (a b : D) (M : Store) : R Val :=
  match eqD 12 a b with
  | some r => .ok (.d (.bl (if neg then !r else r))) M
  | none => .no
/-- an operator on data -/
def datOp (k : K2) (a b : D) (M : Store) : R Val :=
  match k with
  | .add => datAdd false a b M
  | .addm => datAdd true a b M
  | .sub => intOp (fun _ _ => true) (fun i j => .int (i - j)) a b M
  | .mul => datMul false a b M
  | .mulm => datMul true a b M
  | .fdiv => intOp (fun _ j => divOk j) (fun i j => .int (i / j)) a b M
  | .mod => intOp (fun _ j => decide (0 < j)) (fun i j => .int (i % j)) a b M
  | .pow => intOp powOk (fun i j => .int (i ^ j.toNat)) a b M
  | .lt => intOp (fun _ _ => true) (fun i j => .bl (decide (i < j))) a b M
  | .le => intOp (fun _ _ => true) (fun i j => .bl (decide (i ≤ j))) a b M
  | .gt => intOp (fun _ _ => true) (fun i j => .bl (decide (j < i))) a b M
  | .ge => intOp (fun _ _ => true) (fun i j => .bl (decide (j ≤ i))) a b M
  | .isn => datIs false a b M
  | .notn => datIs true a b M
  | .isb => datIsB false a b M
  | .notb => datIsB true a b M
  | .inn => datIn false a b M
  | .nin => datIn true a b M
  | .get => datGet a b M
  | .eq => datEq false a b M
  | .ne => datEq true a b M
  | _ => .no

/-- is the operator the text's own here -/
def ownHere (k : K2) (a b : Val) (M : Store) : Bool :=
  match k with
  | .inn => (insOf M b).isSome
  | .nin => (insOf M b).isSome
  | .isn => false
  | .notn => false
  | .isb => false
  | .notb => false
  | _ => (insOf M a).isSome

/-- two values -/
def f2 (k : K2) (a b : Val) (M : Store) : R Val :=
  if ownHere k a b M then ownOp P C k a b M else
  match k with
  | .get => (match seqOf M a, b with
    | some xs, .d (.int i) => (match L2.atI xs i with
      | some v => .ok v M
      | none => .no)
    | _, _ => (match dataOf M a, dataOf M b with
      | some x, some y => datOp .get x y M
      | _, _ => .no))
  | k => match dataOf M a, dataOf M b with
    | some x, some y => datOp k x y M
    | _, _ => .no

/-- a field of a caught error -/
def attrX (m : Nat) (x : Val) (M : Store) : R Val :=
  match x with
  | .exn c ds => (match P.xfl c m with
    | some k => (match ds[k]? with
      | some d => .ok (.d d) M
      | none => .no)
    | none => .no)
  | _ => .no
/-- an attribute -/
def attr (m : Nat) (x : Val) (M : Store) : R Val :=
  match x with
  | .exn c ds => attrX P m (.exn c ds) M
  | .d (.cls c) => (match P.ccon c m with
    | some d => .ok (.d d) M
    | none => .no)
  | _ => match insOf M x with
    | some (c, vs) => (match P.fld c m with
      | some k => (match vs[k]? with
        | some v => .ok v M
        | none => .no)
      | none => match P.prop c m with
        | some f => R.calm (C f none [x] M)
        | none => match P.ccon c m with
          | some d => .ok (.d d) M
          | none => .no)
    | none => .no

/-- one value -/
def f1 (k : K1) (a : Val) (M : Store) : R Val :=
  match k with
  | .neg => (match a with
    | .d (.int i) => .ok (.d (.int (-i))) M
    | _ => .no)
  | .at m => attr P C m a M
  | .atx m => attrX P m a M
  | .rev mt => (match lstOf M a with
    | some xs => newL mt xs.reverse M
    | none => .no)
  | .fz => match a with
    | .ref n => (match M[n]? with
      | some (some (.lst xs)) => (match allD xs with
        | some l => .ok (.d (.lst l)) (M.set n none)
        | none => .no)
      | some (some (.ins c vs)) => (match allD vs with
        | some l => .ok (.d (.ins c l)) (M.set n none)
        | none => .no)
      | _ => .no)
    | _ => .no

/-- truth -/
def truth (a : Val) (M : Store) : R Bool :=
  match a with
  | .d .non => .ok false M
  | .d (.bl b) => .ok b M
  | .d (.int i) => .ok (i != 0) M
  | .d (.str x) => if x.length ≤ lim then .ok ((x.length : Int) != 0) M else .no
  | .d (.tup l) => .ok (!l.isEmpty) M
  | .d (.lst l) => .ok (!l.isEmpty) M
  | x => match insOf M x with
    | some (c, _) => (match P.meth c 17 with
      | some f => (match C f none [x] M with
        | .ok (.d (.bl b)) M' => .ok b M'
        | .ok _ _ => .no
        | .ex c ds M' => .ex c ds M'
        | .no => .no)
      | none => .no)
    | none => match lstOf M x with
      | some xs => .ok (!xs.isEmpty) M
      | none => .no

def allInt : List Val → Option (List Int)
  | [] => some []
  | .d (.int i) :: r => match allInt r with
    | some l => some (i :: l)
    | none => none
  | _ :: _ => none
def allBl : List Val → Option (List Bool)
  | [] => some []
  | .d (.bl i) :: r => match allBl r with
    | some l => some (i :: l)
    | none => none
  | _ :: _ => none
def allStr : List Val → Option (List Str)
  | [] => some []
  | .d (.str i) :: r => match allStr r with
    | some l => some (i :: l)
    | none => none
  | _ :: _ => none
def maxL : Int → List Int → Int
  | m, [] => m
  | m, x :: r => maxL (if m < x then x else m) r
def minL : Int → List Int → Int
  | m, [] => m
  | m, x :: r => minL (if x < m then x else m) r

/-- a type: a built-in one, an own class -/
inductive Tg where
  | bt (n : String) | ow (c : Nat)
def tagOf (M : Store) (x : Val) : Option Tg :=
  match insOf M x with
  | some (c, _) => if (P.frz c).isSome then some (.ow c) else none
  | none => match lstOf M x, x with
    | some _, _ => some (.bt "list")
    | none, .d .non => some (.bt "NoneType")
    | none, .d (.bl _) => some (.bt "bool")
    | none, .d (.int _) => some (.bt "int")
    | none, .d (.str _) => some (.bt "str")
    | none, .d (.tup _) => some (.bt "tuple")
    | none, .d (.dic _ _) => some (.bt "dict")
    | none, _ => none
/-- the own class c is the type's or above it -/
def Tg.isO : Tg → Nat → Bool
  | .bt _, _ => false
  | .ow d, c => P.sub d c
def Tg.isB : Tg → String → Bool
  | .bt n, o => n == o || (n == "bool" && o == "int")
  | .ow _, _ => false
def isInst (ts : List Nat) (os : List String) (x : Val) (M : Store) : Option Bool :=
  match tagOf P M x with
  | some t => some (ts.any (t.isO P) || os.any t.isB)
  | none => none

mutual
/-- data as the kit's data -/
def pyOf : D → Option PyData
  | .non => some .none
  | .bl b => some (.bool b)
  | .int i => some (.int i)
  | .str x => some (.str x)
  | .tup l => (match pyOfs l with
    | some r => some (.tuple r)
    | none => none)
  | .lst l => (match pyOfs l with
    | some r => some (.list r)
    | none => none)
  | _ => none
def pyOfs : List D → Option (List PyData)
  | [] => some []
  | x :: r => (match pyOf x, pyOfs r with
    | some a, some b => some (a :: b)
    | _, _ => none)
end
/-- a flat datum, as the kit's -/
def pyFlat : D → Option PyData
  | .non => some .none
  | .bl b => some (.bool b)
  | .int i => some (.int i)
  | .str x => some (.str x)
  | _ => none
/-- .. a key -/
def pyKey : D → Option PyData
  | .int i => some (.int i)
  | .str x => some (.str x)
  | _ => none
def pyDic : List D → List D → Option (List (PyData × PyData))
  | [], [] => some []
  | k :: ks, v :: vs => (match pyKey k, pyFlat v, pyDic ks vs with
    | some a, some b, some r => some ((a, b) :: r)
    | _, _, _ => none)
  | _, _ => none
/-- .. at the top -/
def pyTop : D → Option PyData
  | .dic ks vs => (match pyDic ks vs with
    | some r => some (.dict r)
    | none => none)
  | x => pyOf x
/-- repr of data -/
def reprD (x : D) : Option Str := match pyTop x with
  | some d => if d.showable && decide (d.depth ≤ 60) && decide (d.shown.length ≤ lim) then some d.shown else none
  | none => none

/-- built-in calls -/
def bLen (as : List Val) (M : Store) : R Val :=
  match as with
  | [x] => (match seqOf M x with
    | some xs => .ok (.d (.int xs.length)) M
    | none => (match x with
      | .d (.str s) => if s.length ≤ lim then .ok (.d (.int s.length)) M else .no
      | y => match methOf P M y 15 with
        | some f => R.chk lenV (C f none [y] M)
        | none => .no))
  | _ => .no
def bSum (as : List Val) (M : Store) : R Val :=
  match as with
  | [x] => (match seqOf M x with
    | some xs => (match allInt xs with
      | some l => .ok (.d (.int l.sum)) M
      | none => .no)
    | none => .no)
  | _ => .no
def bMax (as : List Val) (M : Store) : R Val :=
  match as with
  | [x] => (match lstOf M x with
    | some xs => (match allInt xs with
      | some (i :: l) => .ok (.d (.int (maxL i l))) M
      | _ => .no)
    | none => .no)
  | [.d (.int i), .d (.int j)] => .ok (.d (.int (if j > i then j else i))) M
  | _ => .no
def bMin (as : List Val) (M : Store) : R Val :=
  match as with
  | [x] => (match lstOf M x with
    | some xs => (match allInt xs with
      | some (i :: l) => .ok (.d (.int (minL i l))) M
      | _ => .no)
    | none => .no)
  | [.d (.int i), .d (.int j)] => .ok (.d (.int (if j < i then j else i))) M
  | _ => .no
def bAbs (as : List Val) (M : Store) : R Val :=
  match as with
  | [.d (.int i)] => .ok (.d (.int (if i < 0 then -i else i))) M
  | _ => .no
def bInt (as : List Val) (M : Store) : R Val :=
  match as with
  | [.d (.int i)] => .ok (.d (.int i)) M
  | [.d (.bl b)] => .ok (.d (.int (if b then 1 else 0))) M
  | [.d (.str x)] => (match PySem.intText? x with
    | some n => if x.length ≤ 640 then .ok (.d (.int n)) M else .no
    | none => .no)
  | _ => .no
def bStr (as : List Val) (M : Store) : R Val :=
  match as with
  | [x] => (match x with
    | .d (.int i) => if i.natAbs.log2 < 1920 then .ok (.d (.str (toString i))) M else .no
    | .d (.str s) => .ok (.d (.str s)) M
    | y => match methOf P M y 18 with
      | some f => R.chk strV (C f none [y] M)
      | none => .no)
  | _ => .no
def bBool (as : List Val) (M : Store) : R Val :=
  match as with
  | [x] => (truth P C x M).bind fun b M' => .ok (.d (.bl b)) M'
  | _ => .no
def bList (mt : Bool) (as : List Val) (M : Store) : R Val :=
  match as with
  | [x] => (match x with
    | .d (.scr l) => newL mt (l.map Val.d) M
    | y => match seqOf M y with
      | some xs => newL mt xs M
      | none => .no)
  | _ => .no
def bTuple (as : List Val) (M : Store) : R Val :=
  match as with
  | [x] => (match seqOf M x with
    | some xs => newT xs M
    | none => .no)
  | _ => .no
def bAll (as : List Val) (M : Store) : R Val :=
  match as with
  | [x] => (match lstOf M x with
    | some xs => (match allBl xs with
      | some l => .ok (.d (.bl (l.all id))) M
      | none => .no)
    | none => .no)
  | _ => .no
def bAny (as : List Val) (M : Store) : R Val :=
  match as with
  | [x] => (match lstOf M x with
    | some xs => (match allBl xs with
      | some l => .ok (.d (.bl (l.any id))) M
      | none => .no)
    | none => .no)
  | _ => .no
/-- ints in order -/
def insI (x : Int) : List Int → List Int
  | [] => [x]
  | y :: r => if x ≤ y then x :: y :: r else y :: insI x r
def sortI : List Int → List Int
  | [] => []
  | x :: r => insI x (sortI r)
def bSorted (mt : Bool) (as : List Val) (M : Store) : R Val :=
  match as with
  | [x] => (match lstOf M x with
    | some xs => (match allInt xs with
      | some l => newL mt ((sortI l).map fun i => Val.d (.int i)) M
      | none => .no)
    | none => .no)
  | _ => .no
def bIsi (ts : List Nat) (os : List String) (as : List Val) (M : Store) : R Val :=
  match as with
  | [x] => (match isInst P ts os x M with
    | some b => .ok (.d (.bl b)) M
    | none => .no)
  | _ => .no
def bRepr (as : List Val) (M : Store) : R Val :=
  match as with
  | [x] => (match dataOf M x with
    | some y => (match reprD y with
      | some s => .ok (.d (.str s)) M
      | none => .no)
    | none => .no)
  | _ => .no
def fbi (k : BI) (as : List Val) (M : Store) : R Val :=
  match k with
  | .len => bLen P C as M
  | .sum => bSum as M
  | .max => bMax as M
  | .min => bMin as M
  | .abs => bAbs as M
  | .int => bInt as M
  | .str => bStr P C as M
  | .bool => bBool P C as M
  | .list => bList false as M
  | .listm => bList true as M
  | .tuple => bTuple as M
  | .all => bAll as M
  | .any => bAny as M
  | .isi ts os => bIsi P ts os as M
  | .repr => bRepr as M
  | .sorted => bSorted false as M
  | .sortedm => bSorted true as M

/-- what a built-in type's method may be called on -/
def rcv (k : KM) (x : Val) (M : Store) : Bool :=
  match k with
  | .join => (match x with | .d (.str _) => true | _ => false)
  | .split => (match x with | .d (.str _) => true | _ => false)
  | .splitm => (match x with | .d (.str _) => true | _ => false)
  | _ => (lstOf M x).isSome
/-- methods of built-in types -/
def mAppend (x v : Val) (M : Store) : R Val :=
  match x with
  | .ref n => (match M[n]? with
    | some (some (.lst xs)) => if xs.length < lim && plainV v then .ok (.d .non) (M.set n (some (.lst (xs ++ [v])))) else .no
    | _ => .no)
  | _ => .no
def mPop (x : Val) (M : Store) : R Val :=
  match x with
  | .ref n => (match M[n]? with
    | some (some (.lst xs)) => (match xs[xs.length - 1]? with
      | some v => .ok v (M.set n (some (.lst xs.dropLast)))
      | none => .no)
    | _ => .no)
  | _ => .no
def fbm (k : KM) (x : Val) (as : List Val) (M : Store) : R Val :=
  match k with
  | .append => (match as with
    | [v] => mAppend x v M
    | _ => .no)
  | .pop => (match as with
    | [] => mPop x M
    | _ => .no)
  | _ => .no

/-- an instance is made: an instance cell, __init__ over it, frozen where its class is -/
def fmk (c : Nat) (as : List Val) (M : Store) : R Val :=
  match P.ini c with
  | some f => (match C f none (.ref M.length :: as) (M ++ [some (.ins c [])]) with
    | .ok (.d .non) M' => (match P.frz c with
      | some true => f1 P C .fz (.ref M.length) M'
      | some false => .ok (.ref M.length) M'
      | none => .no)
    | .ok _ _ => .no
    | .ex c ds M' => .ex c ds M'
    | .no => .no)
  | none => .no

/-- the def that a method call reaches, and whether it gets the object (the class) ahead of the arguments -/
def tgtOf (m : Nat) (x : Val) (M : Store) : Option (Nat × Bool) :=
  match x with
  | .d (.cls c) => (match P.cmeth c m with
    | some f => some (f, true)
    | none => match P.smeth c m with
      | some f => some (f, false)
      | none => none)
  | _ => match methOf P M x m with
    | some f => some (f, true)
    | none => none
end

/-! ### loops -/
inductive Fl where
  | nx (r : Env) | rt (v : Val) | bk (r : Env) | ct (r : Env)
inductive SR where
  | ok (f : Fl) (M : Store) | ex (c : Nat) (ds : List D) (r : Env) (M : Store) | no

abbrev Rd := Store → Option (List (List Val))

def setAll : List Nat → List Val → Env → Option Env
  | [], [], r => some r
  | i :: is, v :: vs, r => setAll is vs (r.set i (some v))
  | _, _, _ => none

def loop (rd : Rd) (body : List Val → Env → Store → SR) : Nat → Nat → Env → Store → SR
  | 0, _, _, _ => .no
  | k + 1, i, r, M => match rd M with
    | none => .no
    | some its => match its[i]? with
      | none => .ok (.nx r) M
      | some it => match body it r M with
        | .ok (.nx r') M' => loop rd body k (i + 1) r' M'
        | .ok (.ct r') M' => loop rd body k (i + 1) r' M'
        | .ok (.bk r') M' => .ok (.nx r') M'
        | .ok (.rt v) M' => .ok (.rt v) M'
        | .ex c ds r' M' => .ex c ds r' M'
        | .no => .no
/-- a comprehension's loop: the element, or none where a test fails -/
def cloop (rd : Rd) (body : List Val → Store → R (Option Val)) : Nat → Nat → List Val → Store → R (List Val)
  | 0, _, _, _ => .no
  | k + 1, i, acc, M => match rd M with
    | none => .no
    | some its => match its[i]? with
      | none => .ok acc M
      | some it => match body it M with
        | .ok (some v) M' => if acc.length < lim && plainV v then cloop rd body k (i + 1) (acc ++ [v]) M' else .no
        | .ok none M' => cloop rd body k (i + 1) acc M'
        | .ex _ _ _ => .no
        | .no => .no
def wloop (tst : Env → Store → R Bool) (body : Env → Store → SR) : Nat → Env → Store → SR
  | 0, _, _ => .no
  | k + 1, r, M => match tst r M with
    | .ok true M1 => (match body r M1 with
      | .ok (.nx r') M' => wloop tst body k r' M'
      | .ok (.ct r') M' => wloop tst body k r' M'
      | .ok (.bk r') M' => .ok (.nx r') M'
      | .ok (.rt v) M' => .ok (.rt v) M'
      | .ex c ds r' M' => .ex c ds r' M'
      | .no => .no)
    | .ok false M1 => .ok (.nx r) M1
    | .ex c ds M1 => .ex c ds r M1
    | .no => .no

def rdLen (rd : Rd) (M : Store) : Nat := match rd M with
  | some l => l.length
  | none => 0

/-- the items of a value that is walked, for one name or several -/
def tupItems : List Val → Option (List (List Val))
  | [] => some []
  | .d (.tup l) :: r => (match tupItems r with
    | some t => some (l.map Val.d :: t)
    | none => none)
  | _ :: _ => none
@[simp] def strOf : Val → Option Str
  | .d (.str x) => some x
  | _ => none
def rowIt (many : Bool) (xs : List Val) : Option (List (List Val)) := if many then tupItems xs else some (xs.map fun x => [x])
def rdSeq (v : Val) (many : Bool) : Rd := fun M =>
  match strOf v with
  | some x => if many then none else some (x.cps.toList.map fun c => [Val.d (.str ⟨#[c]⟩)])
  | none => match seqOf M v with
    | some xs => rowIt many xs
    | none => none
/-- small bounds of a range -/
def bnd (i : Int) : Bool := decide (-4611686018427387904 ≤ i) && decide (i < 4611686018427387904)
/-- lo, lo + st, .., n of them -/
def rdRng (lo : Int) (n : Nat) (st : Int) : Rd := fun _ => some ((List.range n).map fun (k : Nat) => [Val.d (.int (lo + k * st))])
def rng1 (x : Val) (M : Store) : R Rd :=
  match x with
  | .d (.int j) => if bnd j then .ok (rdRng 0 j.toNat 1) M else .no
  | _ => .no
def rng2 (x y : Val) (M : Store) : R Rd :=
  match x with
  | .d (.int i) => (match y with
    | .d (.int j) => if bnd i && bnd j then .ok (rdRng i (j - i).toNat 1) M else .no
    | _ => .no)
  | _ => .no
def rng3 (x y z : Val) (M : Store) : R Rd :=
  match x with
  | .d (.int i) => (match y with
    | .d (.int j) => (match z with
      | .d (.int k) => if k == -1 && bnd i && bnd j then .ok (rdRng i (i - j).toNat (-1)) M else .no
      | _ => .no)
    | _ => .no)
  | _ => .no
def rngF (xs : List Val) (M : Store) : R Rd :=
  match xs with
  | [x] => rng1 x M
  | [x, y] => rng2 x y M
  | [x, y, z] => rng3 x y z M
  | _ => .no
def zipL (xs ys : List Val) : List (List Val) := List.zipWith (fun x y => [x, y]) xs ys
def rdZip (a b : Val) : Rd := fun M =>
  match a, b with
  | .d (.tup l), .d (.tup m) => some (zipL (l.map Val.d) (m.map Val.d))
  | a, b => match lstOf M a, lstOf M b with
    | some xs, some ys => some (zipL xs ys)
    | _, _ => none
def enumL : Nat → List Val → List (List Val)
  | _, [] => []
  | k, x :: r => [Val.d (.int k), x] :: enumL (k + 1) r
def rdEnum (a : Val) : Rd := fun M => match lstOf M a with
  | some xs => some (enumL 0 xs)
  | none => none

/-- caught errors are not told of any longer -/
def dropX (r : Env) : Env := r.map fun o => match o with
  | some (.exn _ _) => none
  | o => o
/-- the slots forgotten -/
def wipeE (is : List Nat) (r : Env) : Env := match is with
  | [] => r
  | i :: is => (wipeE is r).set i none
/-- keywords in another order: the places of the written arguments -/
def permute (pm : List Nat) (xs : List Val) : Option (List Val) := pm.mapM fun i => xs[i]?

section
variable (P : Pg) (C : Caller) (q : Asker)

mutual
def ev : E → Env → Store → R Val
  | .v i, r, M => (match r[i]? with
    | some (some .lam) => .no
    | some (some v) => .ok v M
    | _ => .no)
  | .c d, _, M => .ok (.d d) M
  | .o1 k a, r, M => (ev a r M).bind fun x M1 => f1 P C k x M1
  | .o2 k a b, r, M => (ev a r M).bind fun x M1 => (ev b r M1).bind fun y M2 => f2 P C k x y M2
  | .andV a b, r, M => (ev a r M).bind fun x M1 => (truth P C x M1).bind fun t M2 => if t then ev b r M2 else .ok x M2
  | .orV a b, r, M => (ev a r M).bind fun x M1 => (truth P C x M1).bind fun t M2 => if t then .ok x M2 else ev b r M2
  | .tst t, r, M => (evT t r M).bind fun b M1 => .ok (.d (.bl b)) M1
  | .ite t a b, r, M => (evT t r M).bind fun x M1 => if x then ev a r M1 else ev b r M1
  | .chain k l a b c, r, M => (ev a r M).bind fun x M1 => (ev b r M1).bind fun y M2 => (f2 P C k x y M2).bind fun z M3 =>
      match z with
      | .d (.bl true) => (ev c r M3).bind fun w M4 => f2 P C l y w M4
      | .d (.bl false) => .ok (.d (.bl false)) M3
      | _ => .no
  | .dsp k as, r, M => (evA as r M).bind fun xs M1 => (match k with
    | .tup => newT xs M1
    | .lst => newL false xs M1
    | .mut => newL true xs M1)
  | .call f as, r, M => (evA as r M).bind fun xs M1 => C f none xs M1
  | .mk c as, r, M => (evA as r M).bind fun xs M1 => fmk P C c xs M1
  | .bi k as, r, M => (evA as r M).bind fun xs M1 => fbi P C k xs M1
  | .me m a as, r, M => (ev a r M).bind fun x M1 => (match tgtOf P m x M1 with
    | some (f, b) => (evA as r M1).bind fun xs M2 => C f none (if b then x :: xs else xs) M2
    | none => .no)
  | .mkv a as, r, M => (ev a r M).bind fun x M1 => (match x with
    | .d (.cls c) => if (P.ini c).isSome then (evA as r M1).bind fun xs M2 => fmk P C c xs M2 else .no
    | _ => .no)
  | .callP f as pm, r, M => (evA as r M).bind fun xs M1 => (match permute pm xs with
    | some ys => C f none ys M1
    | none => .no)
  | .mkP c as pm, r, M => (evA as r M).bind fun xs M1 => (match permute pm xs with
    | some ys => fmk P C c ys M1
    | none => .no)
  | .meP m a as pm, r, M => (ev a r M).bind fun x M1 => (match tgtOf P m x M1 with
    | some (f, b) => (evA as r M1).bind fun xs M2 => (match permute pm xs with
      | some ys => C f none (if b then x :: ys else ys) M2
      | none => .no)
    | none => .no)
  | .bm k a as, r, M => (ev a r M).bind fun x M1 => if rcv k x M1 then (evA as r M1).bind fun xs M2 => fbm k x xs M2 else .no
  | .sl mt a lo hi, r, M => (ev a r M).bind fun x M1 => (evO lo r M1).bind fun l M2 => (evO hi r M2).bind fun h M3 =>
      match x with
      | .d (.tup xs) => newT ((cut xs l h).map Val.d) M3
      | .d (.scr xs) => newL mt ((cut xs l h).map Val.d) M3
      | x => match lstOf M3 x with
        | some xs => newL mt (cut xs l h) M3
        | none => .no
  | .cp mt it tg tests e, r, M => (evI it (tg.length != 1) r M).bind fun rd M1 =>
      (cloop rd (fun item M2 => match setAll tg item (wipeE tg (dropX r)) with
        | none => .no
        | some r' => (evTs tests r' M2).bind fun b M3 => if b then (ev e r' M3).bind fun v M4 => .ok (some v) M4 else .ok none M3) (rdLen rd M1 + 1) 0 [] M1).bind fun xs M5 => newL mt xs M5
  | .hear g e, r, M => C g (some fun M1 => ev e (dropX r) M1) [] M
  | .ask, r, M => (match r[(0 : Nat)]? with
    | some (some .lam) => (match q with
      | some g => g M
      | none => .no)
    | _ => .no)
  | .dct ks as, r, M => (evA as r M).bind fun xs M1 => (match allD xs with
    | some vs => if ks.length = vs.length then .ok (.d (.dic ks vs)) M1 else .no
    | none => .no)
def evO : Eo → Env → Store → R (Option Int)
  | .none, _, M => .ok none M
  | .some e, r, M => (ev e r M).bind fun x M1 => match x with
    | .d (.int i) => .ok (some i) M1
    | _ => .no
def evA : As → Env → Store → R (List Val)
  | .nil, _, M => .ok [] M
  | .cons e t, r, M => (ev e r M).bind fun x M1 => (evA t r M1).bind fun xs M2 => .ok (x :: xs) M2
  | .star e t, r, M => (ev e r M).bind fun x M1 => (match seqOf M1 x with
    | some ys => (evA t r M1).bind fun xs M2 => .ok (ys ++ xs) M2
    | none => .no)
def evT : Te → Env → Store → R Bool
  | .tr e, r, M => (ev e r M).bind fun x M1 => truth P C x M1
  | .and a b, r, M => (evT a r M).bind fun x M1 => if x then evT b r M1 else .ok false M1
  | .or a b, r, M => (evT a r M).bind fun x M1 => if x then .ok true M1 else evT b r M1
  | .not a, r, M => (evT a r M).bind fun x M1 => .ok (!x) M1
def evTs : Tes → Env → Store → R Bool
  | .nil, _, M => .ok true M
  | .cons t ts, r, M => (evT t r M).bind fun x M1 => if x then evTs ts r M1 else .ok false M1
def evI : It → Bool → Env → Store → R Rd
  | .e e, many, r, M => (ev e r M).bind fun x M1 => if (rdSeq x many M1).isSome then .ok (rdSeq x many) M1 else .no
  | .rng as, many, r, M => (evA as r M).bind fun xs M1 => if many then .no else rngF xs M1
  | .zip a b, many, r, M => (ev a r M).bind fun x M1 => (ev b r M1).bind fun y M2 => if many && (rdZip x y M2).isSome then .ok (rdZip x y) M2 else .no
  | .enum a k, many, r, M => (ev a r M).bind fun x M1 => if many && k == 0 && (rdEnum x M1).isSome then .ok (rdEnum x) M1 else .no
end

def unset (i : Option Nat) (r : Env) : Env := match i with
  | none => r
  | some i => r.set i none
/-- x[y] = v -/
def setI (x y v : Val) (M : Store) : Option Store :=
  match x with
  | .ref n => (match y with
    | .d (.int k) => (match M[n]? with
      | some (some (.lst xs)) => (match L2.ixN xs.length k with
        | some j => if plainV v then some (M.set n (some (.lst (xs.set j v)))) else none
        | none => none)
      | _ => none)
    | _ => none)
  | _ => none
/-- x op= y of ints -/
def augI (k : K2) (x y : Val) (M : Store) : R Val :=
  match x with
  | .d (.int i) => (match y with
    | .d (.int j) => (match k with
      | .add => .ok (.d (.int (i + j))) M
      | .sub => .ok (.d (.int (i - j))) M
      | _ => .no)
    | _ => .no)
  | _ => .no
/-- .. where x may be an instance -/
def augV (P : Pg) (C : Caller) (k : K2) (x y : Val) (M : Store) : R Val :=
  if (insOf M x).isSome then ownL P C k k.dn x y M else augI k x y M
@[simp] def R.st {a : Type} (x : R a) (r : Env) (f : a → Store → SR) : SR := match x with
  | .ok y M => f y M
  | .ex c ds M => .ex c ds r M
  | .no => .no

/-- values into targets -/
def stAll : List Tg1 → List Val → Env → Store → SR
  | [], [], r, M => .ok (.nx r) M
  | .nm i :: ts, v :: vs, r, M => stAll ts vs (r.set i (some v)) M
  | .sub a e :: ts, v :: vs, r, M => (ev P C q a r M).st r fun x M1 => (ev P C q e r M1).st r fun y M2 => (match setI x y v M2 with
    | some M3 => stAll ts vs r M3
    | none => .no)
  | _, _, _, _ => .no
mutual
def exS : Sm → Env → Store → SR
  | .asg i e, r, M => (ev P C q e r M).st r fun x M1 => .ok (.nx (r.set i (some x))) M1
  | .asgs is e, r, M => (ev P C q e r M).st r fun x M1 => (match seqOf M1 x with
    | some xs => (match setAll is xs r with
      | some r' => .ok (.nx r') M1
      | none => .no)
    | none => .no)
  | .par is as, r, M => (evA P C q as r M).st r fun xs M1 => (match setAll is xs r with
    | some r' => .ok (.nx r') M1
    | none => .no)
  | .fld a m e, r, M => (ev P C q e r M).st r fun v M1 => (ev P C q a r M1).st r fun x M2 => (match x with
    | .ref n => (match M2[n]? with
      | some (some (.ins c vs)) => (match P.fld c m with
        | some k => if plainV v = false then .no else if k < vs.length then .ok (.nx r) (M2.set n (some (.ins c (vs.set k v)))) else if k = vs.length then .ok (.nx r) (M2.set n (some (.ins c (vs ++ [v])))) else .no
        | none => .no)
      | _ => .no)
    | _ => .no)
  | .sub a i e, r, M => (ev P C q e r M).st r fun v M1 => (ev P C q a r M1).st r fun x M2 => (ev P C q i r M2).st r fun y M3 => (match setI x y v M3 with
    | some M4 => .ok (.nx r) M4
    | none => .no)
  | .aug i k e, r, M => (match r[i]? with
    | some (some x) => (ev P C q e r M).st r fun y M1 => (augV P C k x y M1).st r fun z M2 => .ok (.nx (r.set i (some z))) M2
    | _ => .no)
  | .augF a m k e, r, M => (ev P C q a r M).st r fun x M1 => (match x with
    | .ref n => (match M1[n]? with
      | some (some (.ins c vs)) => (match P.fld c m with
        | some j => (match vs[j]? with
          | some y => (ev P C q e r M1).st r fun z M2 => (augI k y z M2).st r fun u M3 => (match M3[n]? with
            | some (some (.ins c' vs')) => if c' = c then .ok (.nx r) (M3.set n (some (.ins c (vs'.set j u)))) else .no
            | _ => .no)
          | none => .no)
        | none => .no)
      | _ => .no)
    | _ => .no)
  | .ex e, r, M => (ev P C q e r M).st r fun _ M1 => .ok (.nx r) M1
  | .ret e, r, M => (ev P C q e r M).st r fun x M1 => .ok (.rt x) M1
  | .ifs t a b, r, M => (evT P C q t r M).st r fun x M1 => if x then exSs a r M1 else exSs b r M1
  | .whl k t b, r, M => wloop (fun r M => evT P C q t r M) (fun r M => exSs b r M) k r M
  | .for tg it b, r, M => (evI P C q it (tg.length != 1) r M).st r fun rd M1 =>
      loop rd (fun item r M2 => match setAll tg item r with
        | none => .no
        | some r' => exSs b r' M2) (rdLen rd M1 + 1) 0 r M1
  | .raise c as, r, M => (evA P C q as r M).st r fun xs M1 => (match allD xs, P.exc c with
    | some ds, some n => if ds.length = n then .ex c ds r M1 else .no
    | _, _ => .no)
  | .try b hs, r, M => (match exSs b (dropX r) M with
    | .ex c ds r' M1 => exH hs c ds (dropX r') M1
    | .ok (.nx r') M1 => .ok (.nx (dropX r')) M1
    | .ok (.bk r') M1 => .ok (.bk (dropX r')) M1
    | .ok (.ct r') M1 => .ok (.ct (dropX r')) M1
    | .ok (.rt v) M1 => if plainV v then .ok (.rt v) M1 else .no
    | .no => .no)
  | .brk, r, M => .ok (.bk r) M
  | .cont, r, M => .ok (.ct r) M
  | .pass, r, M => .ok (.nx r) M
  | .sto ts as, r, M => (evA P C q as r M).st r fun xs M1 => if xs.length = ts.length then stAll P C q ts xs r M1 else .no
def exSs : Ss → Env → Store → SR
  | .nil, r, M => .ok (.nx r) M
  | .cons s t, r, M => match exS s r M with
    | .ok (.nx r') M1 => exSs t r' M1
    | x => x
def exH : Hs → Nat → List D → Env → Store → SR
  | .nil, c, ds, r, M => .ex c ds r M
  | .cons hc i b t, c, ds, r, M => if !((P.exc c).isSome && (P.exc hc).isSome) then .no else if P.sub c hc then (match exSs b (match i with
        | none => r
        | some i => r.set i (some (.exn c ds))) M with
      | .ok (.nx r') M1 => .ok (.nx (unset i (dropX r'))) M1
      | .ok (.bk r') M1 => .ok (.bk (unset i (dropX r'))) M1
      | .ok (.ct r') M1 => .ok (.ct (unset i (dropX r'))) M1
      | .ok (.rt v) M1 => if plainV v then .ok (.rt v) M1 else .no
      | .ex _ _ _ _ => .no
      | .no => .no)
    else exH t c ds r M
end
end

/-! ### calls -/
/-- the arguments, the defaults behind them, the rest in a tuple -/
def bindUp (I : FnI) (as : List Val) : Option (List Val) :=
  if as.all plainV = false then none else if I.star then
    (if I.np ≤ as.length + 1 then
      (match allD (as.drop (I.np - 1)) with
      | some l => if l.length ≤ lim then some (as.take (I.np - 1) ++ [.d (.tup l)]) else none
      | none => none)
    else none)
  else if as.length ≤ I.np ∧ I.np ≤ as.length + I.dfl.length then some (as ++ (I.dfl.drop (as.length + I.dfl.length - I.np)).map Val.d) else none
def startE (ns : Nat) (vs : List Val) : Env := vs.map some ++ List.replicate (ns - vs.length) none
def retOf : SR → R Val
  | .ok (.rt v) M => if plainV v then .ok v M else .no
  | .ok (.nx _) M => .ok (.d .non) M
  | .ok _ _ => .no
  | .ex c ds _ M => .ex c ds M
  | .no => .no

/-- the body of a def -/
def bodyF (P : Pg) (C : Caller) (q : Asker) (I : FnI) (vs : List Val) (M : Store) : R Val := retOf (exSs P C q I.body (startE I.ns vs) M)
/-- .. on a store of its own -/
def pureF (P : Pg) (C : Caller) (I : FnI) (vs : List Val) (M : Store) : R Val :=
  match allD vs with
  | none => .no
  | some _ => match bodyF P C none I vs [] with
    | .ok (.d x) _ => .ok (.d x) M
    | .ok _ _ => .no
    | .ex c ds _ => .ex c ds M
    | .no => .no
def callF (P : Pg) : Nat → Caller
  | 0, _, _, _, _ => .no
  | n + 1, f, some q, _, M => (match P.fn f with
    | none => .no
    | some I => if I.hr then bodyF P (callF P n) (some q) I [.lam] M else .no)
  | n + 1, f, none, as, M => match P.fn f with
    | none => .no
    | some I => if I.hr then .no else match bindUp I as with
      | none => .no
      | some vs => if I.pur then pureF P (callF P n) I vs M else bodyF P (callF P n) none I vs M

end BV

set_option Elab.async false
set_option maxRecDepth 100000
/-! BV1: how data lie in the abstract heap; states, their growth. -/
namespace BV
open PySem L2

/-! ### states -/
structure S8 where
  F : Hp
  H : Hp
  io : Nat → Addr
  M : Store

def Live (M : Store) (n : Nat) : Prop := ∃ c, M[n]? = some (some c)
theorem Live.lt {M : Store} {n : Nat} (h : Live M n) : n < M.length := by
  obtain ⟨c, h⟩ := h
  exact (List.getElem?_eq_some_iff.mp h).1

/-- no live cell stands at a -/
def NoCell (S : S8) (a : Addr) : Prop := ∀ n, Live S.M n → S.io n ≠ a

structure Go (S S' : S8) : Prop where
  F : ∀ a o, S.F a = some o → S'.F a = some o
  H : ∀ a o, S.H a = some o → NoCell S a → (∀ ps, o ≠ .tbl ps) → S'.H a = some o
  Fn : ∀ a, S.H a ≠ none → NoCell S a → S'.F a = S.F a
  dom : ∀ a, S.H a ≠ none → S'.H a ≠ none
  len : S.M.length ≤ S'.M.length
  io : ∀ n, n < S.M.length → S'.io n = S.io n
  new : ∀ n, Live S'.M n → Live S.M n ∨ (S.M.length ≤ n ∧ S.H (S'.io n) = none)

/-- where the program's things stand; the names of the fields of a class -/
structure Ad where
  K : PySem.W.Frag
  ca : Nat → Addr
  fa : Nat → Addr
  fl : Nat → List Str
  tb : List (Addr × Str)
  on : Nat → Str
  qt : Nat → Bool
  am : S8 → Prop
  sl : Option V

def dunNm : Nat → Str
  | 0 => "__init__" | 1 => "__add__" | 2 => "__sub__" | 3 => "__mul__" | 4 => "__floordiv__" | 5 => "__mod__" | 6 => "__and__" | 7 => "__or__"
  | 8 => "__eq__" | 9 => "__lt__" | 10 => "__le__" | 11 => "__gt__" | 12 => "__ge__" | 13 => "__contains__" | 14 => "__getitem__" | 15 => "__len__"
  | 16 => "__iter__" | 17 => "__bool__" | 18 => "__str__" | 19 => "__call__" | 20 => "__rmul__" | 21 => "__setitem__" | 22 => "__iadd__" | 23 => "__isub__"
  | 24 => "__ne__" | _ => "__none__"
/-- the names by their numbers -/
def Ad.nm (T : Ad) (i : Nat) : Str := if i < 30 then dunNm i else T.on i
/-- a def that may be called at A: it looks at no guards, or there are none -/
def Plain (T : Ad) (A : Around) (f : Nat) : Prop := T.qt f = true ∨ A.guards = some []

/-- a dict's key -/
def kD : Key → D
  | .inl i => .int i
  | .inr x => .str x
section
variable (T : Ad)
mutual
def RepD (F : Hp) : D → V → Prop
  | .non, v => v = .non
  | .bl b, v => v = .bl b
  | .int i, v => v = .int i
  | .str x, v => v = .str x
  | .tup l, v => ∃ a xs, v = .ref a ∧ SqT T.K F a xs ∧ RepL F l xs
  | .lst l, v => ∃ a xs, v = .ref a ∧ F a = some (.lst xs) ∧ RepL F l xs
  | .scr l, v => ∃ a xs, v = .ref a ∧ SqL T.K F a xs ∧ RepL F l xs
  | .dic ks vs, v => ∃ (a : Addr) (kvs : List (Key × V)), v = .ref a ∧ F a = some (.dK kvs) ∧ kvs.map (fun p => kD p.1) = ks ∧ RepL F vs (kvs.map (·.2))
  | .ins c ds, v => ∃ a dx xs, v = .ref a ∧ F a = some (.ins (T.ca c) dx ((T.fl c).zip xs)) ∧ RepL F ds xs ∧ xs.length ≤ (T.fl c).length
  | .fn f, v => v = .ref (T.fa f)
  | .cls c, v => v = .ref (T.ca c)
  | .ty s, v => v = .ty s
def RepL (F : Hp) : List D → List V → Prop
  | [], vs => vs = []
  | d :: ds, vs => ∃ x xs, vs = x :: xs ∧ RepD F d x ∧ RepL F ds xs
end

theorem sqT_mono {K : PySem.W.Frag} {F F' : Hp} (e : ∀ a o, F a = some o → F' a = some o) {a : Addr} {xs : List V} (h : SqT K F a xs) : SqT K F' a xs := by
  rcases h with (h | ⟨o, h⟩) | h
  · exact .inl (.inl (e _ _ h))
  · exact .inl (.inr ⟨o, e _ _ h⟩)
  · exact .inr h
theorem sqL_mono {K : PySem.W.Frag} {F F' : Hp} (e : ∀ a o, F a = some o → F' a = some o) {a : Addr} {xs : List V} (h : SqL K F a xs) : SqL K F' a xs := by
  rcases h with (h | ⟨o, h⟩) | h
  · exact .inl (.inl (e _ _ h))
  · exact .inl (.inr ⟨o, e _ _ h⟩)
  · exact .inr h

variable {T}
mutual
theorem RepD.mono {F F' : Hp} (e : ∀ a o, F a = some o → F' a = some o) : ∀ (d : D) (v : V), RepD T F d v → RepD T F' d v
  | .non, v, h => by simpa [RepD] using h
  | .bl b, v, h => by simpa [RepD] using h
  | .int i, v, h => by simpa [RepD] using h
  | .str x, v, h => by simpa [RepD] using h
  | .tup l, v, h => by
    simp only [RepD] at h ⊢
    obtain ⟨a, xs, h1, h2, h3⟩ := h
    exact ⟨a, xs, h1, sqT_mono e h2, RepL.mono e l xs h3⟩
  | .lst l, v, h => by
    simp only [RepD] at h ⊢
    obtain ⟨a, xs, h1, h2, h3⟩ := h
    exact ⟨a, xs, h1, e _ _ h2, RepL.mono e l xs h3⟩
  | .scr l, v, h => by
    simp only [RepD] at h ⊢
    obtain ⟨a, xs, h1, h2, h3⟩ := h
    exact ⟨a, xs, h1, sqL_mono e h2, RepL.mono e l xs h3⟩
  | .dic ks vs, v, h => by
    simp only [RepD] at h ⊢
    obtain ⟨a, kvs, h1, h2, h3, h4⟩ := h
    exact ⟨a, kvs, h1, e _ _ h2, h3, RepL.mono e vs _ h4⟩
  | .ins c ds, v, h => by
    simp only [RepD] at h ⊢
    obtain ⟨a, dx, xs, h1, h2, h3, h4⟩ := h
    exact ⟨a, dx, xs, h1, e _ _ h2, RepL.mono e ds xs h3, h4⟩
  | .fn f, v, h => by simpa [RepD] using h
  | .cls c, v, h => by simpa [RepD] using h
  | .ty s, v, h => by simpa [RepD] using h
theorem RepL.mono {F F' : Hp} (e : ∀ a o, F a = some o → F' a = some o) : ∀ (ds : List D) (vs : List V), RepL T F ds vs → RepL T F' ds vs
  | [], vs, h => by simpa [RepL] using h
  | d :: ds, vs, h => by
    simp only [RepL] at h ⊢
    obtain ⟨x, xs, h1, h2, h3⟩ := h
    exact ⟨x, xs, h1, RepD.mono e d x h2, RepL.mono e ds xs h3⟩
end

/-! ### states -/
/-- .. -/
theorem lim_eq : lim = sizeLine := by rw [sizeLine_eq]; rfl
/-- a caught error: its object is pinned -/
def ExnR (T : Ad) (pn : List (Addr × Obj)) (H : Hp) (F : Hp) (c : Nat) (ds : List D) (v : V) : Prop :=
  ∃ a oe d, v = .ref a ∧ (a, oe) ∈ pn ∧ Zc (.ref (T.ca c)) d oe ∧ (∃ vs, oe.data = .fields vs) ∧
    (ds = [] ∨ ∃ dx xs, d = some dx ∧ H dx = some (.xd ((T.fl c).zip xs)) ∧ F dx = some (.xd ((T.fl c).zip xs)) ∧ RepL T F ds xs ∧ xs.length ≤ (T.fl c).length)

def RepV (T : Ad) (pn : List (Addr × Obj)) (S : S8) : Val → V → Prop
  | .d x, v => RepD T S.F x v
  | .ref n, v => v = .ref (S.io n) ∧ n < S.M.length
  | .exn c ds, v => ExnR T pn S.H S.F c ds v
  | .lam, _ => False
def RepVs (T : Ad) (pn : List (Addr × Obj)) (S : S8) : List Val → List V → Prop
  | [], vs => vs = []
  | d :: ds, vs => ∃ x xs, vs = x :: xs ∧ RepV T pn S d x ∧ RepVs T pn S ds xs

/-- what stands at a cell's address -/
def CellR (T : Ad) (S : S8) : Cell → HO → Prop
  | .lst xs, o => ∃ vs, o = .lst vs ∧ RepVs T [] S xs vs
  | .ins c xs, o => ∃ dx vs, o = .ins (T.ca c) dx ((T.fl c).zip vs) ∧ RepVs T [] S xs vs ∧ vs.length ≤ (T.fl c).length

structure Wf (T : Ad) (S : S8) : Prop where
  fh : ∀ a o, S.F a = some o → S.H a = some o
  cell : ∀ n c, S.M[n]? = some (some c) → S.F (S.io n) = none ∧ ∃ o, S.H (S.io n) = some o ∧ CellR T S c o
  inj : ∀ n m, Live S.M n → Live S.M m → S.io n = S.io m → n = m
  ft : ∀ a ps, S.F a ≠ some (.tbl ps)
  tabs : LamX.Tabs T.tb S.H
  tin : ∀ a ps, S.H a = some (.tbl ps) → True
  amb : ∀ S0, T.am S0 → Go S0 S

theorem Go.refl (S : S8) : Go S S := ⟨fun _ _ h => h, fun _ _ h _ _ => h, fun _ _ _ => rfl, fun _ h => h, Nat.le_refl _, fun _ _ => rfl, fun _ h => .inl h⟩
theorem Go.noCell {S S' : S8} (g : Go S S') {a : Addr} (h : S.H a ≠ none) (n : NoCell S a) : NoCell S' a := by
  intro k hk e
  rcases g.new k hk with h1 | ⟨_, h2⟩
  · rw [g.io k h1.lt] at e
    exact n k h1 e
  · rw [e] at h2
    exact h h2
theorem Go.trans {S S1 S2 : S8} (a : Go S S1) (b : Go S1 S2) : Go S S2 where
  F := fun x o h => b.F x o (a.F x o h)
  H := fun x o h n t => b.H x o (a.H x o h n t) (a.noCell (by rw [h]; exact Option.some_ne_none _) n) t
  Fn := fun x h n => (b.Fn x (a.dom x h) (a.noCell h n)).trans (a.Fn x h n)
  dom := fun x h => b.dom x (a.dom x h)
  len := Nat.le_trans a.len b.len
  io := fun n h => (b.io n (Nat.lt_of_lt_of_le h a.len)).trans (a.io n h)
  new := fun n h => by
    rcases b.new n h with h1 | ⟨h1, h2⟩
    · rcases a.new n h1 with h3 | ⟨h3, h4⟩
      · exact .inl h3
      · exact .inr ⟨h3, by rw [b.io n h1.lt]; exact h4⟩
    · refine .inr ⟨Nat.le_trans a.len h1, ?_⟩
      exact Classical.byContradiction fun z => a.dom _ z h2

theorem ExnR.go {T : Ad} {pn : List (Addr × Obj)} {S S' : S8} (g : Go S S') (W' : Wf T S') {c : Nat} {ds : List D} {v : V} (h : ExnR T pn S.H S.F c ds v) : ExnR T pn S'.H S'.F c ds v := by
  obtain ⟨a, oe, d, h1, h2, h3, h4, h5⟩ := h
  refine ⟨a, oe, d, h1, h2, h3, h4, ?_⟩
  rcases h5 with h5 | ⟨dx, xs, e1, _, e3, e4, e5⟩
  · exact .inl h5
  · exact .inr ⟨dx, xs, e1, W'.fh _ _ (g.F _ _ e3), g.F _ _ e3, RepL.mono g.F _ _ e4, e5⟩
theorem RepV.go {T : Ad} {pn : List (Addr × Obj)} {S S' : S8} (g : Go S S') (W' : Wf T S') : ∀ {v : Val} {w : V}, RepV T pn S v w → RepV T pn S' v w
  | .d x, w, h => RepD.mono g.F x w h
  | .ref n, w, h => ⟨by rw [g.io n h.2]; exact h.1, Nat.lt_of_lt_of_le h.2 g.len⟩
  | .exn c ds, w, h => ExnR.go g W' h
  | .lam, _, h => h
theorem RepVs.go {T : Ad} {pn : List (Addr × Obj)} {S S' : S8} (g : Go S S') (W' : Wf T S') : ∀ {v : List Val} {w : List V}, RepVs T pn S v w → RepVs T pn S' v w
  | [], w, h => h
  | d :: ds, w, h => by
    obtain ⟨x, xs, e, h1, h2⟩ := h
    exact ⟨x, xs, e, RepV.go g W' h1, RepVs.go g W' h2⟩

/-- what a slot holds: a value, or the lambda that was handed over -/
def RepE (T : Ad) (pn : List (Addr × Obj)) (S : S8) (v : Val) (w : V) : Prop := RepV T pn S v w ∨ (v = .lam ∧ T.sl = some w)
/-- the slots -/
def EnvR (T : Ad) (pn : List (Addr × Obj)) (S : S8) (r : Env) (s : St) : Prop :=
  r.length = s.length ∧ ∀ (i : Nat) (v : Val), r[i]? = some (some v) → ∃ w, s[i]? = some (some w) ∧ RepE T pn S v w
theorem EnvR.go {T : Ad} {pn : List (Addr × Obj)} {S S' : S8} (g : Go S S') (W' : Wf T S') {r : Env} {s : St} (h : EnvR T pn S r s) : EnvR T pn S' r s :=
  ⟨h.1, fun i v e => let ⟨w, a, b⟩ := h.2 i v e; ⟨w, a, b.imp (RepV.go g W') id⟩⟩
theorem EnvR.set {T : Ad} {pn : List (Addr × Obj)} {S : S8} {r : Env} {s : St} (h : EnvR T pn S r s) {i : Nat} {v : Val} {w : V} (hv : RepV T pn S v w) : EnvR T pn S (r.set i (some v)) (s.set i (some w)) := by
  refine ⟨by simp [h.1], fun j x e => ?_⟩
  by_cases q : j = i
  · subst q
    rw [List.getElem?_set] at e
    split at e
    · split at e
      · rename_i h1 h2
        cases e
        exact ⟨w, by rw [List.getElem?_set_self (by rw [← h.1]; exact h2)], .inl hv⟩
      · cases e
    · rename_i z
      exact absurd rfl z
  · rw [List.getElem?_set_ne (Ne.symm q)] at e
    obtain ⟨y, a, b⟩ := h.2 j x e
    exact ⟨y, by rw [List.getElem?_set_ne (Ne.symm q)]; exact a, b⟩
theorem EnvR.unset {T : Ad} {pn : List (Addr × Obj)} {S : S8} {r : Env} {s : St} (h : EnvR T pn S r s) {i : Nat} : EnvR T pn S (r.set i none) (s.set i none) := by
  refine ⟨by simp [h.1], fun j x e => ?_⟩
  by_cases q : j = i
  · subst q
    rw [List.getElem?_set] at e
    split at e
    · split at e <;> cases e
    · rename_i z
      exact absurd rfl z
  · rw [List.getElem?_set_ne (Ne.symm q)] at e
    obtain ⟨y, a, b⟩ := h.2 j x e
    exact ⟨y, by rw [List.getElem?_set_ne (Ne.symm q)]; exact a, b⟩

/-- an error in flight -/
def RepX (T : Ad) (S : S8) (c : Nat) (ds : List D) (cls : Value) (d : Option Addr) : Prop :=
  cls = .ref (T.ca c) ∧ (ds = [] ∨ ∃ dx xs, d = some dx ∧ S.F dx = some (.xd ((T.fl c).zip xs)) ∧ RepL T S.F ds xs ∧ xs.length ≤ (T.fl c).length)

/-- what is wanted behind -/
def Post (T : Ad) (pn : List (Addr × Obj)) (r : R Val) (S : S8) (Q : V → Hp → Prop) (W : Value → Option Addr → Hp → Prop) : Prop :=
  match r with
  | .ok v M' => ∀ S' w, Go S S' → Wf T S' → S'.M = M' → RepV T pn S' v w → Q w S'.H
  | .ex c ds M' => ∀ S' cls d, Go S S' → Wf T S' → S'.M = M' → RepX T S' c ds cls d → W cls d S'.H
  | .no => False
/-- .. for an outcome of another kind -/
def PostA {a b : Type} (T : Ad) (R' : S8 → a → b → Prop) (r : R a) (S : S8) (Q : b → Hp → Prop) (W : Value → Option Addr → Hp → Prop) : Prop :=
  match r with
  | .ok v M' => ∀ S' w, Go S S' → Wf T S' → S'.M = M' → R' S' v w → Q w S'.H
  | .ex c ds M' => ∀ S' cls d, Go S S' → Wf T S' → S'.M = M' → RepX T S' c ds cls d → W cls d S'.H
  | .no => False

theorem Post.toA {T : Ad} {pn : List (Addr × Obj)} {r : R Val} {S : S8} {Q : V → Hp → Prop} {W : Value → Option Addr → Hp → Prop} : Post T pn r S Q W ↔ PostA T (RepV T pn) r S Q W := by
  cases r <;> exact Iff.rfl
/-- two steps in a row -/
theorem PostA.bind {a b c d : Type} {T : Ad} {R1 : S8 → a → b → Prop} {R2 : S8 → c → d → Prop} {r : R a} {f : a → Store → R c} {S : S8} {Q : d → Hp → Prop} {W : Value → Option Addr → Hp → Prop} (h : PostA T R2 (r.bind f) S Q W) :
    PostA T R1 r S (fun y H => ∃ S1 x, S1.H = H ∧ Go S S1 ∧ Wf T S1 ∧ R1 S1 x y ∧ PostA T R2 (f x S1.M) S1 Q W) W := by
  cases r with
  | ok x M =>
    intro S1 y g w e hr
    refine ⟨S1, x, rfl, g, w, hr, ?_⟩
    rw [e]
    have h' : PostA T R2 (f x M) S Q W := h
    cases q : f x M with
    | ok v M' =>
      rw [q] at h'
      exact fun S' z g' w' e' r' => h' S' z (g.trans g') w' e' r'
    | ex c ds M' =>
      rw [q] at h'
      exact fun S' z dd g' w' e' r' => h' S' z dd (g.trans g') w' e' r'
    | no =>
      rw [q] at h'
      exact h'
  | ex c ds M => exact h
  | no => exact h
end
end BV

set_option Elab.async false
set_option maxRecDepth 100000
set_option maxHeartbeats 2000000
/-! BV2: expressions of the small language stand for the model's; operators, calls. -/
namespace BV
open PySem L2

/-- what is wanted of errors, at the slots as they stand -/
abbrev atW (W : WX) (s : St) : Value → Option Addr → Hp → Prop := fun cls d H => W cls d s H

section
variable (T : Ad) (P : Pg) (C : Caller) (q : Asker) (pn : List (Addr × Obj)) (W : WX)
def tE (il : E) : TE := fun s H Q => ∃ S r, S.H = H ∧ Wf T S ∧ EnvR T pn S r s ∧ Post T pn (ev P C q il r S.M) S Q (atW W s)
def tA (il : As) : TA := fun s H Q => ∃ S r, S.H = H ∧ Wf T S ∧ EnvR T pn S r s ∧ PostA T (RepVs T pn) (evA P C q il r S.M) S Q (atW W s)
def tT (il : Te) : TT := fun s H Q => ∃ S r, S.H = H ∧ Wf T S ∧ EnvR T pn S r s ∧ PostA T (fun _ (a b : Bool) => a = b) (evT P C q il r S.M) S Q (atW W s)
def tO (il : Eo) : TO := fun s H Q => ∃ S r, S.H = H ∧ Wf T S ∧ EnvR T pn S r s ∧ PostA T (fun _ (a b : Option Int) => a = b) (evO P C q il r S.M) S Q (atW W s)
end

/-- every def keeps its promise, as far as the level goes -/
def CallOk (X : Cx) (T : Ad) (C : Caller) (k : Nat) : Prop :=
  ∀ (f : Nat) (A : Around) (outer : List PySem.Env) (s : Shared) (S : S8) (as : List Val) (us : List Value) (vs : List V) (Q : VK) (E : XK), Room k A → Plain T A f → Env0 X.prog X.w X.K X.mg X.base A outer s S.H → Vals vs us →
    Wf T S → RepVs T [] S as vs → Post T [] (C f none as S.M) S Q E →
    codeAny (model X.prog X.w) A (.call (.ref (T.fa f)) ⟨us, []⟩) (CR (L2.CX X.prog X.w) outer X.prog X.w S.H s Q E) s

/-- a place in a body -/
structure Cok (X : Cx) (T : Ad) (C : Caller) (k : Nat) (W : WX) : Prop where
  K : X.K = T.K
  tk : Takes X W
  room : Room (k + 1) X.A
  calls : CallOk X T C k
  calm : X.calm = true
  rf : ∀ f as M, as.all plainV = true ∨ C f none as M = .no

section
variable {X : Cx} {T : Ad} {P : Pg} {C : Caller} {q : Asker} {W : WX} {k : Nat}

theorem RepV.nil {pn : List (Addr × Obj)} {S : S8} : ∀ {v : Val} {w : V}, RepV T [] S v w → RepV T pn S v w
  | .d _, _, h => h
  | .ref _, _, h => h
  | .exn c ds, w, h => by
    obtain ⟨a, oe, d, _, h2, _⟩ := h
    exact absurd h2 (by simp)
  | .lam, _, h => h.elim
theorem Post.nil {pn : List (Addr × Obj)} {r : R Val} {S : S8} {Q : V → Hp → Prop} {E : Value → Option Addr → Hp → Prop} (h : Post T pn r S Q E) : Post T [] r S Q E := by
  cases r with
  | ok v M => exact fun S' w g w' e r => h S' w g w' e (RepV.nil r)
  | ex c ds M => exact h
  | no => exact h

/-- a def is called -/
theorem run_bv (tk : Takes X W) (co : CallOk X T C k) {A : Around} {pins : List (Addr × Obj)} {s : Shared} {σ : St} {S : S8} {f : Nat} {as : List Val} {vs : List V} {us : List Value} {Q : VK} (hr : Room k A) (hp : Plain T A f)
    (e0 : Env0 X.prog X.w X.K X.mg X.base A X.stack s S.H) (I : Inv X pins σ S.H s) (w : Wf T S) (ra : RepVs T [] S as vs) (rv : Vals vs us) (h : Post T [] (C f none as S.M) S Q (atW W σ)) :
    wpAny (model X.prog X.w) A (call (.ref (T.fa f)) us) (EP X pins σ Q) X.xe s := by
  refine wpAny_call (codeAny_mono (co f A X.stack s S as us vs Q (atW W σ) hr hp e0 rv w ra h) fun r s' hq => ?_)
  cases r with
  | error e => exact tk _ _ (XE.of_call I (fun cls d H' z => z) hq)
  | ok fl =>
    cases fl with
    | ret u => exact I.after hq
    | next => exact False.elim hq
    | brk => exact False.elim hq
    | cont => exact False.elim hq

/-! ### states that grow -/
/-- the state with another store and heap where a new object is laid -/
theorem Go.alloc {S : S8} {p : Addr} {o : HO} (w : Wf T S) (hp : S.H p = none) (ho : ∀ ps, o ≠ .tbl ps) : Go S { S with H := upd S.H p o, F := upd S.F p o } ∧ Wf T { S with H := upd S.H p o, F := upd S.F p o } := by
  have ne : ∀ a u, S.H a = some u → a ≠ p := fun a u e => ne_of_none e hp
  have nf : S.F p = none := by
    cases e : S.F p with
    | none => rfl
    | some u => rw [w.fh _ _ e] at hp; cases hp
  have nf' : ∀ a u, S.F a = some u → a ≠ p := fun a u e => ne_of_none e nf
  have nc : ∀ n, Live S.M n → S.io n ≠ p := fun n ⟨c, hc⟩ e => by
    obtain ⟨_, u, hu, _⟩ := w.cell n c hc
    rw [e, hp] at hu
    cases hu
  have g : Go S { S with H := upd S.H p o, F := upd S.F p o } := by
    refine ⟨fun a u e => ?_, fun a u e _ _ => ?_, fun a e _ => ?_, fun a e => ?_, Nat.le_refl _, fun _ _ => rfl, fun n h => .inl h⟩
    · show upd S.F p o a = some u
      rw [upd_ne (nf' a u e)]; exact e
    · show upd S.H p o a = some u
      rw [upd_ne (ne a u e)]; exact e
    · show upd S.F p o a = S.F a
      obtain ⟨u, hu⟩ := Option.ne_none_iff_exists'.mp e
      rw [upd_ne (ne a u hu)]
    · show upd S.H p o a ≠ none
      obtain ⟨u, hu⟩ := Option.ne_none_iff_exists'.mp e
      rw [upd_ne (ne a u hu)]; exact e
  refine ⟨g, ?_⟩
  have W1 : ∀ a u, upd S.F p o a = some u → upd S.H p o a = some u := fun a u e => by
    by_cases z : a = p
    · rw [z, upd_same] at e ⊢; exact e
    · rw [upd_ne z] at e ⊢; exact w.fh _ _ e
  refine ⟨W1, fun n c hc => ?_, w.inj, fun a ps e => ?_, w.tabs.ext (fun b u e => ?_), fun a ps e => ?_, fun S0 h => (w.amb S0 h).trans g⟩
  · obtain ⟨h1, u, hu, cr⟩ := w.cell n c hc
    refine ⟨?_, u, ?_, ?_⟩
    · show upd S.F p o (S.io n) = none
      rw [upd_ne (nc n ⟨c, hc⟩)]; exact h1
    · show upd S.H p o (S.io n) = some u
      rw [upd_ne (nc n ⟨c, hc⟩)]; exact hu
    · have mono : ∀ (l : List Val) (vs : List V), RepVs T [] S l vs → RepVs T [] { S with H := upd S.H p o, F := upd S.F p o } l vs := by
        intro l
        induction l with
        | nil => exact fun vs h => h
        | cons x xs ih =>
          rintro vs ⟨y, ys, e, h1, h2⟩
          refine ⟨y, ys, e, ?_, ih _ h2⟩
          cases x with
          | d x => exact RepD.mono g.F x y h1
          | ref m => exact h1
          | exn c ds =>
            obtain ⟨_, _, _, _, z, _⟩ := h1
            exact absurd z (by simp)
          | lam => exact h1.elim
      cases c with
      | lst xs => obtain ⟨vs, e, r⟩ := cr; exact ⟨vs, e, mono _ _ r⟩
      | ins c xs => obtain ⟨dx, vs, e, r, l⟩ := cr; exact ⟨dx, vs, e, mono _ _ r, l⟩
  · by_cases z : a = p
    · have e' : upd S.F p o a = some (.tbl ps) := e
      rw [z, upd_same] at e'
      exact ho ps (Option.some.inj e')
    · have e' : upd S.F p o a = some (.tbl ps) := e
      rw [upd_ne z] at e'
      exact w.ft a ps e'
  · show upd S.H p o b = some u
    rw [upd_ne (ne b u e)]; exact e
  · by_cases z : a = p
    · have e' : upd S.H p o a = some (.tbl ps) := e
      rw [z, upd_same] at e'
      exact absurd (Option.some.inj e') (ho ps)
    · have e' : upd S.H p o a = some (.tbl ps) := e
      rw [upd_ne z] at e'
      exact w.tin a ps e'

/-! ### names, constants -/
theorem se_v {i : Nat} {x : Str} {pos : Pos} (hN : X.N[i]? = some x) (hv : Vis X.env.scope x) (hd : (x == ("__debug__" : Str)) = false := by decide) (hcd : (x == ("__classdict__" : Str)) = false := by decide) :
    PE X (.Name x pos) (tE T P C q X.pn W (.v i)) := by
  refine ⟨fun pins s σ H Q I h => (pe_var hN hv hd hcd).run pins s σ H Q I ?_⟩
  obtain ⟨S, r, rfl, w, er, p⟩ := h
  simp only [ev] at p
  cases e : r[i]? with
  | none => rw [e] at p; exact p.elim
  | some o =>
    cases o with
    | none => rw [e] at p; exact p.elim
    | some v =>
      rw [e] at p
      obtain ⟨w', e1, e2⟩ := er.2 i v e
      rcases e2 with e2 | ⟨e2, _⟩
      · cases v with
        | lam => exact p.elim
        | d x => exact ⟨w', e1, p S w' (Go.refl S) w rfl e2⟩
        | ref x => exact ⟨w', e1, p S w' (Go.refl S) w rfl e2⟩
        | exn x y => exact ⟨w', e1, p S w' (Go.refl S) w rfl e2⟩
      · subst e2
        exact p.elim
theorem se_c {e : Expr} {d : D} {x : V} (h : PE X e (tC x)) (hr : ∀ F, RepD T F d x) : PE X e (tE T P C q X.pn W (.c d)) := by
  refine ⟨fun pins s σ H Q I hq => h.run pins s σ H Q I ?_⟩
  obtain ⟨S, r, rfl, w, er, p⟩ := hq
  exact p S x (Go.refl S) w rfl (hr S.F)
theorem se_int {i : Int} {j pos} : PE X (.Constant (.int i) j pos) (tE T P C q X.pn W (.c (.int i))) := se_c pe_int fun _ => by simp [RepD]
theorem se_bl {b : Bool} {j pos} : PE X (.Constant (.bool b) j pos) (tE T P C q X.pn W (.c (.bl b))) := se_c pe_bl fun _ => by simp [RepD]
theorem se_non {j pos} : PE X (.Constant .none j pos) (tE T P C q X.pn W (.c .non)) := se_c pe_non fun _ => by simp [RepD]
theorem se_str {x : Str} {j pos} : PE X (.Constant (.str x) j pos) (tE T P C q X.pn W (.c (.str x))) := se_c pe_str fun _ => by simp [RepD]
/-- a name of the module: a constant, a class, a def -/
theorem se_glob {x : Str} {v : V} {u : Value} {d : D} {pos : Pos} (hg : Gl X x) (hm : X.mg x = some u) (r : RelV v u) (hr : ∀ F, RepD T F d v) (hd : (x == ("__debug__" : Str)) = false := by decide) :
    PE X (.Name x pos) (tE T P C q X.pn W (.c d)) := se_c (pe_glob hg hm r hd) hr

/-! ### two in a row -/
/-- evaluate a, then b, then what is done with both -/
theorem two {a b : Expr} {ia ib : E} (ha : PE X a (tE T P C q X.pn W ia)) (hb : PE X b (tE T P C q X.pn W ib)) {pins : List (Addr × Obj)} {s : Shared} {σ : St} {S : S8} {r : Env} {g : Val → Val → Store → R Val} {Q : VK}
    (I : Inv X pins σ S.H s) (w : Wf T S) (er : EnvR T X.pn S r σ) (h : Post T X.pn ((ev P C q ia r S.M).bind fun x M1 => (ev P C q ib r M1).bind fun y M2 => g x y M2) S Q (atW W σ))
    {α : Type} {Q' : α → Shared → Prop} {f : Value → Value → Sem α}
    (hf : ∀ (S2 : S8) (va vb : Val) (x y : V) (v u : Value) (s2 : Shared), Inv X pins σ S2.H s2 → Wf T S2 → EnvR T X.pn S2 r σ → Go S S2 → RelV x v → RelV y u → RepV T X.pn S2 va x → RepV T X.pn S2 vb y → Post T X.pn (g va vb S2.M) S2 Q (atW W σ) →
      wpAny (model X.prog X.w) X.A (f v u) Q' X.xe s2) :
    wpAny (model X.prog X.w) X.A (eval a X.env) (fun v s₁ => wpAny (model X.prog X.w) X.A (eval b X.env) (fun u s₂ => wpAny (model X.prog X.w) X.A (f v u) Q' X.xe s₂) X.xe s₁) X.xe s := by
  have h1 := PostA.bind (R1 := RepV T X.pn) (Post.toA.mp h)
  refine thn (ha.run pins s σ S.H _ I ⟨S, r, rfl, w, er, Post.toA.mpr h1⟩) fun v s1 ⟨x, H1, I1, rx, S1, va, e1, g1, w1, r1, h2⟩ => ?_
  subst e1
  have h3 := PostA.bind (R1 := RepV T X.pn) h2
  refine thn (hb.run pins s1 σ S1.H _ I1 ⟨S1, r, rfl, w1, er.go g1 w1, Post.toA.mpr h3⟩) fun u s2 ⟨y, H2, I2, ry, S2, vb, e2, g2, w2, r2, h4⟩ => ?_
  subst e2
  exact hf S2 va vb x y v u s2 I2 w2 (er.go (g1.trans g2) w2) (g1.trans g2) rx ry (RepV.go g2 w2 r1) r2 (Post.toA.mpr h4)

/-- an operation of two values does what g says -/
def OpS (X : Cx) (T : Ad) (W : WX) (g : Val → Val → Store → R Val) (f : Value → Value → Sem Value) : Prop :=
  ∀ (pins : List (Addr × Obj)) (s : Shared) (σ : St) (S : S8) (a b : Val) (x y : V) (v u : Value) (Q : VK), Inv X pins σ S.H s → Wf T S → RelV x v → RelV y u → RepV T X.pn S a x → RepV T X.pn S b y → Post T X.pn (g a b S.M) S Q (atW W σ) →
    wpAny (model X.prog X.w) X.A (f v u) (EP X pins σ Q) X.xe s

theorem se_bin {a b : Expr} {ia ib : E} {op : Operator} {k2 : K2} {pos : Pos} (ho : OpS X T W (f2 P C k2) (binaryOp op)) (ha : PE X a (tE T P C q X.pn W ia)) (hb : PE X b (tE T P C q X.pn W ib)) :
    PE X (.BinOp a op b pos) (tE T P C q X.pn W (.o2 k2 ia ib)) := by
  refine ⟨fun pins s σ H Q I h => ?_⟩
  obtain ⟨S, r, rfl, w, er, p⟩ := h
  simp only [ev] at p
  exact wpAny_BinOp (two ha hb I w er p fun S2 va vb x y v u s2 I2 w2 _ _ rx ry r1 r2 h4 => ho pins s2 σ S2 va vb x y v u Q I2 w2 rx ry r1 r2 h4)
theorem se_cmp {a b : Expr} {ia ib : E} {op : CmpOp} {k2 : K2} {pos : Pos} (ho : OpS X T W (f2 P C k2) (compareOp op)) (ha : PE X a (tE T P C q X.pn W ia)) (hb : PE X b (tE T P C q X.pn W ib)) (hm : behindInMarks op b = false) :
    PE X (.Compare a [op] [b] pos) (tE T P C q X.pn W (.o2 k2 ia ib)) := by
  refine ⟨fun pins s σ H Q I h => ?_⟩
  obtain ⟨S, r, rfl, w, er, p⟩ := h
  simp only [ev] at p
  exact wpAny_Compare1 (two ha hb I w er p fun S2 va vb x y v u s2 I2 w2 _ _ rx ry r1 r2 h4 => ho pins s2 σ S2 va vb x y v u Q I2 w2 rx ry r1 r2 h4) hm

/-- from an OpR rule of the layer: where its reading follows -/
theorem OpS.of {g : Val → Val → Store → R Val} {f : Value → Value → Sem Value} {rr : R2} (ho : OpR X f rr)
    (h : ∀ (σ : St) (S : S8) (a b : Val) (x y : V) (Q : VK), Wf T S → RepV T X.pn S a x → RepV T X.pn S b y → Post T X.pn (g a b S.M) S Q (atW W σ) → rr x y S.H Q) : OpS X T W g f :=
  fun pins s σ S a b x y v u Q I w rx ry r1 r2 p => ho pins s σ S.H x y v u Q I rx ry (h σ S a b x y Q w r1 r2 p)
end
end BV

set_option Elab.async false
set_option maxRecDepth 100000
set_option maxHeartbeats 2000000
/-! BV3: cells and new objects; operators on data. -/
namespace BV
open PySem L2
section
variable {T : Ad}

theorem RepVs.up {S S' : S8} (hF : ∀ a o, S.F a = some o → S'.F a = some o) (hi : ∀ n, n < S.M.length → S'.io n = S.io n) (hl : S.M.length ≤ S'.M.length) : ∀ (l : List Val) (vs : List V), RepVs T [] S l vs → RepVs T [] S' l vs
  | [], vs, h => h
  | x :: xs, vs, h => by
    obtain ⟨y, ys, e, h1, h2⟩ := h
    refine ⟨y, ys, e, ?_, RepVs.up hF hi hl xs ys h2⟩
    cases x with
    | d x => exact RepD.mono hF x y h1
    | ref m => exact ⟨by rw [hi m h1.2]; exact h1.1, Nat.lt_of_lt_of_le h1.2 hl⟩
    | exn c ds =>
      obtain ⟨_, _, _, _, z, _⟩ := h1
      exact absurd z (by simp)
    | lam => exact h1.elim
theorem CellR.up {S S' : S8} (hF : ∀ a o, S.F a = some o → S'.F a = some o) (hi : ∀ n, n < S.M.length → S'.io n = S.io n) (hl : S.M.length ≤ S'.M.length) {c : Cell} {o : HO} (h : CellR T S c o) : CellR T S' c o := by
  cases c with
  | lst xs => obtain ⟨vs, e, r⟩ := h; exact ⟨vs, e, RepVs.up hF hi hl _ _ r⟩
  | ins c xs => obtain ⟨dx, vs, e, r, l⟩ := h; exact ⟨dx, vs, e, RepVs.up hF hi hl _ _ r, l⟩
theorem RepVs.length : ∀ {pn : List (Addr × Obj)} {S : S8} {l : List Val} {vs : List V}, RepVs T pn S l vs → vs.length = l.length
  | _, _, [], vs, h => by
    have h' : vs = [] := h
    rw [h'] <;> rfl
  | pn, S, x :: xs, vs, h => by
    obtain ⟨y, ys, e, h1, h2⟩ := h
    rw [e, List.length_cons, List.length_cons, RepVs.length h2]
theorem RepL.length {F : Hp} : ∀ {l : List D} {vs : List V}, RepL T F l vs → vs.length = l.length
  | [], vs, h => by
    have h' : vs = [] := by simpa [RepL] using h
    rw [h'] <;> rfl
  | x :: xs, vs, h => by
    simp only [RepL] at h
    obtain ⟨y, ys, e, h1, h2⟩ := h
    rw [e, List.length_cons, List.length_cons, RepL.length h2]
theorem RepVs.ofL {pn : List (Addr × Obj)} {S : S8} : ∀ {l : List D} {vs : List V}, RepL T S.F l vs → RepVs T pn S (l.map Val.d) vs
  | [], vs, h => by
    show vs = []
    simpa [RepL] using h
  | x :: xs, vs, h => by
    simp only [RepL] at h
    obtain ⟨y, ys, e, h1, h2⟩ := h
    exact ⟨y, ys, e, h1, RepVs.ofL h2⟩
theorem RepVs.toL {pn : List (Addr × Obj)} {S : S8} : ∀ {l : List Val} {ds : List D} {vs : List V}, allD l = some ds → RepVs T pn S l vs → RepL T S.F ds vs
  | [], ds, vs, e, h => by
    simp only [allD] at e
    cases e
    have h' : vs = [] := h
    simpa [RepL] using h'
  | .d x :: xs, ds, vs, e, h => by
    simp only [allD] at e
    split at e
    · rename_i l q
      cases e
      obtain ⟨y, ys, e, h1, h2⟩ := h
      simp only [RepL]
      exact ⟨y, ys, e, h1, RepVs.toL q h2⟩
    · cases e
  | .ref n :: xs, ds, vs, e, h => by simp [allD] at e
  | .exn c es :: xs, ds, vs, e, h => by simp [allD] at e
  | .lam :: xs, ds, vs, e, h => by simp [allD] at e
theorem RepVs.append {pn : List (Addr × Obj)} {S : S8} : ∀ {l l' : List Val} {vs vs' : List V}, RepVs T pn S l vs → RepVs T pn S l' vs' → RepVs T pn S (l ++ l') (vs ++ vs')
  | [], l', vs, vs', h, h' => by
    have e : vs = [] := h
    rw [e]; exact h'
  | x :: xs, l', vs, vs', h, h' => by
    obtain ⟨y, ys, e, h1, h2⟩ := h
    rw [e]
    exact ⟨y, ys ++ vs', rfl, h1, RepVs.append h2 h'⟩
theorem RepVs.get {pn : List (Addr × Obj)} {S : S8} : ∀ {l : List Val} {vs : List V} {i : Nat} {x : Val}, RepVs T pn S l vs → l[i]? = some x → ∃ y, vs[i]? = some y ∧ RepV T pn S x y
  | [], vs, i, x, h, e => by simp at e
  | z :: xs, vs, 0, x, h, e => by
    obtain ⟨y, ys, e', h1, h2⟩ := h
    simp at e
    subst e
    exact ⟨y, by rw [e']; rfl, h1⟩
  | z :: xs, vs, i + 1, x, h, e => by
    obtain ⟨y, ys, e', h1, h2⟩ := h
    obtain ⟨w, a, b⟩ := RepVs.get h2 (i := i) (x := x) (by simpa using e)
    exact ⟨w, by rw [e']; simpa using a, b⟩
theorem RepVs.set {pn : List (Addr × Obj)} {S : S8} {x : Val} {y : V} (h0 : RepV T pn S x y) : ∀ {l : List Val} {vs : List V} {i : Nat}, RepVs T pn S l vs → RepVs T pn S (l.set i x) (vs.set i y)
  | [], vs, i, h => by
    have e : vs = [] := h
    rw [e]; exact (rfl : ([] : List V) = [])
  | z :: xs, vs, 0, h => by
    obtain ⟨y', ys, e', h1, h2⟩ := h
    rw [e']
    exact ⟨y, ys, rfl, h0, h2⟩
  | z :: xs, vs, i + 1, h => by
    obtain ⟨y', ys, e', h1, h2⟩ := h
    rw [e']
    exact ⟨y', ys.set i y, rfl, h1, RepVs.set h0 h2⟩
theorem RepVs.drop {pn : List (Addr × Obj)} {S : S8} : ∀ {l : List Val} {vs : List V} (i : Nat), RepVs T pn S l vs → RepVs T pn S (l.drop i) (vs.drop i)
  | l, vs, 0, h => h
  | [], vs, i + 1, h => by
    have e : vs = [] := h
    rw [e]; exact (rfl : ([] : List V) = [])
  | z :: xs, vs, i + 1, h => by
    obtain ⟨y', ys, e', h1, h2⟩ := h
    rw [e']
    exact RepVs.drop i h2
theorem RepVs.take {pn : List (Addr × Obj)} {S : S8} : ∀ {l : List Val} {vs : List V} (i : Nat), RepVs T pn S l vs → RepVs T pn S (l.take i) (vs.take i)
  | l, vs, 0, h => (rfl : ([] : List V) = [])
  | [], vs, i + 1, h => by
    have e : vs = [] := h
    rw [e]; exact (rfl : ([] : List V) = [])
  | z :: xs, vs, i + 1, h => by
    obtain ⟨y', ys, e', h1, h2⟩ := h
    rw [e']
    exact ⟨y', ys.take i, rfl, h1, RepVs.take i h2⟩
theorem RepVs.nilp {pn : List (Addr × Obj)} {S : S8} : ∀ {l : List Val} {vs : List V}, RepVs T [] S l vs → RepVs T pn S l vs
  | [], vs, h => h
  | x :: xs, vs, h => by
    obtain ⟨y, ys, e, h1, h2⟩ := h
    exact ⟨y, ys, e, RepV.nil h1, RepVs.nilp h2⟩
theorem RepV.plain {pn : List (Addr × Obj)} {S : S8} : ∀ {v : Val} {w : V}, plainV v = true → RepV T pn S v w → RepV T [] S v w
  | .d _, _, _, h => h
  | .ref _, _, _, h => h
  | .exn _ _, _, e, _ => by cases e
  | .lam, _, e, _ => by cases e
theorem RepVs.plain {pn : List (Addr × Obj)} {S : S8} : ∀ {l : List Val} {vs : List V}, l.all plainV = true → RepVs T pn S l vs → RepVs T [] S l vs
  | [], vs, _, h => h
  | x :: xs, vs, e, h => by
    obtain ⟨y, ys, e', h1, h2⟩ := h
    rw [List.all_cons, Bool.and_eq_true] at e
    exact ⟨y, ys, e', RepV.plain e.1 h1, RepVs.plain e.2 h2⟩

/-- a new cell -/
theorem Go.cell {S : S8} {p : Addr} {o : HO} {c : Cell} (w : Wf T S) (hp : S.H p = none) (ho : ∀ ps, o ≠ .tbl ps) (hc : CellR T S c o) :
    Go S { F := S.F, H := upd S.H p o, io := fun n => if n = S.M.length then p else S.io n, M := S.M ++ [some c] } ∧ Wf T { F := S.F, H := upd S.H p o, io := fun n => if n = S.M.length then p else S.io n, M := S.M ++ [some c] } := by
  have ne : ∀ a u, S.H a = some u → a ≠ p := fun a u e => ne_of_none e hp
  have nf : S.F p = none := by
    cases e : S.F p with
    | none => rfl
    | some u => rw [w.fh _ _ e] at hp; cases hp
  have nf' : ∀ a u, S.F a = some u → a ≠ p := fun a u e => ne_of_none e nf
  have io' : ∀ n, n < S.M.length → (if n = S.M.length then p else S.io n) = S.io n := fun n h => if_neg (Nat.ne_of_lt h)
  have lv : ∀ n, Live (S.M ++ [some c]) n → Live S.M n ∨ n = S.M.length := fun n ⟨d, hd⟩ => by
    by_cases h : n < S.M.length
    · rw [List.getElem?_append_left h] at hd
      exact .inl ⟨d, hd⟩
    · have h2 := (List.getElem?_eq_some_iff.mp hd).1
      rw [List.length_append, List.length_singleton] at h2
      exact .inr (by omega)
  have nc : ∀ n, Live S.M n → S.io n ≠ p := fun n ⟨c, hc⟩ e => by
    obtain ⟨_, u, hu, _⟩ := w.cell n c hc
    rw [e, hp] at hu
    cases hu
  have g : Go S { F := S.F, H := upd S.H p o, io := fun n => if n = S.M.length then p else S.io n, M := S.M ++ [some c] } := by
    refine ⟨fun a u e => e, fun a u e _ _ => ?_, fun a e _ => rfl, fun a e => ?_, ?_, io', fun n h => ?_⟩
    · show upd S.H p o a = some u
      rw [upd_ne (ne a u e)]; exact e
    · show upd S.H p o a ≠ none
      obtain ⟨u, hu⟩ := Option.ne_none_iff_exists'.mp e
      rw [upd_ne (ne a u hu)]; exact e
    · show S.M.length ≤ (S.M ++ [some c]).length
      rw [List.length_append]; exact Nat.le_add_right _ _
    · rcases lv n h with h | h
      · exact .inl h
      · refine .inr ⟨Nat.le_of_eq h.symm, ?_⟩
        show S.H (if n = S.M.length then p else S.io n) = none
        rw [if_pos h]; exact hp
  refine ⟨g, ?_⟩
  refine ⟨fun a u e => ?_, fun n d hd => ?_, fun n m hn hm e => ?_, w.ft, w.tabs.ext (fun b u e => ?_), fun a ps e => ?_, fun S0 h => (w.amb S0 h).trans g⟩
  · show upd S.H p o a = some u
    rw [upd_ne (nf' a u e)]; exact w.fh _ _ e
  · by_cases h : n < S.M.length
    · have hd' : S.M[n]? = some (some d) := by
        have z : (S.M ++ [some c])[n]? = some (some d) := hd
        rw [List.getElem?_append_left h] at z
        exact z
      obtain ⟨h1, u, hu, cr⟩ := w.cell n d hd'
      refine ⟨?_, u, ?_, CellR.up g.F g.io g.len cr⟩
      · show S.F (if n = S.M.length then p else S.io n) = none
        rw [io' n h]; exact h1
      · show upd S.H p o (if n = S.M.length then p else S.io n) = some u
        rw [io' n h, upd_ne (nc n ⟨d, hd'⟩)]; exact hu
    · have z : (S.M ++ [some c])[n]? = some (some d) := hd
      have hn : n = S.M.length := by
        have h2 := (List.getElem?_eq_some_iff.mp z).1
        rw [List.length_append, List.length_singleton] at h2
        omega
      rw [hn, List.getElem?_append_right (Nat.le_refl _), Nat.sub_self] at z
      have z' : c = d := by simpa using z
      subst z'
      refine ⟨?_, o, ?_, CellR.up g.F g.io g.len hc⟩
      · show S.F (if n = S.M.length then p else S.io n) = none
        rw [if_pos hn]; exact nf
      · show upd S.H p o (if n = S.M.length then p else S.io n) = some o
        rw [if_pos hn, upd_same]
  · have e' : (if n = S.M.length then p else S.io n) = (if m = S.M.length then p else S.io m) := e
    rcases lv n hn with a | a
    · rcases lv m hm with b | b
      · rw [io' n a.lt, io' m b.lt] at e'
        exact w.inj n m a b e'
      · rw [io' n a.lt, if_pos b] at e'
        exact absurd e' (nc n a)
    · rcases lv m hm with b | b
      · rw [if_pos a, io' m b.lt] at e'
        exact absurd e'.symm (nc m b)
      · exact a.trans b.symm
  · show upd S.H p o b = some u
    rw [upd_ne (ne b u e)]; exact e
  · by_cases z : a = p
    · have e' : upd S.H p o a = some (.tbl ps) := e
      rw [z, upd_same] at e'
      exact absurd (Option.some.inj e') (ho ps)
    · have e' : upd S.H p o a = some (.tbl ps) := e
      rw [upd_ne z] at e'
      exact w.tin a ps e'

/-- a cell is written -/
theorem Go.put {S : S8} {n : Nat} {o : HO} {c : Cell} (w : Wf T S) (hl : Live S.M n) (ho : ∀ ps, o ≠ .tbl ps) (hc : CellR T S c o) :
    Go S { S with H := upd S.H (S.io n) o, M := S.M.set n (some c) } ∧ Wf T { S with H := upd S.H (S.io n) o, M := S.M.set n (some c) } := by
  obtain ⟨c0, hc0⟩ := hl
  obtain ⟨hF, u0, hu0, cr0⟩ := w.cell n c0 hc0
  have hn := (List.getElem?_eq_some_iff.mp hc0).1
  have nt0 : ∀ ps, u0 ≠ .tbl ps := fun ps z => by
    subst z
    cases c0 with
    | lst xs => obtain ⟨_, e, _⟩ := cr0; cases e
    | ins c xs => obtain ⟨_, _, e, _⟩ := cr0; cases e
  have lv : ∀ m, Live (S.M.set n (some c)) m → Live S.M m := fun m ⟨d, hd⟩ => by
    by_cases h : m = n
    · rw [h]; exact ⟨c0, hc0⟩
    · rw [List.getElem?_set_ne (Ne.symm h)] at hd
      exact ⟨d, hd⟩
  have g : Go S { S with H := upd S.H (S.io n) o, M := S.M.set n (some c) } := by
    refine ⟨fun a u e => e, fun a u e nc _ => ?_, fun a e _ => rfl, fun a e => ?_, by show S.M.length ≤ (S.M.set n (some c)).length; rw [List.length_set]; exact Nat.le_refl _, fun _ _ => rfl, fun m h => .inl (lv m h)⟩
    · show upd S.H (S.io n) o a = some u
      rw [upd_ne (fun z => nc n ⟨c0, hc0⟩ z.symm)]; exact e
    · show upd S.H (S.io n) o a ≠ none
      by_cases z : a = S.io n
      · rw [z, upd_same]; exact Option.some_ne_none _
      · rw [upd_ne z]; exact e
  refine ⟨g, fun a u e => ?_, fun m d hd => ?_, fun a b ha hb e => w.inj a b (lv a ha) (lv b hb) e, w.ft, fun p hp => ?_, fun a ps e => ?_, fun S0 h => (w.amb S0 h).trans g⟩
  · show upd S.H (S.io n) o a = some u
    rw [upd_ne (fun z => by rw [z, hF] at e; cases e)]; exact w.fh _ _ e
  · by_cases h : m = n
    · subst h
      have hd' : (S.M.set m (some c))[m]? = some (some d) := hd
      rw [List.getElem?_set_self hn] at hd'
      have e : c = d := by simpa using hd'
      subst e
      exact ⟨hF, o, upd_same, CellR.up g.F g.io g.len hc⟩
    · have hd' : (S.M.set n (some c))[m]? = some (some d) := hd
      rw [List.getElem?_set_ne (Ne.symm h)] at hd'
      obtain ⟨h1, u, hu, cr⟩ := w.cell m d hd'
      refine ⟨h1, u, ?_, CellR.up g.F g.io g.len cr⟩
      show upd S.H (S.io n) o (S.io m) = some u
      rw [upd_ne (fun z => h (w.inj m n ⟨d, hd'⟩ ⟨c0, hc0⟩ z))]; exact hu
  · obtain ⟨ps, a1, a2, a3⟩ := w.tabs p hp
    have ne : p.1 ≠ S.io n := fun z => by
      rw [z, hu0] at a1
      exact nt0 ps (Option.some.inj a1)
    refine ⟨ps, by show upd S.H (S.io n) o p.1 = _; rw [upd_ne ne]; exact a1, a2, fun pos cv hcv => ?_⟩
    obtain ⟨c', e1, e2⟩ := a3 pos cv hcv
    refine ⟨c', e1, ?_⟩
    show upd S.H (S.io n) o c' = _
    rw [upd_ne (fun z => ?_)]
    · exact e2
    · rw [z, hu0] at e2
      cases c0 with
      | lst xs => obtain ⟨_, e, _⟩ := cr0; rw [e] at e2; cases e2
      | ins c xs => obtain ⟨_, _, e, _⟩ := cr0; rw [e] at e2; cases e2
  · by_cases z : a = S.io n
    · have e' : upd S.H (S.io n) o a = some (.tbl ps) := e
      rw [z, upd_same] at e'
      exact absurd (Option.some.inj e') (ho ps)
    · have e' : upd S.H (S.io n) o a = some (.tbl ps) := e
      rw [upd_ne z] at e'
      exact w.tin a ps e'

/-- a cell is given up: what it held stands for ever -/
theorem Go.freeze {S : S8} {n : Nat} {o : HO} (w : Wf T S) (hl : Live S.M n) (hH : S.H (S.io n) = some o) (ho : ∀ ps, o ≠ .tbl ps) :
    Go S { S with F := upd S.F (S.io n) o, M := S.M.set n none } ∧ Wf T { S with F := upd S.F (S.io n) o, M := S.M.set n none } := by
  obtain ⟨c0, hc0⟩ := hl
  obtain ⟨hF, u0, hu0, cr0⟩ := w.cell n c0 hc0
  have hn := (List.getElem?_eq_some_iff.mp hc0).1
  have lv : ∀ m, Live (S.M.set n none) m → Live S.M m ∧ m ≠ n := fun m ⟨d, hd⟩ => by
    by_cases h : m = n
    · subst h
      rw [List.getElem?_set_self hn] at hd
      simp at hd
    · rw [List.getElem?_set_ne (Ne.symm h)] at hd
      exact ⟨⟨d, hd⟩, h⟩
  have hFm : ∀ a u, S.F a = some u → upd S.F (S.io n) o a = some u := fun a u e => by
    rw [upd_ne (fun z => by rw [z, hF] at e; cases e)]; exact e
  have g : Go S { S with F := upd S.F (S.io n) o, M := S.M.set n none } := by
    refine ⟨hFm, fun a u e _ _ => e, fun a e nc => ?_, fun a e => e, by show S.M.length ≤ (S.M.set n none).length; rw [List.length_set]; exact Nat.le_refl _, fun _ _ => rfl, fun m h => .inl (lv m h).1⟩
    show upd S.F (S.io n) o a = S.F a
    rw [upd_ne (fun z => nc n ⟨c0, hc0⟩ z.symm)]
  refine ⟨g, fun a u e => ?_, fun m d hd => ?_, fun a b ha hb e => w.inj a b (lv a ha).1 (lv b hb).1 e, fun a ps e => ?_, w.tabs, w.tin, fun S0 h => (w.amb S0 h).trans g⟩
  · by_cases z : a = S.io n
    · have e' : upd S.F (S.io n) o a = some u := e
      rw [z, upd_same] at e'
      rw [z, ← e']; exact hH
    · have e' : upd S.F (S.io n) o a = some u := e
      rw [upd_ne z] at e'
      exact w.fh _ _ e'
  · have lm := lv m ⟨d, hd⟩
    have hd' : (S.M.set n none)[m]? = some (some d) := hd
    rw [List.getElem?_set_ne (Ne.symm lm.2)] at hd'
    obtain ⟨h1, u, hu, cr⟩ := w.cell m d hd'
    refine ⟨?_, u, hu, CellR.up g.F g.io g.len cr⟩
    show upd S.F (S.io n) o (S.io m) = none
    rw [upd_ne (fun z => lm.2 (w.inj m n ⟨d, hd'⟩ ⟨c0, hc0⟩ z))]; exact h1
  · by_cases z : a = S.io n
    · have e' : upd S.F (S.io n) o a = some (.tbl ps) := e
      rw [z, upd_same] at e'
      exact ho ps (Option.some.inj e')
    · have e' : upd S.F (S.io n) o a = some (.tbl ps) := e
      rw [upd_ne z] at e'
      exact w.ft a ps e'

/-! ### new lists, new tuples -/
theorem allD_plain : ∀ {xs : List Val} {l : List D}, allD xs = some l → xs.all plainV = true
  | [], _, _ => rfl
  | .d x :: r, l, h => by
    simp only [allD] at h
    split at h
    · rename_i z
      rw [List.all_cons, allD_plain z]; rfl
    · cases h
  | .ref _ :: _, _, h => by simp [allD] at h
  | .exn _ _ :: _, _, h => by simp [allD] at h
  | .lam :: _, _, h => by simp [allD] at h
theorem newL_ok {pn pn' : List (Addr × Obj)} {S : S8} {mt : Bool} {xs : List Val} {Q : V → Hp → Prop} {E : Value → Option Addr → Hp → Prop} (w : Wf T S) (h : Post T pn (newL mt xs S.M) S Q E) :
    xs.length ≤ sizeLine ∧ ∀ p vs, S.H p = none → RepVs T pn' S xs vs → Q (.ref p) (upd S.H p (.lst vs)) := by
  unfold newL at h
  by_cases hz : xs.length ≤ lim
  · rw [if_pos hz] at h
    refine ⟨by rw [← lim_eq]; exact hz, fun p vs hp hr => ?_⟩
    cases mt with
    | true =>
      by_cases hpl : xs.all plainV = true
      · simp only [hpl, if_true] at h
        obtain ⟨g, w'⟩ := Go.cell (p := p) (o := .lst vs) (c := .lst xs) w hp (fun ps z => by cases z) ⟨vs, rfl, RepVs.plain hpl hr⟩
        refine h _ _ g w' rfl ⟨?_, ?_⟩
        · show V.ref p = V.ref (if S.M.length = S.M.length then p else S.io S.M.length)
          rw [if_pos rfl]
        · show S.M.length < (S.M ++ [some (Cell.lst xs)]).length
          rw [List.length_append]; exact Nat.lt_succ_self _
      · simp only [hpl] at h
        exact False.elim h
    | false =>
      cases e : allD xs with
      | none =>
        simp only [e] at h
        exact False.elim h
      | some l =>
        simp only [e] at h
        obtain ⟨g, w'⟩ := Go.alloc (p := p) (o := .lst vs) w hp (fun ps z => by cases z)
        refine h _ _ g w' rfl ?_
        show RepD T (upd S.F p (.lst vs)) (.lst l) (.ref p)
        simp only [RepD]
        exact ⟨p, vs, rfl, upd_same, RepL.mono g.F _ _ (RepVs.toL e hr)⟩
  · rw [if_neg hz] at h
    exact False.elim h
theorem newT_ok {pn : List (Addr × Obj)} {S : S8} {xs : List Val} {Q : V → Hp → Prop} {E : Value → Option Addr → Hp → Prop} (w : Wf T S) (h : Post T pn (newT xs S.M) S Q E) :
    xs.length ≤ sizeLine ∧ ∃ l, allD xs = some l ∧ (∀ p vs, S.H p = none → RepL T S.F l vs → Q (.ref p) (upd S.H p (.tup vs))) ∧ ∀ a vs, SqT T.K S.F a vs → RepL T S.F l vs → Q (.ref a) S.H := by
  unfold newT at h
  by_cases hz : xs.length ≤ lim
  · rw [if_pos hz] at h
    refine ⟨by rw [← lim_eq]; exact hz, ?_⟩
    cases e : allD xs with
    | none =>
      simp only [e] at h
      exact False.elim h
    | some l =>
      simp only [e] at h
      refine ⟨l, rfl, fun p vs hp hr => ?_, fun a vs ha hr => ?_⟩
      · obtain ⟨g, w'⟩ := Go.alloc (p := p) (o := .tup vs) w hp (fun ps z => by cases z)
        refine h _ _ g w' rfl ?_
        show RepD T (upd S.F p (.tup vs)) (.tup l) (.ref p)
        simp only [RepD]
        exact ⟨p, vs, rfl, SqT.of upd_same, RepL.mono g.F _ _ hr⟩
      · refine h S _ (Go.refl S) w rfl ?_
        show RepD T S.F (.tup l) (.ref a)
        simp only [RepD]
        exact ⟨a, vs, rfl, ha, hr⟩
  · rw [if_neg hz] at h
    exact False.elim h
end
end BV

set_option Elab.async false
set_option maxRecDepth 100000
set_option maxHeartbeats 4000000
/-! BV4: operators on data. -/
namespace BV
open PySem L2
section
variable {X : Cx} {T : Ad} {P : Pg} {C : Caller} {W : WX} {k : Nat} {pn : List (Addr × Obj)}

/-- a datum whose outermost list may be a cell's -/
def RepT (T : Ad) (S : S8) : D → V → Prop
  | .lst l, v => ∃ a xs, v = .ref a ∧ S.H a = some (.lst xs) ∧ RepL T S.F l xs
  | d, v => RepD T S.F d v
theorem RepT.of {S : S8} (w : Wf T S) {d : D} {x : V} (h : RepD T S.F d x) : RepT T S d x := by
  cases d with
  | lst l =>
    simp only [RepD] at h
    obtain ⟨a, xs, h1, h2, h3⟩ := h
    exact ⟨a, xs, h1, w.fh _ _ h2, h3⟩
  | _ => exact h
theorem RepT.H {S : S8} (w : Wf T S) {d : D} {x : V} (h : RepT T S d x) : RepD T S.H d x := by
  cases d with
  | lst l =>
    obtain ⟨a, xs, h1, h2, h3⟩ := h
    simp only [RepD]
    exact ⟨a, xs, h1, h2, RepL.mono w.fh _ _ h3⟩
  | _ => exact RepD.mono w.fh _ _ h
theorem RepV.data {S : S8} (w : Wf T S) : ∀ {v : Val} {d : D} {x : V}, dataOf S.M v = some d → RepV T pn S v x → RepT T S d x
  | .d y, d, x, e, h => by
    simp only [dataOf] at e
    cases e
    exact RepT.of w h
  | .ref n, d, x, e, h => by
    simp only [dataOf] at e
    split at e
    · rename_i xs q
      split at e
      · rename_i l q2
        cases e
        obtain ⟨h1, h2⟩ := h
        obtain ⟨_, o, ho, vs, eo, hr⟩ := w.cell n _ q
        subst eo
        exact ⟨S.io n, vs, h1, ho, RepVs.toL q2 hr⟩
      · cases e
    · cases e
  | .exn c ds, d, x, e, h => by simp [dataOf] at e
  | .lam, d, x, e, h => by simp [dataOf] at e

/-- an operator on data alone -/
def datF (k : K2) (a b : Val) (M : Store) : R Val :=
  match dataOf M a, dataOf M b with
  | some x, some y => datOp k x y M
  | _, _ => .no

theorem dat_of {g : Value → Value → Sem Value} {rr : R2} {k : K2} (ho : OpR X g rr)
    (h : ∀ (σ : St) (S : S8) (a b : D) (x y : V) (Q : VK), Wf T S → RepT T S a x → RepT T S b y → Post T X.pn (datOp k a b S.M) S Q (atW W σ) → rr x y S.H Q) : OpS X T W (datF k) g := by
  refine OpS.of ho fun σ S a b x y Q w r1 r2 p => ?_
  unfold datF at p
  cases e1 : dataOf S.M a with
  | none => rw [e1] at p; exact False.elim p
  | some da =>
    cases e2 : dataOf S.M b with
    | none => rw [e1, e2] at p; exact False.elim p
    | some db =>
      rw [e1, e2] at p
      exact h σ S da db x y Q w (RepV.data w e1 r1) (RepV.data w e2 r2) p
theorem post_d {S : S8} {d : D} {x : V} {Q : VK} {E : Value → Option Addr → Hp → Prop} (w : Wf T S) (p : Post T pn (.ok (.d d) S.M) S Q E) (h : RepD T S.F d x) : Q x S.H := p S x (Go.refl S) w rfl h

theorem mulOk_ok {i j : Int} (h : mulOk i j = true) : IntMulOk i j := by
  unfold mulOk at h
  rw [Bool.or_eq_true, Bool.or_eq_true] at h
  rcases h with (h | h) | h
  · have := of_decide_eq_true h
    exact CMul.ok (.inl ⟨by omega, by omega⟩)
  · have := of_decide_eq_true h
    exact CMul.ok (.inr ⟨by omega, by omega⟩)
  · have h' : i.natAbs.log2 + j.natAbs.log2 < 1000000 := of_decide_eq_true h
    exact CMulW.ok h'
theorem op_mulD : OpR X (binaryOp .Mult) (rI (fun i j => mulOk i j = true) fun i j => .int (i * j)) := opI fun _ _ _ _ _ _ _ hc q => PyProof.Rows.mul_int q (mulOk_ok hc)
theorem op_powD : OpR X (binaryOp .Pow) (rI (fun i j => powOk i j = true) fun i j => .int (i ^ j.toNat)) := opI fun i j _ _ _ _ _ hc q => by
  unfold powOk at hc
  rw [Bool.and_eq_true, Bool.and_eq_true] at hc
  exact PyProof.Rows.pow_int_small (of_decide_eq_true hc.1.1) (of_decide_eq_true hc.1.2) (of_decide_eq_true hc.2) q

theorem rl_int {F : Hp} {i : Int} {x : V} (h : RepD T F (.int i) x) : x = .int i := by simpa [RepD] using h
theorem rl_str {F : Hp} {i : Str} {x : V} (h : RepD T F (.str i) x) : x = .str i := by simpa [RepD] using h
theorem rl_bl {F : Hp} {i : Bool} {x : V} (h : RepD T F (.bl i) x) : x = .bl i := by simpa [RepD] using h
theorem rl_non {F : Hp} {x : V} (h : RepD T F .non x) : x = .non := by simpa [RepD] using h
theorem rl_lst {F : Hp} {l : List D} {x : V} (h : RepD T F (.lst l) x) : ∃ a xs, x = .ref a ∧ F a = some (.lst xs) ∧ RepL T F l xs := by simpa [RepD] using h
theorem rl_tup {F : Hp} {l : List D} {x : V} (h : RepD T F (.tup l) x) : ∃ a xs, x = .ref a ∧ SqT T.K F a xs ∧ RepL T F l xs := by simpa [RepD] using h
theorem rt_int {S : S8} {i : Int} {x : V} (h : RepT T S (.int i) x) : x = .int i := rl_int (T := T) (F := S.F) h
theorem rt_str {S : S8} {i : Str} {x : V} (h : RepT T S (.str i) x) : x = .str i := rl_str (T := T) (F := S.F) h
theorem rt_bl {S : S8} {i : Bool} {x : V} (h : RepT T S (.bl i) x) : x = .bl i := rl_bl (T := T) (F := S.F) h
theorem rt_non {S : S8} {x : V} (h : RepT T S .non x) : x = .non := rl_non (T := T) (F := S.F) h
theorem rt_tup {S : S8} {l : List D} {x : V} (h : RepT T S (.tup l) x) : ∃ a xs, x = .ref a ∧ SqT T.K S.F a xs ∧ RepL T S.F l xs := rl_tup (T := T) (F := S.F) h
theorem rp_int {F : Hp} {i : Int} : RepD T F (.int i) (.int i) := by simp [RepD]
theorem rp_bl {F : Hp} {i : Bool} : RepD T F (.bl i) (.bl i) := by simp [RepD]
theorem rp_str {F : Hp} {i : Str} : RepD T F (.str i) (.str i) := by simp [RepD]
theorem rp_non {F : Hp} : RepD T F .non .non := by simp [RepD]

theorem RepL.app {F : Hp} : ∀ {l l' : List D} {vs vs' : List V}, RepL T F l vs → RepL T F l' vs' → RepL T F (l ++ l') (vs ++ vs')
  | [], l', vs, vs', h, h' => by
    have e : vs = [] := by simpa [RepL] using h
    rw [e]; exact h'
  | x :: xs, l', vs, vs', h, h' => by
    simp only [RepL] at h
    obtain ⟨y, ys, e, h1, h2⟩ := h
    rw [e]
    show RepL T F (x :: (xs ++ l')) (y :: (ys ++ vs'))
    simp only [RepL]
    exact ⟨y, ys ++ vs', rfl, h1, RepL.app h2 h'⟩
theorem RepL.rep {F : Hp} {l : List D} {vs : List V} (h : RepL T F l vs) : ∀ n : Nat, RepL T F (List.replicate n l).flatten (List.replicate n vs).flatten
  | 0 => by simp [RepL]
  | n + 1 => by
    rw [List.replicate_succ, List.replicate_succ, List.flatten_cons, List.flatten_cons]
    exact RepL.app h (RepL.rep h n)

/-! ### arithmetic, comparisons of ints -/
theorem ds_int {g : Value → Value → Sem Value} {k : K2} {c : Int → Int → Bool} {f : Int → Int → D} {f' : Int → Int → V} {rr : R2} (ho : OpR X g rr) (e : ∀ a b M, datOp k a b M = intOp c f a b M)
    (hf : ∀ F i j, RepD T F (f i j) (f' i j)) (hr : ∀ i j H Q, c i j = true → Q (f' i j) H → rr (.int i) (.int j) H Q) : OpS X T W (datF k) g := dat_of ho fun σ S a b x y Q w r1 r2 p => by
  rw [e] at p
  unfold intOp at p
  split at p
  · split at p
    · rename_i i j hc
      obtain rfl := rt_int r1
      obtain rfl := rt_int r2
      exact hr _ _ _ _ hc (post_d w p (hf _ _ _))
    · exact False.elim p
  · exact False.elim p
theorem ds_sub : OpS X T W (datF .sub) (binaryOp .Sub) := ds_int (f' := fun i j => .int (i - j)) op_sub (fun _ _ _ => rfl) (fun _ _ _ => rp_int) fun i j H Q _ q => ⟨i, j, rfl, rfl, q⟩
theorem ds_fdiv : OpS X T W (datF .fdiv) (binaryOp .FloorDiv) := ds_int (f' := fun i j => .int (i / j)) op_fdivW (fun _ _ _ => rfl) (fun _ _ _ => rp_int) fun i j H Q hc q => by
  unfold divOk at hc
  rw [Bool.and_eq_true] at hc
  exact ⟨i, j, rfl, rfl, ⟨of_decide_eq_true hc.1, of_decide_eq_true hc.2⟩, q⟩
theorem ds_mod : OpS X T W (datF .mod) (binaryOp .Mod) := ds_int (f' := fun i j => .int (i % j)) op_mod (fun _ _ _ => rfl) (fun _ _ _ => rp_int) fun i j H Q hc q => ⟨i, j, rfl, rfl, of_decide_eq_true hc, q⟩
theorem ds_pow : OpS X T W (datF .pow) (binaryOp .Pow) := ds_int (f' := fun i j => .int (i ^ j.toNat)) op_powD (fun _ _ _ => rfl) (fun _ _ _ => rp_int) fun i j H Q hc q => ⟨i, j, rfl, rfl, hc, q⟩
theorem ds_lt : OpS X T W (datF .lt) (compareOp .Lt) := ds_int (f' := fun i j => .bl (decide (i < j))) op_lt (fun _ _ _ => rfl) (fun _ _ _ => rp_bl) fun i j H Q _ q => ⟨i, j, rfl, rfl, q⟩
theorem ds_le : OpS X T W (datF .le) (compareOp .LtE) := ds_int (f' := fun i j => .bl (decide (i ≤ j))) op_le (fun _ _ _ => rfl) (fun _ _ _ => rp_bl) fun i j H Q _ q => ⟨i, j, rfl, rfl, q⟩
theorem ds_gt : OpS X T W (datF .gt) (compareOp .Gt) := ds_int (f' := fun i j => .bl (decide (j < i))) op_gt (fun _ _ _ => rfl) (fun _ _ _ => rp_bl) fun i j H Q _ q => ⟨i, j, rfl, rfl, q⟩
theorem ds_ge : OpS X T W (datF .ge) (compareOp .GtE) := ds_int (f' := fun i j => .bl (decide (j ≤ i))) op_ge (fun _ _ _ => rfl) (fun _ _ _ => rp_bl) fun i j H Q _ q => ⟨i, j, rfl, rfl, q⟩

/-! ### +, * -/
theorem ds_add {k : K2} {mt : Bool} (e : ∀ a b M, datOp k a b M = datAdd mt a b M) : OpS X T W (datF k) (binaryOp .Add) := dat_of (op_add.or (op_add_str.or op_cat)) fun σ S a b x y Q w r1 r2 p => by
  rw [e] at p
  unfold datAdd at p
  split at p
  · split at p
    · exact False.elim p
    · obtain rfl := rt_int r1
      obtain rfl := rt_int r2
      exact .inl ⟨_, _, rfl, rfl, post_d w p rp_int⟩
  · split at p
    · exact False.elim p
    · split at p
      · rename_i hz
        obtain rfl := rt_str r1
        obtain rfl := rt_str r2
        exact .inr (.inl ⟨_, _, rfl, rfl, by rw [← lim_eq]; exact hz, post_d w p rp_str⟩)
      · exact False.elim p
  · obtain ⟨p1, xs, e1, h1, l1⟩ := r1
    obtain ⟨p2, ys, e2, h2, l2⟩ := r2
    obtain ⟨hz, hq⟩ := newL_ok w p
    have l3 := RepL.app l1 l2
    refine .inr (.inr ⟨p1, p2, xs, ys, e1, e2, h1, h2, ?_, fun q hq' => hq q _ hq' (RepVs.ofL (pn := []) l3)⟩)
    rw [List.length_map, List.length_append] at hz
    rw [RepL.length l1, RepL.length l2]
    exact hz
  · exact False.elim p
theorem ds_mul {k : K2} {mt : Bool} (e : ∀ a b M, datOp k a b M = datMul mt a b M) : OpS X T W (datF k) (binaryOp .Mult) := dat_of (op_mulD.or op_rep) fun σ S a b x y Q w r1 r2 p => by
  rw [e] at p
  unfold datMul at p
  split at p
  · split at p
    · exact False.elim p
    · split at p
      · rename_i hc
        obtain rfl := rt_int r1
        obtain rfl := rt_int r2
        exact .inl ⟨_, _, rfl, rfl, hc, post_d w p rp_int⟩
      · exact False.elim p
  · split at p
    · rename_i hc
      obtain ⟨p1, xs, e1, h1, l1⟩ := r1
      obtain rfl := rt_int r2
      obtain ⟨hz, hq⟩ := newL_ok w p
      refine .inr ⟨p1, _, xs, e1, rfl, h1, hc.2.1, hc.2.2, ?_, fun q hq' => hq q _ hq' (RepVs.ofL (pn := []) (RepL.rep l1 _))⟩
      rw [RepL.length l1, ← lim_eq]
      exact hc.1
    · exact False.elim p
  · exact False.elim p
end
end BV

set_option Elab.async false
set_option maxRecDepth 100000
set_option maxHeartbeats 4000000
/-! BV5: == of data, in, is, items. -/
namespace BV
open PySem L2

theorem eqDs_all {f : D → D → Option Bool} : ∀ {l m : List D} {k : Bool}, eqDs f l m = some k →
    (∀ (j : Nat) x y, l[j]? = some x → m[j]? = some y → ∃ b, f x y = some b) ∧
    k = ((List.range (min l.length m.length)).all (fun j => (f (l.getD j .non) (m.getD j .non)).getD false) && l.length == m.length)
  | [], [], k, h => by
    simp only [eqDs] at h
    cases h
    exact ⟨fun j x y e => by simp at e, by simp⟩
  | [], y :: ys, k, h => by
    simp only [eqDs] at h
    cases h
    exact ⟨fun j x y e => by simp at e, by simp⟩
  | x :: xs, [], k, h => by
    simp only [eqDs] at h
    cases h
    exact ⟨fun j x y _ e => by simp at e, by simp⟩
  | x :: xs, y :: ys, k, h => by
    simp only [eqDs] at h
    split at h
    · rename_i a b e1 e2
      cases h
      obtain ⟨h1, h2⟩ := eqDs_all e2
      refine ⟨fun j u v eu ev => ?_, ?_⟩
      · cases j with
        | zero =>
          simp at eu ev
          subst eu ev
          exact ⟨a, e1⟩
        | succ j => exact h1 j u v (by simpa using eu) (by simpa using ev)
      · rw [h2, List.length_cons, List.length_cons, Nat.succ_min_succ, List.range_succ_eq_map, List.all_cons, List.all_map]
        have z : ((xs.length + 1 == ys.length + 1) : Bool) = (xs.length == ys.length) := by
          rw [Bool.eq_iff_iff]; simp
        rw [z, Bool.and_assoc]
        congr 1
        show a = (f ((x :: xs).getD 0 .non) ((y :: ys).getD 0 .non)).getD false
        simp [e1]
    · cases h

section
variable {X : Cx} {T : Ad} {W : WX} {pn : List (Addr × Obj)} {pins : List (Addr × Obj)} {σ : St} {H : Hp} {s : Shared}

theorem RepL.get {F : Hp} : ∀ {l : List D} {vs : List V} {i : Nat} {x : D}, RepL T F l vs → l[i]? = some x → ∃ y, vs[i]? = some y ∧ RepD T F x y
  | [], vs, i, x, h, e => by simp at e
  | z :: xs, vs, 0, x, h, e => by
    simp only [RepL] at h
    obtain ⟨y, ys, e', h1, h2⟩ := h
    simp at e
    subst e
    exact ⟨y, by rw [e']; rfl, h1⟩
  | z :: xs, vs, i + 1, x, h, e => by
    simp only [RepL] at h
    obtain ⟨y, ys, e', h1, h2⟩ := h
    obtain ⟨w, a, b⟩ := RepL.get h2 (i := i) (x := x) (by simpa using e)
    exact ⟨w, by rw [e']; simpa using a, b⟩

/-- the same value is equal to itself -/
theorem eqD_same (I : Inv X pins σ H s) (hK : X.K = T.K) : ∀ (n : Nat) (a b : D) (x : V) (k : Bool), eqD n a b = some k → RepD T H a x → RepD T H b x → k = true := by
  intro n
  induction n with
  | zero => intro a b x k h; simp [eqD] at h
  | succ n ih =>
    intro a b x k h ra rb
    have lists : ∀ (l m : List D) (vs : List V), eqDs (eqD n) l m = some k → RepL T H l vs → RepL T H m vs → k = true := fun l m vs e r1 r2 => by
      obtain ⟨h1, h2⟩ := eqDs_all e
      have hl : l.length = m.length := (RepL.length r1).symm.trans (RepL.length r2)
      rw [h2, hl, Nat.min_self, Bool.and_eq_true]
      refine ⟨List.all_eq_true.mpr fun j hj => ?_, by simp⟩
      have hj2 : j < m.length := List.mem_range.mp hj
      have hj1 : j < l.length := by omega
      have e1 : l[j]? = some l[j] := List.getElem?_eq_getElem hj1
      have e2 : m[j]? = some m[j] := List.getElem?_eq_getElem hj2
      obtain ⟨b, hb⟩ := h1 j _ _ e1 e2
      obtain ⟨y, hy, ry⟩ := RepL.get r1 e1
      obtain ⟨y', hy', ry'⟩ := RepL.get r2 e2
      rw [hy] at hy'
      cases hy'
      have g1 : l.getD j .non = l[j] := by simp [List.getD, e1]
      have g2 : m.getD j .non = m[j] := by simp [List.getD, e2]
      show (eqD n (l.getD j .non) (m.getD j .non)).getD false = true
      rw [g1, g2, hb]
      exact ih _ _ y b hb ry ry'
    cases a <;> cases b <;> simp only [eqD] at h <;> first
      | (cases h; done)
      | (simp only [RepD] at ra rb; subst ra; cases rb; cases h; simp; done)
      | (simp only [RepD] at ra rb; rw [ra] at rb; cases rb; done)
      | skip
    rotate_left
    · obtain ⟨p, xs, e1, h1, r1⟩ := rl_tup ra
      obtain ⟨p2, ys, e2, h2, r2⟩ := rl_lst rb
      rw [e1] at e2
      cases e2
      obtain ⟨_, _, ⟨o, z1, z2, _⟩, _⟩ := I.tuple (hK ▸ h1)
      obtain ⟨_, _, ⟨o', _, y1, y2, _⟩, _⟩ := I.list (SqL.of h2)
      rw [z1] at y1
      cases y1
      rw [z2] at y2
      exact absurd y2 (by decide +kernel)
    · obtain ⟨p, xs, e1, h1, r1⟩ := rl_lst ra
      obtain ⟨p2, ys, e2, h2, r2⟩ := rl_tup rb
      rw [e1] at e2
      cases e2
      obtain ⟨_, _, ⟨o, z1, z2, _⟩, _⟩ := I.tuple (hK ▸ h2)
      obtain ⟨_, _, ⟨o', _, y1, y2, _⟩, _⟩ := I.list (SqL.of h1)
      rw [z1] at y1
      cases y1
      rw [z2] at y2
      exact absurd y2 (by decide +kernel)
    rotate_left
    · obtain ⟨p, xs, e1, h1, r1⟩ := rl_tup ra
      obtain ⟨p2, ys, e2, h2, r2⟩ := rl_tup rb
      rw [e1] at e2
      cases e2
      have := I.tuple_inj (hK ▸ h1) (hK ▸ h2)
      subst this
      exact lists _ _ _ h r1 r2
    · obtain ⟨p, xs, e1, h1, r1⟩ := rl_lst ra
      obtain ⟨p2, ys, e2, h2, r2⟩ := rl_lst rb
      rw [e1] at e2
      cases e2
      rw [h1] at h2
      cases h2
      exact lists _ _ _ h r1 r2

theorem eqAt_D (I : Inv X pins σ H s) (hK : X.K = T.K) : ∀ (n : Nat) (A : Around) (a b : D) (x y : V) (u v : Value) (k : Bool), eqD n a b = some k → RepD T H a x → RepD T H b y → RelV x u → RelV y v → A.units + n < cLine → SeqAt.EqAt A s u v k := by
  intro n
  induction n with
  | zero => intro A a b x y u v k h; simp [eqD] at h
  | succ n ih =>
    intro A a b x y u v k h ra rb rx ry hu
    have hu1 : A.in1.units + n < cLine := by show A.units + 1 + n < cLine; omega
    have hu0 : A.units < cLine := by omega
    have items : ∀ (l m : List D) (vs ws : List V) (its its2 : List Value) , eqDs (eqD n) l m = some k → RepL T H l vs → RepL T H m ws → Vals vs its → Vals ws its2 →
        ∀ (j : Nat) (h1 : j < its.toArray.size) (h2 : j < its2.toArray.size), SeqAt.EqAt A.in1 s its.toArray[j] its2.toArray[j] ((eqD n (l.getD j .non) (m.getD j .non)).getD false) := fun l m vs ws its its2 e r1 r2 q1 q2 j h1 h2 => by
      obtain ⟨g1, _⟩ := eqDs_all e
      have hj1 : j < l.length := by
        have := RepL.length r1
        have := q1.length
        have : j < its.length := by simpa using h1
        omega
      have hj2 : j < m.length := by
        have := RepL.length r2
        have := q2.length
        have : j < its2.length := by simpa using h2
        omega
      have e1 : l[j]? = some l[j] := List.getElem?_eq_getElem hj1
      have e2 : m[j]? = some m[j] := List.getElem?_eq_getElem hj2
      obtain ⟨b, hb⟩ := g1 j _ _ e1 e2
      obtain ⟨y1, hy1, ry1⟩ := RepL.get r1 e1
      obtain ⟨y2, hy2, ry2⟩ := RepL.get r2 e2
      obtain ⟨u1, hu1', rr1⟩ := q1.get hy1
      obtain ⟨u2, hu2', rr2⟩ := q2.get hy2
      have f1 : its.toArray[j] = u1 := by
        have z : its[j]? = some its.toArray[j] := by
          have h1' : j < its.length := by simpa using h1
          rw [List.getElem?_eq_getElem h1']; simp
        rw [hu1'] at z
        exact (Option.some.inj z).symm
      have f2 : its2.toArray[j] = u2 := by
        have z : its2[j]? = some its2.toArray[j] := by
          have h2' : j < its2.length := by simpa using h2
          rw [List.getElem?_eq_getElem h2']; simp
        rw [hu2'] at z
        exact (Option.some.inj z).symm
      have g1 : l.getD j .non = l[j] := by simp [List.getD, e1]
      have g2 : m.getD j .non = m[j] := by simp [List.getD, e2]
      rw [f1, f2, g1, g2, hb]
      exact ih A.in1 _ _ y1 y2 u1 u2 b hb ry1 ry2 rr1 rr2 hu1
    have flat : ∀ (hx : flatV x = true) (hy : flatV y = true) (e : eqV x y = k), SeqAt.EqAt A s u v k := fun hx hy e => by
      have q := eqAt_V (A := A) (s := s) rx ry hx hy
      rw [e] at q
      exact q
    have same := eqD_same I hK (n + 1) a b
    cases a <;> cases b <;> simp only [eqD] at h <;> first
      | (cases h; done)
      | (simp only [RepD] at ra rb; subst ra; subst rb; cases h; exact flat rfl rfl (by simp [eqV]))
      | skip
    all_goals first
      | done
      | skip
    · obtain ⟨p, xs, e1, h1, r1⟩ := rl_tup ra
      obtain ⟨p2, ys, e2, h2, r2⟩ := rl_tup rb
      subst e1 e2
      cases rx
      cases ry
      by_cases z : p = p2
      · subst z
        have := same (.ref p) k (by simpa only [eqD] using h) ra rb
        subst this
        exact SeqAt.EqAt.same _
      · obtain ⟨its, q1, t1, _⟩ := I.tuple (hK ▸ h1)
        obtain ⟨its2, q2, t2, _⟩ := I.tuple (hK ▸ h2)
        refine SeqAt.EqAt.of_refs z ?_
        have key := SeqAt.RcAt.tuples (A := A) (s := s) (e := fun j => (eqD n (List.getD _ j .non) (List.getD _ j .non)).getD false) t1 t2 hu0 (fun j g1 g2 => items _ _ _ _ _ _ h r1 r2 q1 q2 j g1 g2)
        have hk := (eqDs_all h).2
        have s1 : its.toArray.size = _ := (List.size_toArray).trans (q1.length.symm.trans (RepL.length r1))
        have s2 : its2.toArray.size = _ := (List.size_toArray).trans (q2.length.symm.trans (RepL.length r2))
        rw [s1, s2, ← hk] at key
        exact key
    · obtain ⟨p, xs, e1, h1, r1⟩ := rl_tup ra
      obtain ⟨p2, ys, e2, h2, r2⟩ := rl_lst rb
      subst e1 e2
      cases rx
      cases ry
      cases h
      obtain ⟨its, q1, t1, _⟩ := I.tuple (hK ▸ h1)
      obtain ⟨its2, q2, t2, _⟩ := I.list (SqL.of h2)
      exact SeqAt.EqAt.tuple_list t1 t2.isList hu0
    · obtain ⟨p, xs, e1, h1, r1⟩ := rl_lst ra
      obtain ⟨p2, ys, e2, h2, r2⟩ := rl_tup rb
      subst e1 e2
      cases rx
      cases ry
      cases h
      obtain ⟨its, q1, t1, _⟩ := I.list (SqL.of h1)
      obtain ⟨its2, q2, t2, _⟩ := I.tuple (hK ▸ h2)
      exact SeqAt.EqAt.list_tuple t1.isList t2 hu0
    · obtain ⟨p, xs, e1, h1, r1⟩ := rl_lst ra
      obtain ⟨p2, ys, e2, h2, r2⟩ := rl_lst rb
      subst e1 e2
      cases rx
      cases ry
      by_cases z : p = p2
      · subst z
        have := same (.ref p) k (by simpa only [eqD] using h) ra rb
        subst this
        exact SeqAt.EqAt.same _
      · obtain ⟨its, q1, t1, _⟩ := I.list (SqL.of h1)
        obtain ⟨its2, q2, t2, _⟩ := I.list (SqL.of h2)
        refine SeqAt.EqAt.of_refs z ?_
        have hk := (eqDs_all h).2
        have s1 : its.toArray.size = _ := (List.size_toArray).trans (q1.length.symm.trans (RepL.length r1))
        have s2 : its2.toArray.size = _ := (List.size_toArray).trans (q2.length.symm.trans (RepL.length r2))
        by_cases hsz : its.toArray.size = its2.toArray.size
        · have key := SeqAt.RcAt.lists (A := A) (s := s) (e := fun j => (eqD n (List.getD _ j .non) (List.getD _ j .non)).getD false) t1.isList t2.isList hsz hu0 (fun j g1 g2 => items _ _ _ _ _ _ h r1 r2 q1 q2 j g1 g2)
          rw [s1] at key
          rw [s1, s2] at hsz
          rw [hsz, Nat.min_self] at hk
          rw [hsz] at key
          simp only [beq_self_eq_true, Bool.and_true] at hk
          rw [← hk] at key
          exact key
        · have key := SeqAt.RcAt.lists_lengths (A := A) (s := s) t1.isList t2.isList (by simpa using hsz) hu0
          rw [s1, s2] at hsz
          have : k = false := by
            rw [hk, Bool.and_eq_false_iff]
            exact .inr (by simpa using hsz)
          rw [this]
          exact key

/-- == at the top: no look at identity -/
theorem rcAt_D (I : Inv X pins σ H s) (hK : X.K = T.K) (n : Nat) (A : Around) (a b : D) (x y : V) (u v : Value) (k : Bool) (h : eqD (n + 1) a b = some k) (ra : RepD T H a x) (rb : RepD T H b y) (rx : RelV x u) (ry : RelV y v) (hu : A.units + (n + 1) < cLine)
    (hs : scal x y = false) : SeqAt.RcAt A s u v k ∧ SeqAt.RcNeAt A s u v (!k) := by
  have hu1 : A.in1.units + n < cLine := by show A.units + 1 + n < cLine; omega
  have hu0 : A.units < cLine := by omega
  have items : ∀ (l m : List D) (vs ws : List V) (its its2 : List Value) , eqDs (eqD n) l m = some k → RepL T H l vs → RepL T H m ws → Vals vs its → Vals ws its2 →
      ∀ (j : Nat) (h1 : j < its.toArray.size) (h2 : j < its2.toArray.size), SeqAt.EqAt A.in1 s its.toArray[j] its2.toArray[j] ((eqD n (l.getD j .non) (m.getD j .non)).getD false) := fun l m vs ws its its2 e r1 r2 q1 q2 j h1 h2 => by
    obtain ⟨g1, _⟩ := eqDs_all e
    have hj1 : j < l.length := by
      have := RepL.length r1
      have := q1.length
      have : j < its.length := by simpa using h1
      omega
    have hj2 : j < m.length := by
      have := RepL.length r2
      have := q2.length
      have : j < its2.length := by simpa using h2
      omega
    have e1 : l[j]? = some l[j] := List.getElem?_eq_getElem hj1
    have e2 : m[j]? = some m[j] := List.getElem?_eq_getElem hj2
    obtain ⟨b, hb⟩ := g1 j _ _ e1 e2
    obtain ⟨y1, hy1, ry1⟩ := RepL.get r1 e1
    obtain ⟨y2, hy2, ry2⟩ := RepL.get r2 e2
    obtain ⟨u1, hu1', rr1⟩ := q1.get hy1
    obtain ⟨u2, hu2', rr2⟩ := q2.get hy2
    have f1 : its.toArray[j] = u1 := by
      have z : its[j]? = some its.toArray[j] := by
        have h1' : j < its.length := by simpa using h1
        rw [List.getElem?_eq_getElem h1']; simp
      rw [hu1'] at z
      exact (Option.some.inj z).symm
    have f2 : its2.toArray[j] = u2 := by
      have z : its2[j]? = some its2.toArray[j] := by
        have h2' : j < its2.length := by simpa using h2
        rw [List.getElem?_eq_getElem h2']; simp
      rw [hu2'] at z
      exact (Option.some.inj z).symm
    have g1 : l.getD j .non = l[j] := by simp [List.getD, e1]
    have g2 : m.getD j .non = m[j] := by simp [List.getD, e2]
    rw [f1, f2, g1, g2, hb]
    exact eqAt_D I hK n A.in1 _ _ y1 y2 u1 u2 b hb ry1 ry2 rr1 rr2 hu1
  cases a <;> cases b <;> simp only [eqD] at h <;> first
    | (cases h; done)
    | (simp only [RepD] at ra rb; subst ra; subst rb; cases hs; done)
    | skip
  · obtain ⟨p, xs, e1, h1, r1⟩ := rl_tup ra
    obtain ⟨p2, ys, e2, h2, r2⟩ := rl_tup rb
    subst e1 e2
    cases rx
    cases ry
    obtain ⟨its, q1, t1, _⟩ := I.tuple (hK ▸ h1)
    obtain ⟨its2, q2, t2, _⟩ := I.tuple (hK ▸ h2)
    have key := SeqAt.RcAt.tuples (A := A) (s := s) (e := fun j => (eqD n (List.getD _ j .non) (List.getD _ j .non)).getD false) t1 t2 hu0 (fun j g1 g2 => items _ _ _ _ _ _ h r1 r2 q1 q2 j g1 g2)
    have key2 := SeqAt.RcNeAt.tuples (A := A) (s := s) (e := fun j => (eqD n (List.getD _ j .non) (List.getD _ j .non)).getD false) t1 t2 hu0 (fun j g1 g2 => items _ _ _ _ _ _ h r1 r2 q1 q2 j g1 g2)
    have hk := (eqDs_all h).2
    have s1 : its.toArray.size = _ := (List.size_toArray).trans (q1.length.symm.trans (RepL.length r1))
    have s2 : its2.toArray.size = _ := (List.size_toArray).trans (q2.length.symm.trans (RepL.length r2))
    rw [s1, s2, ← hk] at key key2
    exact ⟨key, key2⟩
  · obtain ⟨p, xs, e1, h1, r1⟩ := rl_tup ra
    obtain ⟨p2, ys, e2, h2, r2⟩ := rl_lst rb
    subst e1 e2
    cases rx
    cases ry
    cases h
    obtain ⟨its, q1, t1, _⟩ := I.tuple (hK ▸ h1)
    obtain ⟨its2, q2, t2, _⟩ := I.list (SqL.of h2)
    exact ⟨SeqAt.RcAt.tuple_list t1 t2.isList hu0, SeqAt.RcNeAt.tuple_list t1 t2.isList hu0⟩
  · obtain ⟨p, xs, e1, h1, r1⟩ := rl_lst ra
    obtain ⟨p2, ys, e2, h2, r2⟩ := rl_tup rb
    subst e1 e2
    cases rx
    cases ry
    cases h
    obtain ⟨its, q1, t1, _⟩ := I.list (SqL.of h1)
    obtain ⟨its2, q2, t2, _⟩ := I.tuple (hK ▸ h2)
    exact ⟨SeqAt.RcAt.list_tuple t1.isList t2 hu0, SeqAt.RcNeAt.list_tuple t1.isList t2 hu0⟩
  · obtain ⟨p, xs, e1, h1, r1⟩ := rl_lst ra
    obtain ⟨p2, ys, e2, h2, r2⟩ := rl_lst rb
    subst e1 e2
    cases rx
    cases ry
    obtain ⟨its, q1, t1, _⟩ := I.list (SqL.of h1)
    obtain ⟨its2, q2, t2, _⟩ := I.list (SqL.of h2)
    have hk := (eqDs_all h).2
    have s1 : its.toArray.size = _ := (List.size_toArray).trans (q1.length.symm.trans (RepL.length r1))
    have s2 : its2.toArray.size = _ := (List.size_toArray).trans (q2.length.symm.trans (RepL.length r2))
    by_cases hsz : its.toArray.size = its2.toArray.size
    · have key := SeqAt.RcAt.lists (A := A) (s := s) (e := fun j => (eqD n (List.getD _ j .non) (List.getD _ j .non)).getD false) t1.isList t2.isList hsz hu0 (fun j g1 g2 => items _ _ _ _ _ _ h r1 r2 q1 q2 j g1 g2)
      have key2 := SeqAt.RcNeAt.lists (A := A) (s := s) (e := fun j => (eqD n (List.getD _ j .non) (List.getD _ j .non)).getD false) t1.isList t2.isList hsz hu0 (fun j g1 g2 => items _ _ _ _ _ _ h r1 r2 q1 q2 j g1 g2)
      rw [s1] at key key2
      rw [s1, s2] at hsz
      rw [hsz, Nat.min_self] at hk
      rw [hsz] at key key2
      simp only [beq_self_eq_true, Bool.and_true] at hk
      rw [← hk] at key key2
      exact ⟨key, key2⟩
    · have key := SeqAt.RcAt.lists_lengths (A := A) (s := s) t1.isList t2.isList (by simpa using hsz) hu0
      have key2 := SeqAt.RcNeAt.lists_lengths (A := A) (s := s) t1.isList t2.isList (by simpa using hsz) hu0
      rw [s1, s2] at hsz
      have : k = false := by
        rw [hk, Bool.and_eq_false_iff]
        exact .inr (by simpa using hsz)
      rw [this]
      exact ⟨key, key2⟩

/-- scalars: what eqD says is what the layer says -/
theorem scal_eq {n : Nat} {a b : D} {x y : V} {k : Bool} (h : eqD (n + 1) a b = some k) (ra : RepD T H a x) (rb : RepD T H b y) (hs : scal x y = true) : decide (x = y) = k := by
  cases a <;> cases b <;> simp only [eqD] at h <;> first
    | (cases h; done)
    | (simp only [RepD] at ra rb; subst ra; subst rb; cases h; simp; done)
    | (cases h; simp only [RepD] at ra rb; subst ra; subst rb; rw [Bool.eq_iff_iff]; simp; done)
    | skip
  all_goals first
    | (obtain ⟨p, xs, e1, _⟩ := rl_tup ra; subst e1; cases y <;> cases hs; done)
    | (obtain ⟨p, xs, e1, _⟩ := rl_lst ra; subst e1; cases y <;> cases hs; done)

theorem ds_eq {k : Nat} (hK : X.K = T.K) (hr : Room k X.A) : OpS X T W (datF .eq) (compareOp .Eq) := by
  intro pins s σ S a b x y v u Q I w rx ry r1 r2 p
  unfold datF at p
  cases e1 : dataOf S.M a with
  | none => rw [e1] at p; exact False.elim p
  | some da =>
    cases e2 : dataOf S.M b with
    | none => rw [e1, e2] at p; exact False.elim p
    | some db =>
      rw [e1, e2] at p
      have ra := RepT.H w (RepV.data w e1 r1)
      have rb := RepT.H w (RepV.data w e2 r2)
      have p' : Post T X.pn (datEq false da db S.M) S Q (atW W σ) := p
      unfold datEq at p'
      cases e : eqD 12 da db with
      | none => simp only [e] at p'; exact False.elim p'
      | some t =>
        simp only [e] at p'
        have q := post_d w p' rp_bl
        by_cases hs : scal x y = true
        · refine op_eq pins s σ S.H x y v u Q I rx ry ⟨hs, ?_⟩
          rw [scal_eq e ra rb hs]
          exact q
        · have hs' : scal x y = false := by simpa using hs
          exact (rcAt_D I hK 11 X.A da db x y v u t e ra rb rx ry (by have := hr.units; omega) hs').1 X.prog X.w X.xe _ ⟨.bl t, S.H, I, rfl, q⟩
theorem ds_ne {k : Nat} (hK : X.K = T.K) (hr : Room k X.A) : OpS X T W (datF .ne) (compareOp .NotEq) := by
  intro pins s σ S a b x y v u Q I w rx ry r1 r2 p
  unfold datF at p
  cases e1 : dataOf S.M a with
  | none => rw [e1] at p; exact False.elim p
  | some da =>
    cases e2 : dataOf S.M b with
    | none => rw [e1, e2] at p; exact False.elim p
    | some db =>
      rw [e1, e2] at p
      have ra := RepT.H w (RepV.data w e1 r1)
      have rb := RepT.H w (RepV.data w e2 r2)
      have p' : Post T X.pn (datEq true da db S.M) S Q (atW W σ) := p
      unfold datEq at p'
      cases e : eqD 12 da db with
      | none => simp only [e] at p'; exact False.elim p'
      | some t =>
        simp only [e] at p'
        have q := post_d w p' rp_bl
        by_cases hs : scal x y = true
        · refine op_ne pins s σ S.H x y v u Q I rx ry ⟨hs, ?_⟩
          rw [scal_eq e ra rb hs]
          exact q
        · have hs' : scal x y = false := by simpa using hs
          exact (rcAt_D I hK 11 X.A da db x y v u t e ra rb rx ry (by have := hr.units; omega) hs').2 X.prog X.w X.xe _ ⟨.bl (!t), S.H, I, rfl, q⟩

/-! ### is None; in -/
theorem ds_isn : OpS X T W (datF .isn) (compareOp .Is) := dat_of op_isN fun σ S a b x y Q w r1 r2 p => by
  have p' : Post T X.pn (datIs false a b S.M) S Q (atW W σ) := p
  unfold datIs at p'
  split at p'
  · refine ⟨rt_non r2, ?_⟩
    split at p'
    · rw [rt_non r1]
      exact post_d w p' rp_bl
    · rename_i hn
      have : decide (x = V.non) = false := by
        refine decide_eq_false fun z => hn ?_
        subst z
        have r1' := RepT.H w r1
        cases a <;> simp only [RepD] at r1' <;> first | rfl | (cases r1'; done) | (obtain ⟨_, _, z, _⟩ := r1'; cases z; done) | (obtain ⟨_, _, _, z, _⟩ := r1'; cases z; done)
      rw [this]
      exact post_d w p' rp_bl
  · exact False.elim p'
theorem ds_notn : OpS X T W (datF .notn) (compareOp .IsNot) := dat_of op_notN fun σ S a b x y Q w r1 r2 p => by
  have p' : Post T X.pn (datIs true a b S.M) S Q (atW W σ) := p
  unfold datIs at p'
  split at p'
  · refine ⟨rt_non r2, ?_⟩
    split at p'
    · rw [rt_non r1]
      exact post_d w p' rp_bl
    · rename_i hn
      have : decide (x = V.non) = false := by
        refine decide_eq_false fun z => hn ?_
        subst z
        have r1' := RepT.H w r1
        cases a <;> simp only [RepD] at r1' <;> first | rfl | (cases r1'; done) | (obtain ⟨_, _, z, _⟩ := r1'; cases z; done) | (obtain ⟨_, _, _, z, _⟩ := r1'; cases z; done)
      rw [this]
      exact post_d w p' rp_bl
  · exact False.elim p'
theorem flat_rep {F : Hp} {d : D} {x : V} (h : flatD d = true) (r : RepD T F d x) : x = toV d ∧ flatV x = true := by
  cases d <;> first
    | (cases h; done)
    | (simp only [RepD] at r; subst r; exact ⟨rfl, rfl⟩)
theorem flat_reps {F : Hp} : ∀ {l : List D} {xs : List V}, l.all flatD = true → RepL T F l xs → xs = l.map toV ∧ xs.all flatV = true
  | [], xs, _, r => by
    have e : xs = [] := by simpa [RepL] using r
    rw [e]; exact ⟨rfl, rfl⟩
  | d :: l, xs, h, r => by
    simp only [RepL] at r
    obtain ⟨y, ys, e, h1, h2⟩ := r
    rw [List.all_cons, Bool.and_eq_true] at h
    obtain ⟨a, b⟩ := flat_rep h.1 h1
    obtain ⟨c, d⟩ := flat_reps h.2 h2
    rw [e, a, c]
    exact ⟨rfl, by rw [List.all_cons, ← a, b, ← c, d]; rfl⟩
theorem ds_in_of {neg : Bool} {k : K2} {g : Value → Value → Sem Value} (hK : X.K = T.K) (e : ∀ a b M, datOp k a b M = datIn neg a b M) (h1 : OpR X g (rIn X.K neg))
    (h2 : OpR X g (fun x y H Q => ∃ i j, x = .str i ∧ y = .str j ∧ Q (.bl (if neg then !(strIn i j) else strIn i j)) H)) : OpS X T W (datF k) g := dat_of (h1.or h2) fun σ S a b x y Q w r1 r2 p => by
  rw [e] at p
  unfold datIn at p
  have seq : ∀ (l : List D) (q : Addr) (xs : List V), (SqL X.K S.H q xs ∨ SqT X.K S.H q xs) → RepL T S.F l xs → y = .ref q → Post T X.pn (match inSeq a l with
      | some b => .ok (.d (.bl (if neg then !b else b))) S.M
      | none => .no) S Q (atW W σ) → rIn X.K neg x y S.H Q := fun l q xs hq hl ey p => by
    unfold inSeq at p
    by_cases hf : (flatD a && l.all flatD) = true
    · rw [if_pos hf] at p
      rw [Bool.and_eq_true] at hf
      have p' : Post T X.pn (.ok (.d (.bl (if neg then !(L2.inV (toV a) (l.map toV)) else L2.inV (toV a) (l.map toV)))) S.M) S Q (atW W σ) := p
      obtain ⟨a1, a2⟩ := flat_rep hf.1 (RepT.H w r1)
      obtain ⟨b1, b2⟩ := flat_reps hf.2 hl
      refine ⟨q, xs, ey, hq, a2, b2, ?_⟩
      rw [a1, b1]
      exact post_d w p' rp_bl
    · rw [if_neg hf] at p
      exact False.elim p
  split at p
  · split at p
    · rw [rt_str r1, rt_str r2]
      exact .inr ⟨_, _, rfl, rfl, post_d w p rp_bl⟩
    · exact False.elim p
  · obtain ⟨q, xs, e1, h1, l1⟩ := r2
    exact .inl (seq _ q xs (.inl (SqL.of h1)) l1 e1 p)
  · obtain ⟨q, xs, e1, h1, l1⟩ := rt_tup r2
    exact .inl (seq _ q xs (.inr (sqT_mono w.fh (hK ▸ h1))) l1 e1 p)
  · exact False.elim p
theorem ds_in (hK : X.K = T.K) : OpS X T W (datF .inn) (compareOp .In) := ds_in_of hK (fun _ _ _ => rfl) op_in_seq op_in_str
theorem ds_nin (hK : X.K = T.K) : OpS X T W (datF .nin) (compareOp .NotIn) := ds_in_of hK (fun _ _ _ => rfl) op_notIn_seq op_notIn_str
end
end BV

set_option Elab.async false
set_option maxRecDepth 100000
set_option maxHeartbeats 4000000
/-! BV6: items, tests, arguments, displays, cuts. -/
namespace BV
open PySem PySem.Spec PyProof.Rows L2

section
variable {X : Cx} {T : Ad} {P : Pg} {C : Caller} {q : Asker} {W : WX} {k : Nat} {pn : List (Addr × Obj)}

/-- a weaker reading -/
theorem PE_imp {e : Expr} {t t' : TE} (h : PE X e t) (i : ∀ s H Q, t' s H Q → t s H Q) : PE X e t' := ⟨fun pins s σ H Q I hq => h.run pins s σ H Q I (i σ H Q hq)⟩
theorem PT_imp {e : Expr} {t t' : TT} (h : PT X e t) (i : ∀ s H Q, t' s H Q → t s H Q) : PT X e t' := ⟨fun pins s σ H Q I hq => h.run pins s σ H Q I (i σ H Q hq)⟩

/-- what is read as a list, as a list or tuple -/
theorem RepV.lst {S : S8} (w : Wf T S) : ∀ {v : Val} {xs : List Val} {x : V}, lstOf S.M v = some xs → RepV T pn S v x → ∃ a vs, x = .ref a ∧ S.H a = some (.lst vs) ∧ RepVs T [] S xs vs
  | .d y, xs, x, e, h => by
    cases y with
    | lst l =>
      simp only [lstOf] at e
      cases e
      obtain ⟨a, vs, e1, h1, l1⟩ := rl_lst h
      exact ⟨a, vs, e1, w.fh _ _ h1, RepVs.ofL l1⟩
    | _ => simp [lstOf] at e
  | .ref n, xs, x, e, h => by
    simp only [lstOf] at e
    split at e
    · rename_i ys hc
      cases e
      obtain ⟨h1, h2⟩ := h
      obtain ⟨_, o, ho, vs, eo, hr⟩ := w.cell n _ hc
      subst eo
      exact ⟨S.io n, vs, h1, ho, hr⟩
    · cases e
  | .exn c ds, xs, x, e, h => by simp [lstOf] at e
  | .lam, xs, x, e, h => by simp [lstOf] at e
theorem RepV.seq {S : S8} (w : Wf T S) {v : Val} {xs : List Val} {x : V} (e : seqOf S.M v = some xs) (h : RepV T pn S v x) : ∃ a vs, x = .ref a ∧ (S.H a = some (.lst vs) ∨ SqT T.K S.H a vs) ∧ RepVs T [] S xs vs := by
  cases v with
  | d y =>
    cases y with
    | tup l =>
      simp only [seqOf] at e
      cases e
      obtain ⟨a, vs, e1, h1, l1⟩ := rl_tup h
      exact ⟨a, vs, e1, .inr (sqT_mono w.fh h1), RepVs.ofL l1⟩
    | _ =>
      obtain ⟨a, vs, e1, h1, l1⟩ := RepV.lst w (by simpa only [seqOf] using e) h
      exact ⟨a, vs, e1, .inl h1, l1⟩
  | _ =>
    obtain ⟨a, vs, e1, h1, l1⟩ := RepV.lst w (by simpa only [seqOf] using e) h
    exact ⟨a, vs, e1, .inl h1, l1⟩

/-! ### items -/
def IxS (X : Cx) (T : Ad) (W : WX) (g : Val → Val → Store → R Val) : Prop :=
  ∀ (value slice : Expr) (pins : List (Addr × Obj)) (s : Shared) (σ : L2.St) (S : S8) (a b : Val) (x y : V) (v u : Value) (Q : VK), Inv X pins σ S.H s → Wf T S → RelV x v → RelV y u → RepV T X.pn S a x → RepV T X.pn S b y → Post T X.pn (g a b S.M) S Q (atW W σ) →
    subscripted slice false v u = operate [v, u] (getItem v u) → subscripted slice true v u = runValue (.builtin "lifetime.subscript" ⟨[v, u], []⟩) → wpAny (model X.prog X.w) X.A (subscriptTail value slice v u) (EP X pins σ Q) X.xe s
theorem se_get {a b : Expr} {ia ib : E} {pos : Pos} (ho : IxS X T W (f2 P C .get)) (ha : PE X a (tE T P C q X.pn W ia)) (hb : PE X b (tE T P C q X.pn W ib)) (hs : PlainIx b := by intro _ _; rfl) (hs2 : ∀ v u, subscripted b true v u = runValue (.builtin "lifetime.subscript" ⟨[v, u], []⟩) := by intro _ _; rfl) :
    PE X (.Subscript a b pos) (tE T P C q X.pn W (.o2 .get ia ib)) := by
  refine ⟨fun pins s σ H Q I h => ?_⟩
  obtain ⟨S, r, rfl, w, er, p⟩ := h
  simp only [ev] at p
  exact Subscript_ (two ha hb I w er p fun S2 va vb x y v u s2 I2 w2 _ _ rx ry r1 r2 h4 => ho a b pins s2 σ S2 va vb x y v u Q I2 w2 rx ry r1 r2 h4 (hs _ _) (hs2 _ _))
/-- an item of a list, a tuple, a text -/
def getF (a b : Val) (M : Store) : R Val :=
  match seqOf M a, b with
  | some xs, .d (.int i) => (match L2.atI xs i with
    | some v => .ok v M
    | none => .no)
  | _, _ => (match dataOf M a, dataOf M b with
    | some x, some y => datOp .get x y M
    | _, _ => .no)
theorem atI_rep {S : S8} {xs : List Val} {vs : List V} {i : Int} {v : Val} (h : RepVs T [] S xs vs) (e : atI xs i = some v) : ∃ y, atI vs i = some y ∧ RepV T [] S v y := by
  unfold atI at e ⊢
  rw [RepVs.length h]
  cases z : ixN xs.length i with
  | none => rw [z] at e; cases e
  | some j =>
    rw [z] at e
    obtain ⟨y, a, b⟩ := RepVs.get h (i := j) (x := v) e
    exact ⟨y, a, b⟩
theorem ixs_get (hK : X.K = T.K) : IxS X T W getF := by
  intro value slice pins s σ S a b x y v u Q I w rx ry r1 r2 p hs _
  unfold getF at p
  split at p
  · rename_i xs i hq
    split at p
    · rename_i z hz
      obtain ⟨q, vs, e1, h1, l1⟩ := RepV.seq w hq r1
      obtain ⟨y', h2, h3⟩ := atI_rep l1 hz
      have ey : y = .int i := rl_int (T := T) (F := S.F) r2
      have hq := p S y' (Go.refl S) w rfl (RepV.nil h3)
      rcases h1 with h1 | h1
      · exact ix_list value slice pins s σ S.H x y v u Q I rx ry ⟨q, vs, i, y', e1, ey, SqL.of h1, h2, hq⟩ hs
      · exact ix_tup value slice pins s σ S.H x y v u Q I rx ry ⟨q, vs, i, y', e1, ey, hK ▸ h1, h2, hq⟩ hs
    · exact False.elim p
  · split at p
    · rename_i da db h1 h2
      have p' : Post T X.pn (datGet da db S.M) S Q (atW W σ) := p
      unfold datGet at p'
      split at p'
      · split at p'
        · rename_i hl
          split at p'
          · rename_i c hc
            have e1 := rt_str (RepV.data w h1 r1)
            have e2 := rt_int (RepV.data w h2 r2)
            exact ix_str value slice pins s σ S.H x y v u Q I rx ry ⟨_, _, c, e1, e2, by rw [← lim_eq]; exact hl, hc, post_d w p' rp_str⟩ hs
          · exact False.elim p'
        · exact False.elim p'
      · exact False.elim p'
    · exact False.elim p

/-! ### tests -/
/-- truth does what g says -/
def TrS (X : Cx) (T : Ad) (W : WX) (g : Val → Store → R Bool) : Prop :=
  ∀ (pins : List (Addr × Obj)) (s : Shared) (σ : L2.St) (S : S8) (a : Val) (x : V) (v : Value) (Q : Bool → Hp → Prop), Inv X pins σ S.H s → Wf T S → RelV x v → RepV T X.pn S a x → PostA T (fun _ (a b : Bool) => a = b) (g a S.M) S Q (atW W σ) →
    wpAny (model X.prog X.w) X.A (truthy v) (TP X pins σ Q) X.xe s
theorem st_tr {e : Expr} {il : E} (ht : TrS X T W (truth P C)) (he : PE X e (tE T P C q X.pn W il)) (hw : ∀ whole, isTrue e X.env whole = (do let v ← whole; standAt e.pos; holding [v] (truthy v))) :
    PT X e (tT T P C q X.pn W (.tr il)) := by
  refine ⟨fun pins s σ H Q I h => ?_⟩
  obtain ⟨S, r, rfl, w, er, p⟩ := h
  simp only [evT] at p
  have h1 := PostA.bind (R1 := RepV T X.pn) p
  refine isTrue_plain (thn (he.run pins s σ S.H _ I ⟨S, r, rfl, w, er, Post.toA.mpr h1⟩) fun v s1 ⟨x, H1, I1, rx, S1, va, e1, g1, w1, r1, h2⟩ => ?_) (hw _)
  subst e1
  exact ht pins s1 σ S1 va x v Q I1 w1 rx r1 h2
/-- a comparison as a test -/
theorem st_cmp {a b : Expr} {ia ib : E} {op : CmpOp} {k2 : K2} {pos : Pos} (ht : TrS X T W (truth P C)) (ho : OpS X T W (f2 P C k2) (compareOp op)) (ha : PE X a (tE T P C q X.pn W ia)) (hb : PE X b (tE T P C q X.pn W ib)) (hm : behindInMarks op b = false) :
    PT X (.Compare a [op] [b] pos) (tT T P C q X.pn W (.tr (.o2 k2 ia ib))) := by
  refine ⟨fun pins s σ H Q I h => ?_⟩
  obtain ⟨S, r, rfl, w, er, p⟩ := h
  simp only [evT, ev] at p
  have h1 := PostA.bind (R1 := RepV T X.pn) p
  refine wpAny_isTrue_Compare1 (two (Q := fun x H1 => ∃ S1 va, S1.H = H1 ∧ Go S S1 ∧ Wf T S1 ∧ RepV T X.pn S1 va x ∧ PostA T (fun _ (a b : Bool) => a = b) (truth P C va S1.M) S1 Q (atW W σ)) (Q' := fun c s3 => wpAny (model X.prog X.w) X.A (truthy c) (TP X pins σ Q) X.xe s3)
    ha hb I w er (Post.toA.mpr h1) fun S2 va vb x y v u s2 I2 w2 _ _ rx ry r1 r2 h4 => ?_) hm
  refine thn (ho pins s2 σ S2 va vb x y v u _ I2 w2 rx ry r1 r2 h4) fun c s3 ⟨z, H3, I3, rz, S3, vz, e3, g3, w3, r3, h5⟩ => ?_
  subst e3
  exact ht pins s3 σ S3 vz z c Q I3 w3 rz r3 h5
theorem st_chain {a b c : Expr} {ia ib ic : E} {op op' : CmpOp} {k2 l2 : K2} {pos : Pos} (ht : TrS X T W (truth P C)) (ho : OpS X T W (f2 P C k2) (compareOp op)) (ho' : OpS X T W (f2 P C l2) (compareOp op')) (ha : PE X a (tE T P C q X.pn W ia)) (hb : PE X b (tE T P C q X.pn W ib)) (hc : PE X c (tE T P C q X.pn W ic))
    (hm : lastMarks [op, op'] [b, c] = false := by with_unfolding_all rfl) : PT X (.Compare a [op, op'] [b, c] pos) (tT T P C q X.pn W (.tr (.chain k2 l2 ia ib ic))) := by
  refine ⟨fun pins s σ H Q I h => ?_⟩
  obtain ⟨S, r, rfl, w, er, p⟩ := h
  simp only [evT, ev] at p
  have h0 := PostA.bind (R1 := RepV T X.pn) p
  have h1 := PostA.bind (R1 := RepV T X.pn) h0
  refine isTrue_chain (thn (ha.run pins s σ S.H _ I ⟨S, r, rfl, w, er, Post.toA.mpr h1⟩) fun v s1 ⟨x, H1, I1, rx, S1, va, e1, g1, w1, r1, h2⟩ => test_link ?_) hm
  subst e1
  have h3 := PostA.bind (R1 := RepV T X.pn) h2
  refine thn (hb.run pins s1 σ S1.H _ I1 ⟨S1, r, rfl, w1, er.go g1 w1, Post.toA.mpr h3⟩) fun u s2 ⟨y, H2, I2, ry, S2, vb, e2, g2, w2, r2, h4⟩ => ?_
  subst e2
  have h5 := PostA.bind (R1 := RepV T X.pn) h4
  refine thn (ho pins s2 σ S2 va vb x y v u _ I2 w2 rx ry (RepV.go g2 w2 r1) r2 (Post.toA.mpr h5)) fun d s3 ⟨z, H3, I3, rz, S3, vz, e3, g3, w3, r3, h6⟩ => ?_
  subst e3
  have er3 := er.go ((g1.trans g2).trans g3) w3
  split at h6
  · have ez := rl_bl (T := T) (F := S3.F) r3
    subst ez
    cases rz
    refine wpAny_truthy_bool (ite_tt (test_last ?_))
    have h7 := PostA.bind (R1 := RepV T X.pn) h6
    refine thn (hc.run pins s3 σ S3.H _ I3 ⟨S3, r, rfl, w3, er3, Post.toA.mpr h7⟩) fun u4 s4 ⟨y4, H4, I4, ry4, S4, v4, e4, g4, w4, r4, h8⟩ => ?_
    subst e4
    refine thn (ho' pins s4 σ S4 vb v4 y y4 u u4 _ I4 w4 ry ry4 (RepV.go (g3.trans g4) w4 r2) r4 (Post.toA.mpr h8)) fun d5 s5 ⟨z5, H5, I5, rz5, S5, v5, e5, g5, w5, r5, h9⟩ => ?_
    subst e5
    exact ht pins s5 σ S5 v5 z5 d5 Q I5 w5 rz5 r5 h9
  · have ez := rl_bl (T := T) (F := S3.F) r3
    subst ez
    cases rz
    refine wpAny_truthy_bool (ite_ff ?_)
    obtain ⟨S4, vz, e4, g4, w4, r4, h9⟩ := h6 S3 (.bl false) (Go.refl _) w3 rfl (rp_bl (T := T) (F := S3.F))
    rw [← e4] at I3
    obtain ⟨H', I', q'⟩ := (show TP X pins σ Q false s3 from by
      have z1 := h9
      cases vz with
      | d dd =>
        cases dd with
        | bl bb =>
          have eb := rl_bl (T := T) (F := S4.F) r4
          cases eb
          exact ⟨S4.H, I3, h9 S4 false (Go.refl _) w4 rfl rfl⟩
        | _ => simp only [RepV, RepD] at r4 <;> first | (cases r4; done) | (obtain ⟨_, _, z, _⟩ := r4; cases z; done) | (obtain ⟨_, _, _, z, _⟩ := r4; cases z; done) | exact r4.elim
      | ref n => cases r4.1
      | exn c ds => obtain ⟨_, _, _, z, _⟩ := r4; cases z
      | lam => cases r4)
    exact ⟨H', I', q'⟩
  · exact False.elim h6
theorem sw_and1 {a : Expr} {ia : Te} {pos : Pos} (ha : PT X a (tT T P C q X.pn W ia)) : PW X (.BoolOp .And [a] pos) (tT T P C q X.pn W ia) := pw_and1 ha
theorem sw_or1 {a : Expr} {ia : Te} {pos : Pos} (ha : PT X a (tT T P C q X.pn W ia)) : PW X (.BoolOp .Or [a] pos) (tT T P C q X.pn W ia) := pw_or1 ha
theorem PW_imp {e : Expr} {t t' : TT} (h : PW X e t) (i : ∀ s H Q, t' s H Q → t s H Q) : PW X e t' := ⟨fun wh pins s σ H Q I hq => h.run wh pins s σ H Q I (i σ H Q hq)⟩
theorem sw_and {a b : Expr} {rest : List Expr} {ia ib : Te} {pos : Pos} (ha : PT X a (tT T P C q X.pn W ia)) (hb : PW X (.BoolOp .And (b :: rest) pos) (tT T P C q X.pn W ib)) : PW X (.BoolOp .And (a :: b :: rest) pos) (tT T P C q X.pn W (.and ia ib)) :=
  PW_imp (pw_and ha hb) fun σ H Q h => by
    obtain ⟨S, r, rfl, w, er, p⟩ := h
    simp only [evT] at p
    have h1 := PostA.bind (R1 := fun _ (a b : Bool) => a = b) p
    refine ⟨S, r, rfl, w, er, ?_⟩
    cases e : evT P C q ia r S.M with
    | ok x M =>
      rw [e] at h1
      intro S1 b g1 w1 e1 eb
      obtain ⟨S2, x2, e2, g2, w2, r2, h2⟩ := h1 S1 b g1 w1 e1 eb
      subst r2
      rw [← e2]
      cases x2 with
      | true => exact ⟨S2, r, rfl, w2, er.go g2 w2, h2⟩
      | false => exact h2 S2 false (Go.refl _) w2 rfl rfl
    | ex c ds M => rw [e] at h1; exact h1
    | no => rw [e] at h1; exact h1
theorem sw_or {a b : Expr} {rest : List Expr} {ia ib : Te} {pos : Pos} (ha : PT X a (tT T P C q X.pn W ia)) (hb : PW X (.BoolOp .Or (b :: rest) pos) (tT T P C q X.pn W ib)) : PW X (.BoolOp .Or (a :: b :: rest) pos) (tT T P C q X.pn W (.or ia ib)) :=
  PW_imp (pw_or ha hb) fun σ H Q h => by
    obtain ⟨S, r, rfl, w, er, p⟩ := h
    simp only [evT] at p
    have h1 := PostA.bind (R1 := fun _ (a b : Bool) => a = b) p
    refine ⟨S, r, rfl, w, er, ?_⟩
    cases e : evT P C q ia r S.M with
    | ok x M =>
      rw [e] at h1
      intro S1 b g1 w1 e1 eb
      obtain ⟨S2, x2, e2, g2, w2, r2, h2⟩ := h1 S1 b g1 w1 e1 eb
      subst r2
      rw [← e2]
      cases x2 with
      | true => exact h2 S2 true (Go.refl _) w2 rfl rfl
      | false => exact ⟨S2, r, rfl, w2, er.go g2 w2, h2⟩
    | ex c ds M => rw [e] at h1; exact h1
    | no => rw [e] at h1; exact h1
theorem st_not {a : Expr} {ia : Te} {pos : Pos} (ha : PT X a (tT T P C q X.pn W ia)) : PT X (.UnaryOp .Not a pos) (tT T P C q X.pn W (.not ia)) :=
  PT_imp (pt_not ha) fun σ H Q h => by
    obtain ⟨S, r, rfl, w, er, p⟩ := h
    simp only [evT] at p
    have h1 := PostA.bind (R1 := fun _ (a b : Bool) => a = b) p
    refine ⟨S, r, rfl, w, er, ?_⟩
    cases e : evT P C q ia r S.M with
    | ok x M =>
      rw [e] at h1
      intro S1 b g1 w1 e1 eb
      obtain ⟨S2, x2, e2, g2, w2, r2, h2⟩ := h1 S1 b g1 w1 e1 eb
      subst r2
      rw [← e2]
      exact h2 S2 (!x2) (Go.refl _) w2 rfl rfl
    | ex c ds M => rw [e] at h1; exact h1
    | no => rw [e] at h1; exact h1
/-- a test taken to an answer -/
theorem tT_then {ia : Te} {S : S8} {r : Env} {σ : L2.St} {a b : Type} {R2' : S8 → a → b → Prop} {f : Bool → Store → R a} {Q : b → Hp → Prop} (w : Wf T S) (er : EnvR T pn S r σ)
    (h : PostA T R2' ((evT P C q ia r S.M).bind f) S Q (atW W σ)) : tT T P C q pn W ia σ S.H fun x H1 => ∃ S1, S1.H = H1 ∧ Go S S1 ∧ Wf T S1 ∧ PostA T R2' (f x S1.M) S1 Q (atW W σ) := by
  have h1 := PostA.bind (R1 := fun _ (a b : Bool) => a = b) h
  refine ⟨S, r, rfl, w, er, ?_⟩
  cases e : evT P C q ia r S.M with
  | ok x M =>
    rw [e] at h1
    intro S1 b g1 w1 e1 eb
    obtain ⟨S2, x2, e2, g2, w2, r2, h2⟩ := h1 S1 b g1 w1 e1 eb
    subst r2
    exact ⟨S2, e2, g2, w2, h2⟩
  | ex c ds M => rw [e] at h1; exact h1
  | no => rw [e] at h1; exact h1
/-- a test as a value -/
theorem se_ite {t a b : Expr} {it : Te} {ia ib : E} {pos : Pos} (ht : PT X t (tT T P C q X.pn W it)) (ha : PE X a (tE T P C q X.pn W ia)) (hb : PE X b (tE T P C q X.pn W ib)) : PE X (.IfExp t a b pos) (tE T P C q X.pn W (.ite it ia ib)) :=
  PE_imp (pe_ifExp ht ha hb) fun σ H Q h => by
    obtain ⟨S, r, rfl, w, er, p⟩ := h
    simp only [ev] at p
    have h1 := tT_then (pn := X.pn) w er (Post.toA.mp p)
    show tT T P C q X.pn W it σ S.H _
    have mono : ∀ (Q1 Q2 : Bool → Hp → Prop), (∀ x H, Q1 x H → Q2 x H) → tT T P C q X.pn W it σ S.H Q1 → tT T P C q X.pn W it σ S.H Q2 := fun Q1 Q2 hq ⟨S', r', e', w', er', p'⟩ => ⟨S', r', e', w', er', by
      cases e : evT P C q it r' S'.M with
      | ok x M => rw [e] at p'; exact fun S1 b g1 w1 e1 eb => hq _ _ (p' S1 b g1 w1 e1 eb)
      | ex c ds M => rw [e] at p'; exact p'
      | no => rw [e] at p'; exact p'⟩
    refine mono _ _ (fun x H1 ⟨S1, e1, g1, w1, h2⟩ => ?_) h1
    subst e1
    cases x with
    | true => exact ⟨S1, r, rfl, w1, er.go g1 w1, Post.toA.mpr h2⟩
    | false => exact ⟨S1, r, rfl, w1, er.go g1 w1, Post.toA.mpr h2⟩
end
end BV

set_option Elab.async false
set_option maxRecDepth 100000
set_option maxHeartbeats 4000000
/-! BV7: and, or, not as values; arguments, displays, cuts. -/
namespace BV
open PySem PySem.Spec PyProof.Rows L2

section
variable {X : Cx} {T : Ad} {P : Pg} {C : Caller} {q : Asker} {W : WX} {k : Nat} {pn : List (Addr × Obj)}

theorem PostA.mono {a b : Type} {R' : S8 → a → b → Prop} {r : R a} {S : S8} {Q Q' : b → Hp → Prop} {E : Value → Option Addr → Hp → Prop} (h : PostA T R' r S Q E) (hq : ∀ x H, Q x H → Q' x H) : PostA T R' r S Q' E := by
  cases r with
  | ok v M => exact fun S' w g w' e r => hq _ _ (h S' w g w' e r)
  | ex c ds M => exact h
  | no => exact h
theorem tE_mono {il : E} {σ : L2.St} {H : Hp} {Q Q' : VK} (h : tE T P C q pn W il σ H Q) (hq : ∀ x H, Q x H → Q' x H) : tE T P C q pn W il σ H Q' := by
  obtain ⟨S, r, e, w, er, p⟩ := h
  exact ⟨S, r, e, w, er, Post.toA.mpr ((Post.toA.mp p).mono hq)⟩
theorem tA_mono {il : As} {σ : L2.St} {H : Hp} {Q Q' : List V → Hp → Prop} (h : tA T P C q pn W il σ H Q) (hq : ∀ x H, Q x H → Q' x H) : tA T P C q pn W il σ H Q' := by
  obtain ⟨S, r, e, w, er, p⟩ := h
  exact ⟨S, r, e, w, er, p.mono hq⟩
theorem tT_mono {il : Te} {σ : L2.St} {H : Hp} {Q Q' : Bool → Hp → Prop} (h : tT T P C q pn W il σ H Q) (hq : ∀ x H, Q x H → Q' x H) : tT T P C q pn W il σ H Q' := by
  obtain ⟨S, r, e, w, er, p⟩ := h
  exact ⟨S, r, e, w, er, p.mono hq⟩
theorem tO_mono {il : Eo} {σ : L2.St} {H : Hp} {Q Q' : Option Int → Hp → Prop} (h : tO T P C q pn W il σ H Q) (hq : ∀ x H, Q x H → Q' x H) : tO T P C q pn W il σ H Q' := by
  obtain ⟨S, r, e, w, er, p⟩ := h
  exact ⟨S, r, e, w, er, p.mono hq⟩

/-- what is left behind a value -/
abbrev Rest {a b c : Type} (T : Ad) (R1 : S8 → a → b → Prop) {d : Type} (R2' : S8 → c → d → Prop) (f : a → Store → R c) (S : S8) (Q : d → Hp → Prop) (E : Value → Option Addr → Hp → Prop) : b → Hp → Prop :=
  fun y H => ∃ S1 x, S1.H = H ∧ Go S S1 ∧ Wf T S1 ∧ R1 S1 x y ∧ PostA T R2' (f x S1.M) S1 Q E
theorem tE_then {c d : Type} {R2' : S8 → c → d → Prop} {il : E} {S : S8} {r : Env} {σ : L2.St} {f : Val → Store → R c} {Q : d → Hp → Prop} (w : Wf T S) (er : EnvR T pn S r σ)
    (h : PostA T R2' ((ev P C q il r S.M).bind f) S Q (atW W σ)) : tE T P C q pn W il σ S.H (Rest T (RepV T pn) R2' f S Q (atW W σ)) := ⟨S, r, rfl, w, er, Post.toA.mpr (PostA.bind h)⟩
theorem tA_then {c d : Type} {R2' : S8 → c → d → Prop} {il : As} {S : S8} {r : Env} {σ : L2.St} {f : List Val → Store → R c} {Q : d → Hp → Prop} (w : Wf T S) (er : EnvR T pn S r σ)
    (h : PostA T R2' ((evA P C q il r S.M).bind f) S Q (atW W σ)) : tA T P C q pn W il σ S.H (Rest T (RepVs T pn) R2' f S Q (atW W σ)) := ⟨S, r, rfl, w, er, PostA.bind h⟩
theorem tO_then {c d : Type} {R2' : S8 → c → d → Prop} {il : Eo} {S : S8} {r : Env} {σ : L2.St} {f : Option Int → Store → R c} {Q : d → Hp → Prop} (w : Wf T S) (er : EnvR T pn S r σ)
    (h : PostA T R2' ((evO P C q il r S.M).bind f) S Q (atW W σ)) : tO T P C q pn W il σ S.H (Rest T (fun _ (a b : Option Int) => a = b) R2' f S Q (atW W σ)) := ⟨S, r, rfl, w, er, PostA.bind h⟩

/-- the truth of a value, taken to an answer -/
theorem tr_then (ht : TrS X T W (truth P C)) {pins : List (Addr × Obj)} {s : Shared} {σ : L2.St} {S : S8} {a : Val} {x : V} {v : Value} {c d : Type} {R2' : S8 → c → d → Prop} {f : Bool → Store → R c} {Q : d → Hp → Prop}
    {Q' : Bool → Shared → Prop} (I : Inv X pins σ S.H s) (w : Wf T S) (rx : RelV x v) (r1 : RepV T X.pn S a x) (h : PostA T R2' ((truth P C a S.M).bind f) S Q (atW W σ))
    (hq : ∀ (S2 : S8) (b : Bool) (s2 : Shared), Inv X pins σ S2.H s2 → Go S S2 → Wf T S2 → PostA T R2' (f b S2.M) S2 Q (atW W σ) → Q' b s2) : wpAny (model X.prog X.w) X.A (truthy v) Q' X.xe s := by
  have h1 := PostA.bind (R1 := fun _ (a b : Bool) => a = b) h
  refine thn (ht pins s σ S a x v _ I w rx r1 h1) fun b s2 ⟨H2, I2, S2, b', e2, g2, w2, r2, p2⟩ => ?_
  subst e2
  subst r2
  exact hq S2 b' s2 I2 g2 w2 p2
theorem ep_ok {pins : List (Addr × Obj)} {s : Shared} {σ : L2.St} {S : S8} {a : Val} {x : V} {v : Value} {Q : VK} (I : Inv X pins σ S.H s) (w : Wf T S) (rx : RelV x v) (r1 : RepV T X.pn S a x) (p : PostA T (RepV T X.pn) (.ok a S.M) S Q (atW W σ)) : EP X pins σ Q v s :=
  ⟨x, S.H, I, rx, p S x (Go.refl S) w rfl r1⟩

theorem se_one {op : BoolOp} {a : Expr} {ia : E} {pos : Pos} (ha : PE X a (tE T P C q X.pn W ia)) : PE X (.BoolOp op [a] pos) (tE T P C q X.pn W ia) := pe_one ha
theorem se_andV (ht : TrS X T W (truth P C)) {a b : Expr} {rest : List Expr} {ia ib : E} {pos : Pos} (ha : PE X a (tE T P C q X.pn W ia)) (hb : PE X (.BoolOp .And (b :: rest) pos) (tE T P C q X.pn W ib)) :
    PE X (.BoolOp .And (a :: b :: rest) pos) (tE T P C q X.pn W (.andV ia ib)) := by
  refine ⟨fun pins s σ H Q I h => ?_⟩
  obtain ⟨S, r, rfl, w, er, p⟩ := h
  simp only [ev] at p
  refine BoolOp_and (thn (ha.run pins s σ S.H _ I (tE_then w er (Post.toA.mp p))) fun v s1 ⟨x, H1, I1, rx, S1, va, e1, g1, w1, r1, h2⟩ => ?_)
  subst e1
  refine tr_then ht I1 w1 rx r1 h2 fun S2 b s2 I2 g2 w2 p2 => ?_
  cases b with
  | true => exact hb.run pins s2 σ S2.H Q I2 ⟨S2, r, rfl, w2, er.go (g1.trans g2) w2, Post.toA.mpr p2⟩
  | false => exact ep_ok I2 w2 rx (RepV.go g2 w2 r1) p2
theorem se_orV (ht : TrS X T W (truth P C)) {a b : Expr} {rest : List Expr} {ia ib : E} {pos : Pos} (ha : PE X a (tE T P C q X.pn W ia)) (hb : PE X (.BoolOp .Or (b :: rest) pos) (tE T P C q X.pn W ib)) :
    PE X (.BoolOp .Or (a :: b :: rest) pos) (tE T P C q X.pn W (.orV ia ib)) := by
  refine ⟨fun pins s σ H Q I h => ?_⟩
  obtain ⟨S, r, rfl, w, er, p⟩ := h
  simp only [ev] at p
  refine BoolOp_or (thn (ha.run pins s σ S.H _ I (tE_then w er (Post.toA.mp p))) fun v s1 ⟨x, H1, I1, rx, S1, va, e1, g1, w1, r1, h2⟩ => ?_)
  subst e1
  refine tr_then ht I1 w1 rx r1 h2 fun S2 b s2 I2 g2 w2 p2 => ?_
  cases b with
  | false => exact hb.run pins s2 σ S2.H Q I2 ⟨S2, r, rfl, w2, er.go (g1.trans g2) w2, Post.toA.mpr p2⟩
  | true => exact ep_ok I2 w2 rx (RepV.go g2 w2 r1) p2
theorem se_notV (ht : TrS X T W (truth P C)) {a : Expr} {ia : E} {pos : Pos} (ha : PE X a (tE T P C q X.pn W ia)) : PE X (.UnaryOp .Not a pos) (tE T P C q X.pn W (.tst (.not (.tr ia)))) := by
  refine ⟨fun pins s σ H Q I h => ?_⟩
  obtain ⟨S, r, rfl, w, er, p⟩ := h
  simp only [ev, evT] at p
  have p1 : PostA T (RepV T X.pn) ((ev P C q ia r S.M).bind fun x M1 => (truth P C x M1).bind fun b M2 => .ok (.d (.bl !b)) M2) S Q (atW W σ) := by
    cases z : ev P C q ia r S.M with
    | ok x M1 =>
      rw [z] at p
      show PostA T (RepV T X.pn) ((truth P C x M1).bind _) S Q (atW W σ)
      have p' : PostA T (RepV T X.pn) (((truth P C x M1).bind fun x M1 => R.ok (!x) M1).bind fun b M1 => .ok (.d (.bl b)) M1) S Q (atW W σ) := Post.toA.mp p
      cases z2 : truth P C x M1 with
      | ok b M2 => rw [z2] at p'; exact p'
      | ex c ds M2 => rw [z2] at p'; exact p'
      | no => rw [z2] at p'; exact p'
    | ex c ds M1 => rw [z] at p; exact p
    | no => rw [z] at p; exact p
  refine UnaryOp_ (thn (ha.run pins s σ S.H _ I (tE_then w er p1)) fun v s1 ⟨x, H1, I1, rx, S1, va, e1, g1, w1, r1, h2⟩ => ?_)
  subst e1
  refine not_of (tr_then ht I1 w1 rx r1 h2 fun S2 b s2 I2 g2 w2 p2 => ?_)
  exact ep_ok (a := .d (.bl !b)) (x := .bl !b) I2 w2 rfl (rp_bl (T := T) (F := S2.F)) p2
/-- - of an int -/
theorem se_neg {a : Expr} {ia : E} {pos : Pos} (ho : ∀ (pins : List (Addr × Obj)) (s : Shared) (σ : L2.St) (H : Hp) (i : Int) (v : Value) (Q : VK), Inv X pins σ H s → RelV (.int i) v → Q (.int (-i)) H → wpAny (model X.prog X.w) X.A (unaryOp .USub v) (EP X pins σ Q) X.xe s)
    (ha : PE X a (tE T P C q X.pn W ia)) : PE X (.UnaryOp .USub a pos) (tE T P C q X.pn W (.o1 .neg ia)) := by
  refine ⟨fun pins s σ H Q I h => ?_⟩
  obtain ⟨S, r, rfl, w, er, p⟩ := h
  simp only [ev] at p
  refine UnaryOp_ (thn (ha.run pins s σ S.H _ I (tE_then w er (Post.toA.mp p))) fun v s1 ⟨x, H1, I1, rx, S1, va, e1, g1, w1, r1, h2⟩ => ?_)
  subst e1
  simp only [f1] at h2
  split at h2
  · have ex := rl_int (T := T) (F := S1.F) r1
    subst ex
    exact ho pins s1 σ S1.H _ v Q I1 rx (post_d w1 (Post.toA.mpr h2) rp_int)
  · exact False.elim h2

/-! ### arguments -/
theorem sa_nil : PA X [] (tA T P C q X.pn W .nil) := ⟨fun pos pins s σ H Q I h => by
  obtain ⟨S, r, rfl, w, er, p⟩ := h
  exact pa_nil.run pos pins s σ S.H Q I (p S [] (Go.refl S) w rfl rfl)⟩
theorem sa_cons {e : Expr} {es : List Expr} {ie : E} {ias : As} (ha : PE X e (tE T P C q X.pn W ie)) (hr : PA X es (tA T P C q X.pn W ias)) (hs : starEach (e :: es) X.env = (false, eval e X.env) :: starEach es X.env := by rfl) :
    PA X (e :: es) (tA T P C q X.pn W (.cons ie ias)) := by
  refine ⟨fun pos pins s σ H Q I h => (pa_cons ha hr hs).run pos pins s σ H Q I ?_⟩
  obtain ⟨S, r, rfl, w, er, p⟩ := h
  simp only [evA] at p
  refine tE_mono (tE_then w er p) fun x H1 ⟨S1, va, e1, g1, w1, r1, h2⟩ => ?_
  subst e1
  refine tA_mono (tA_then w1 (er.go g1 w1) h2) fun xs H2 ⟨S2, vs, e2, g2, w2, r2, h3⟩ => ?_
  subst e2
  exact h3 S2 (x :: xs) (Go.refl S2) w2 rfl ⟨x, xs, rfl, RepV.go g2 w2 r1, r2⟩
theorem sa_star (hK : X.K = T.K) {e : Expr} {es : List Expr} {ie : E} {ias : As} {p : Pos} (ha : PE X e (tE T P C q X.pn W ie)) (hr : PA X es (tA T P C q X.pn W ias)) (hs : starEach (.Starred e p :: es) X.env = (true, eval e X.env) :: starEach es X.env := by rfl) :
    PA X (.Starred e p :: es) (tA T P C q X.pn W (.star ie ias)) := by
  refine ⟨fun pos pins s σ H Q I h => (StX.pa_star ha hr hs).run pos pins s σ H Q I ?_⟩
  obtain ⟨S, r, rfl, w, er, p⟩ := h
  simp only [evA] at p
  refine tE_mono (tE_then w er p) fun x H1 ⟨S1, va, e1, g1, w1, r1, h2⟩ => ?_
  subst e1
  dsimp only at h2
  cases z : seqOf S1.M va with
  | none => rw [z] at h2; exact False.elim h2
  | some ys =>
    rw [z] at h2
    obtain ⟨a, vs, ex, hx, rv⟩ := RepV.seq w1 z r1
    refine ⟨a, vs, ex, ?_, ?_⟩
    · rcases hx with hx | hx
      · exact .inr (SqL.of hx)
      · exact .inl (hK ▸ hx)
    refine tA_mono (tA_then w1 (er.go g1 w1) h2) fun xs H2 ⟨S2, zs, e2, g2, w2, r2, h3⟩ => ?_
    subst e2
    exact h3 S2 (vs ++ xs) (Go.refl S2) w2 rfl (RepVs.append (RepVs.go g2 w2 (RepVs.nilp rv)) r2)

/-! ### displays -/
theorem se_tup {es : List Expr} {ias : As} {x1 : Nat} {pos : Pos} (ha : PA X es (tA T P C q X.pn W ias)) : PE X (.Tuple es x1 pos) (tE T P C q X.pn W (.dsp .tup ias)) :=
  PE_imp (pe_tup ha) fun σ H Q h => by
    obtain ⟨S, r, rfl, w, er, p⟩ := h
    simp only [ev] at p
    refine tA_mono (tA_then w er (Post.toA.mp p)) fun xs H1 ⟨S1, vs, e1, g1, w1, r1, h2⟩ => ?_
    subst e1
    obtain ⟨hz, l, hl, hq, _⟩ := newT_ok w1 (Post.toA.mpr h2)
    exact ⟨by rw [RepVs.length r1]; exact hz, fun p hp => hq p xs hp (RepVs.toL hl r1)⟩
theorem se_lst {es : List Expr} {ias : As} {pos : Pos} (ha : PA X es (tA T P C q X.pn W ias)) : PE X (.List es pos) (tE T P C q X.pn W (.dsp .lst ias)) :=
  PE_imp (pe_lst ha) fun σ H Q h => by
    obtain ⟨S, r, rfl, w, er, p⟩ := h
    simp only [ev] at p
    refine tA_mono (tA_then w er (Post.toA.mp p)) fun xs H1 ⟨S1, vs, e1, g1, w1, r1, h2⟩ => ?_
    subst e1
    obtain ⟨hz, hq⟩ := newL_ok (pn' := X.pn) w1 (Post.toA.mpr h2)
    exact ⟨by rw [RepVs.length r1]; exact hz, fun p hp => hq p xs hp r1⟩
theorem se_mut {es : List Expr} {ias : As} {pos : Pos} (ha : PA X es (tA T P C q X.pn W ias)) : PE X (.List es pos) (tE T P C q X.pn W (.dsp .mut ias)) :=
  PE_imp (pe_lst ha) fun σ H Q h => by
    obtain ⟨S, r, rfl, w, er, p⟩ := h
    simp only [ev] at p
    refine tA_mono (tA_then w er (Post.toA.mp p)) fun xs H1 ⟨S1, vs, e1, g1, w1, r1, h2⟩ => ?_
    subst e1
    obtain ⟨hz, hq⟩ := newL_ok (pn' := X.pn) w1 (Post.toA.mpr h2)
    exact ⟨by rw [RepVs.length r1]; exact hz, fun p hp => hq p xs hp r1⟩

/-! ### cuts -/
theorem so_none : PO X none (tO T P C q X.pn W .none) := ⟨fun pins s σ H Q I h => by
  obtain ⟨S, r, rfl, w, er, p⟩ := h
  exact po_none.run pins s σ S.H Q I (p S none (Go.refl S) w rfl rfl)⟩
theorem so_some {e : Expr} {ie : E} (h : PE X e (tE T P C q X.pn W ie)) : PO X (some e) (tO T P C q X.pn W (.some ie)) := ⟨fun pins s σ H Q I hq => by
  refine (po_some h).run pins s σ H Q I ?_
  obtain ⟨S, r, rfl, w, er, p⟩ := hq
  simp only [evO] at p
  refine tE_mono (tE_then w er p) fun x H1 ⟨S1, va, e1, g1, w1, r1, h2⟩ => ?_
  subst e1
  dsimp only at h2
  split at h2
  · exact ⟨_, rl_int (T := T) (F := S1.F) r1, h2 S1 _ (Go.refl _) w1 rfl rfl⟩
  · exact False.elim h2⟩
theorem RepVs.cut {S : S8} {l : List Val} {vs : List V} (h : RepVs T pn S l vs) (lo hi : Option Int) : RepVs T pn S (cut l lo hi) (cutV vs lo hi) := by
  unfold cutV
  simp only [BV.cut]
  rw [RepVs.length h]
  exact RepVs.take _ (RepVs.drop _ h)
theorem cut_map (l : List D) (lo hi : Option Int) : (cut l lo hi).map Val.d = cut (l.map Val.d) lo hi := by
  simp only [BV.cut, List.map_take, List.map_drop, List.length_map]
theorem cut_whole {a : Type} {l : List a} {lo hi : Option Int} (h : HT.sIx l.length 0 lo = 0 ∧ HT.sIx l.length l.length hi = l.length) : cut l lo hi = l := by
  simp only [BV.cut]
  rw [h.1, h.2, List.drop_zero, Nat.sub_zero, List.take_length]
def slF (mt : Bool) (x : Val) (l h : Option Int) (M3 : Store) : R Val :=
  match x with
  | .d (.tup xs) => newT ((cut xs l h).map Val.d) M3
  | .d (.scr xs) => newL mt ((cut xs l h).map Val.d) M3
  | x => match lstOf M3 x with
    | some xs => newL mt (cut xs l h) M3
    | none => .no
theorem sl_post (hK : X.K = T.K) {S : S8} {mt : Bool} {v : Val} {x : V} {l h : Option Int} {Q : VK} {E : Value → Option Addr → Hp → Prop} (w : Wf T S) (r1 : RepV T X.pn S v x) (p : Post T X.pn (slF mt v l h S.M) S Q E) : rSlL X.K x l h S.H Q ∨ rSlA X.K x l h S.H Q := by
  unfold slF at p
  split at p
  · rename_i xs
    obtain ⟨a, vs, ex, hx, rv⟩ := rl_tup (T := T) (F := S.F) r1
    obtain ⟨_, ds, hd, hq, hq2⟩ := newT_ok w p
    have rv' : RepVs T [] S (xs.map Val.d) vs := RepVs.ofL rv
    refine .inr ⟨a, vs, ex, hK ▸ sqT_mono w.fh hx, fun hw => ?_, fun _ p hp => ?_⟩
    · refine hq2 a vs hx ?_
      have z : (cut xs l h) = xs := cut_whole (by rw [← RepL.length rv]; exact hw)
      rw [z] at hd
      exact RepVs.toL hd rv'
    · refine hq p _ hp (RepVs.toL (pn := []) hd ?_)
      rw [cut_map]
      exact RepVs.cut rv' _ _
  · rename_i xs
    have z : RepD T S.F (.scr xs) x := r1
    simp only [RepD] at z
    obtain ⟨a, vs, ex, hx, rv⟩ := z
    obtain ⟨_, hq⟩ := newL_ok (pn' := []) w p
    refine .inl ⟨a, vs, ex, hK ▸ sqL_mono w.fh hx, fun p hp => hq p _ hp ?_⟩
    rw [cut_map]
    exact RepVs.cut (RepVs.ofL rv) _ _
  · split at p
    · rename_i xs z
      obtain ⟨a, vs, ex, hx, rv⟩ := RepV.lst w z r1
      obtain ⟨_, hq⟩ := newL_ok (pn' := []) w p
      exact .inl ⟨a, vs, ex, SqL.of hx, fun p hp => hq p _ hp (RepVs.cut rv _ _)⟩
    · exact False.elim p
theorem se_sl (hK : X.K = T.K) {e : Expr} {lo hi : Option Expr} {ie : E} {il ih : Eo} {mt : Bool} {p2 pos : Pos} (he : PE X e (tE T P C q X.pn W ie)) (hl : PO X lo (tO T P C q X.pn W il)) (hh : PO X hi (tO T P C q X.pn W ih)) :
    PE X (.Subscript e (.Slice lo hi none p2) pos) (tE T P C q X.pn W (.sl mt ie il ih)) :=
  PE_imp (pe_slice (sl_list.or sl_tupA) he hl hh) fun σ H Q h => by
    obtain ⟨S, r, rfl, w, er, p⟩ := h
    have p' : PostA T (RepV T X.pn) ((ev P C q ie r S.M).bind fun x M1 => (evO P C q il r M1).bind fun l M2 => (evO P C q ih r M2).bind fun h M3 => slF mt x l h M3) S Q (atW W σ) := by
      simp only [ev] at p
      exact Post.toA.mp p
    refine tE_mono (tE_then w er p') fun x H1 ⟨S1, va, e1, g1, w1, r1, h2⟩ => ?_
    subst e1
    refine tO_mono (tO_then w1 (er.go g1 w1) h2) fun l H2 ⟨S2, l', e2, g2, w2, r2, h3⟩ => ?_
    subst e2
    subst r2
    refine tO_mono (tO_then w2 (er.go (g1.trans g2) w2) h3) fun u H3 ⟨S3, u', e3, g3, w3, r3, h4⟩ => ?_
    subst e3
    subst r3
    exact sl_post hK w3 (RepV.go (g2.trans g3) w3 r1) (Post.toA.mpr h4)
end
end BV

set_option Elab.async false
set_option maxRecDepth 100000
set_option maxHeartbeats 4000000
/-! BV8: what the program must have; truth; calls of built-in functions. -/
namespace BV
open PySem PySem.Spec PyProof.Rows L2

def binL : List Operator := [.Add, .Sub, .Mult, .FloorDiv, .Mod, .BitAnd, .BitOr]
/-- a class with operators of its own -/
structure OwnF (T : Ad) (P : Pg) (c : Nat) : Prop where
  sub : ∀ n ∈ ["NoneType", "bool", "int", "str", "list", "tuple", "dict"], PySem.W.subIn T.K (.type n) (.ref (T.ca c)) = some false
  subo : ∀ c', (P.frz c').isSome = true → PySem.W.notFirst T.K (T.ca c) (.ref (T.ca c')) = true
  first : PySem.W.selfFirst T.K (T.ca c) = true
  inp : ∀ op ∈ binL, ∃ cd, PySem.W.clsIn T.K (T.ca c) = some cd ∧ ∀ b ∈ cd.mro, PySem.W.findIn T.K b (dunderI op.info.2) = some none
  bin : ∀ op ∈ binL, (∃ rc, PySem.W.findIn T.K (.ref (T.ca c)) (dunderR op.info.2) = some rc ∧ (rc = none ∨ ∃ g : Addr, rc = some (.ref g))) ∧
    (∃ fo, PySem.W.findIn T.K (.type "int") (PySem.dunder op.info.2) = some fo) ∧ ∃ ro, PySem.W.findIn T.K (.type "int") (dunderR op.info.2) = some ro

/-- a type as a value -/
def tgV (T : Ad) : Tg → Value
  | .bt n => .type n
  | .ow c => .ref (T.ca c)
def okTg (P : Pg) : Tg → Bool
  | .bt n => n == "NoneType" || n == "bool" || n == "int" || n == "str" || n == "list" || n == "tuple" || n == "dict"
  | .ow c => (P.frz c).isSome
def okOs (o : String) : Bool := o == "int" || o == "bool" || o == "str" || o == "list" || o == "tuple"
/-- an ordinary class -/
structure ClsO (K : PySem.W.Frag) (C : Addr) : Prop where
  cl : Cls K C
  ha : PySem.W.findIn K (.ref C) "__class__" = some (some (.builtin "object.__class__"))
  hn : PySem.W.specialIn K (.builtin "object.__class__") "__get__" = some (some (.builtin "getset_descriptor.__get__"))
  tk : PySem.W.takesIn K (.builtin "object.__class__") = some true
  hm : PySem.W.mroIn K C (.type "object") = some true
/-- what the program's text must have -/
structure Prg (T : Ad) (P : Pg) : Prop where
  cls : ∀ c, (P.frz c).isSome = true → ClsO T.K (T.ca c) ∧ (T.fl c).length ≤ 100 ∧ (T.fl c).Nodup
  inj : ∀ c d, T.ca c = T.ca d → c = d
  ini : ∀ c f, P.ini c = some f → Mk T.K (T.ca c) (T.fa f) ∧ T.qt f = true
  meth : ∀ c m f, P.meth c m = some f → (P.frz c).isSome = true ∧ Meth T.K (T.ca c) (T.nm m) (T.fa f) ∧ T.qt f = true ∧ T.nm m ∉ T.fl c
  gi : ∀ c f, P.meth c 14 = some f → PySem.W.fnIn T.K (T.fa f) = true
  fld : ∀ c m k, P.fld c m = some k → (P.frz c).isSome = true ∧ NoAttr T.K (T.ca c) (T.nm m) ∧ (T.fl c)[k]? = some (T.nm m)
  prop : ∀ c m g, P.prop c m = some g → (P.frz c).isSome = true ∧ T.qt g = true ∧ ∃ p, PropOf T.K (T.ca c) (T.nm m) p (T.fa g)
  ccon : ∀ c m d, P.ccon c m = some d → (P.frz c).isSome = true ∧ T.nm m ∉ T.fl c ∧ ∃ v u, Con T.K (T.ca c) (T.nm m) v u ∧ (∀ F, RepD T F d v) ∧ ∃ mc, ClX.CRead T.K (T.ca c) mc ∧ ClX.CVal T.K (T.ca c) mc (T.nm m) v u
  xfl : ∀ c m k, P.xfl c m = some k → XfC T.K (T.ca c) ∧ (T.fl c).Nodup ∧ PySem.W.findIn T.K (.ref (T.ca c)) (T.nm m) = some none ∧ (T.fl c)[k]? = some (T.nm m)
  exm : ∀ c hc, (P.exc c).isSome = true → (P.exc hc).isSome = true → PySem.W.exmOne T.K (.ref (T.ca c)) (.ref (T.ca hc)) = some (P.sub c hc)
  cmeth : ∀ c m f, P.cmeth c m = some f → T.qt f = true ∧ ∃ mc p, ClX.CRead T.K (T.ca c) mc ∧ ClX.CMet T.K (T.ca c) mc (T.nm m) p (T.fa f)
  kito : ∀ t c, okTg P t = true → (P.frz c).isSome = true → PySem.W.kitOne T.K (tgV T t) (.ref (T.ca c)) = some (t.isO P c)
  kitb : ∀ t o, okTg P t = true → okOs o = true → PySem.W.kitOne T.K (tgV T t) (.type o) = some (t.isB o)
  own : ∀ c i f, P.meth c i = some f → 1 ≤ i → i ≤ 12 → OwnF T P c

section
variable {X : Cx} {T : Ad} {P : Pg} {C : Caller} {q : Asker} {W : WX} {k : Nat} {pn : List (Addr × Obj)}

/-- an instance -/
theorem RepV.ins {S : S8} (w : Wf T S) : ∀ {v : Val} {c : Nat} {vs : List Val} {x : V}, insOf S.M v = some (c, vs) → RepV T pn S v x →
    ∃ a dx ws, x = .ref a ∧ S.H a = some (.ins (T.ca c) dx ((T.fl c).zip ws)) ∧ RepVs T [] S vs ws ∧ ws.length ≤ (T.fl c).length
  | .d y, c, vs, x, e, h => by
    cases y with
    | ins c' ds =>
      simp only [insOf] at e
      cases e
      have h' : RepD T S.F (.ins _ ds) x := h
      simp only [RepD] at h'
      obtain ⟨a, dx, xs, e1, h1, l1, z⟩ := h'
      exact ⟨a, dx, xs, e1, w.fh _ _ h1, RepVs.ofL l1, z⟩
    | _ => simp [insOf] at e
  | .ref n, c, vs, x, e, h => by
    simp only [insOf] at e
    split at e
    · rename_i c' ys hc
      cases e
      obtain ⟨h1, h2⟩ := h
      obtain ⟨_, o, ho, dx, ws, eo, hr, z⟩ := w.cell n _ hc
      subst eo
      exact ⟨S.io n, dx, ws, h1, ho, hr, z⟩
    · cases e
  | .exn c ds, _, _, x, e, h => by simp [insOf] at e
  | .lam, _, _, x, e, h => by simp [insOf] at e

theorem Room.in2 {A : Around} (r : Room (k + 1) A) : Room k A.in1 := Room.in1 r
theorem Plain.quiet {A : Around} {f : Nat} (h : T.qt f = true) : Plain T A f := .inl h

/-- the truth of any value -/
theorem tr_truth (c : Cok X T C k W) (g : Prg T P) : TrS X T W (truth P C) := by
  intro pins s σ S a x v Q I w rx r1 p
  have hK := c.K
  have flat : ∀ b, TruV X.K x S.H b → PostA T (fun _ (a b : Bool) => a = b) (.ok b S.M) S Q (atW W σ) → wpAny (model X.prog X.w) X.A (truthy v) (TP X pins σ Q) X.xe s := fun b h p' =>
    tru_ok pins s σ S.H x v Q I rx ⟨b, h, p' S b (Go.refl S) w rfl rfl⟩
  unfold truth at p
  split at p
  · have e := rl_non (T := T) (F := S.F) r1
    subst e
    exact flat false rfl p
  · have e := rl_bl (T := T) (F := S.F) r1
    subst e
    exact flat _ rfl p
  · have e := rl_int (T := T) (F := S.F) r1
    subst e
    exact flat _ rfl p
  · split at p
    · rename_i hz
      have e := rl_str (T := T) (F := S.F) r1
      subst e
      exact flat _ ⟨by rw [← lim_eq]; exact hz, rfl⟩ p
    · exact False.elim p
  · obtain ⟨b, xs, e, h1, l1⟩ := rl_tup (T := T) (F := S.F) r1
    subst e
    refine flat _ (.inr (.inl ⟨xs, hK ▸ sqT_mono w.fh h1, ?_⟩)) p
    have := RepL.length l1
    rename_i l
    cases l <;> cases xs <;> simp_all
  · obtain ⟨b, xs, e, h1, l1⟩ := rl_lst (T := T) (F := S.F) r1
    subst e
    refine flat _ (.inl ⟨xs, SqL.of (w.fh _ _ h1), ?_⟩) p
    have := RepL.length l1
    rename_i l
    cases l <;> cases xs <;> simp_all
  · split at p
    · rename_i c' vs hi
      split at p
      · rename_i f hm
        obtain ⟨b, dx, ws, e, hb, rw', hz⟩ := RepV.ins w hi r1
        subst e
        cases rx
        obtain ⟨hfz, M, hq, _⟩ := g.meth _ _ _ hm
        obtain ⟨mA, J, _⟩ := ins_get I.hok hb
        obtain ⟨od, J, _⟩ := J.look
        obtain ⟨m, hF⟩ := I.fr
        refine PySem.W.truthy_K hF I.ok.mod.kin J (by rw [hK]; exact M.at_) (by rw [hK]; exact M.fn) ?_
        have p1 : Post T [] (C f none [a] S.M) S (fun x H => ∃ b, x = .bl b ∧ Q b H) (atW W σ) := by
          cases z : C f none [a] S.M with
          | ok y M' =>
            rw [z] at p
            intro S' y' g' w' e' r'
            split at p
            · rename_i e2
              cases e2
              have ey := rl_bl (T := T) (F := S'.F) r'
              exact ⟨_, ey, p S' _ g' w' e' rfl⟩
            · exact False.elim p
            · rename_i e2
              cases e2
            · rename_i e2
              cases e2
          | ex c ds M' => rw [z] at p; exact p
          | no => rw [z] at p; exact p
        have ra : RepVs T [] S [a] [V.ref b] := ⟨_, _, rfl, RepV.plain (by cases a <;> first | rfl | simp [insOf] at hi) r1, rfl⟩
        refine wpAny_mono (run_bv (us := [.ref b]) c.tk c.calls (c.room.mono (Nat.le_succ k)) (.inl hq) I.env0 I w ra (.cons rfl .nil) p1) (fun r s' z => ?_) fun _ _ y => y
        obtain ⟨y, H', I', ry, bb, ey, q'⟩ := z
        subst ey
        cases ry
        exact ⟨H', I', q'⟩
      · exact False.elim p
    · split at p
      · rename_i xs hl
        obtain ⟨b, ws, e, hb, rv⟩ := RepV.lst w hl r1
        subst e
        refine flat _ (.inl ⟨ws, SqL.of hb, ?_⟩) p
        have := RepVs.length rv
        cases xs <;> cases ws <;> simp_all
      · exact False.elim p
end
end BV

set_option Elab.async false
set_option maxRecDepth 100000
set_option maxHeartbeats 4000000
/-! BV9: calls of built-in functions and types. -/
namespace BV
open PySem PySem.Spec PyProof.Rows L2

section
variable {X : Cx} {T : Ad} {P : Pg} {C : Caller} {q : Asker} {W : WX} {k : Nat} {pn : List (Addr × Obj)}

/-- a call of f does what g says -/
def CaS (X : Cx) (T : Ad) (W : WX) (g : List Val → Store → R Val) (f : Value) : Prop :=
  ∀ (pins : List (Addr × Obj)) (s : Shared) (σ : L2.St) (S : S8) (as : List Val) (vs : List V) (us : List Value) (Q : VK), Inv X pins σ S.H s → Wf T S → Vals vs us → RepVs T X.pn S as vs → Post T X.pn (g as S.M) S Q (atW W σ) →
    wpAny (model X.prog X.w) X.A (call f us) (EP X pins σ Q) X.xe s
theorem se_biB {x : Str} {id : String} {bk : BI} {e : Expr} {es : List Expr} {ias : As} {p pos : Pos} {g : List Val → Store → R Val} (hc : CaS X T W g (.builtin id)) (hgf : fbi P C bk = g) (hg : Gl X x) (hm : X.mg x = none) (hv : bootBuiltins x = some (.builtin id)) (ha : PA X (e :: es) (tA T P C q X.pn W ias))
    (hn : x ≠ "__name__" := by decide) (hdb : (x == ("__debug__" : Str)) = false := by decide)
    (he : starEach (e :: es) X.env = (false, eval e X.env) :: starEach es X.env := by rfl) (hpl : (backTo pos (starEach es X.env)).any (·.1) = false := by rfl) : PE X (.Call (.Name x p) (e :: es) [] pos) (tE T P C q X.pn W (.bi bk ias)) := by
  refine ⟨fun pins s σ H Q I h => ?_⟩
  obtain ⟨S, r, rfl, w, er, p⟩ := h
  simp only [ev] at p
  rw [hgf] at p
  refine wpAny_Call_Name_kw (ld_blt I hg hm hv ?_ hn hdb)
  refine PyProof.Rows.callWith_builtin1 (thn (ha.run pos pins s σ S.H _ I (tA_then w er (Post.toA.mp p))) fun us s1 ⟨vs, H1, I1, rv, S1, va, e1, g1, w1, r1, h2⟩ => ?_) he hpl
  subst e1
  exact hc pins s1 σ S1 va vs us Q I1 w1 rv r1 (Post.toA.mpr h2)
theorem se_biT {x : Str} {ty : String} {bk : BI} {e : Expr} {es : List Expr} {ias : As} {p pos : Pos} {g : List Val → Store → R Val} (hc : CaS X T W g (.type ty)) (hgf : fbi P C bk = g) (hg : Gl X x) (hm : X.mg x = none) (hv : bootBuiltins x = some (.type ty)) (ha : PA X (e :: es) (tA T P C q X.pn W ias))
    (hn : x ≠ "__name__" := by decide) (hdb : (x == ("__debug__" : Str)) = false := by decide)
    (he : starEach (e :: es) X.env = (false, eval e X.env) :: starEach es X.env := by rfl) (hpl : (backTo pos (starEach es X.env)).any (·.1) = false := by rfl) : PE X (.Call (.Name x p) (e :: es) [] pos) (tE T P C q X.pn W (.bi bk ias)) := by
  refine ⟨fun pins s σ H Q I h => ?_⟩
  obtain ⟨S, r, rfl, w, er, p⟩ := h
  simp only [ev] at p
  rw [hgf] at p
  refine wpAny_Call_Name_kw (ld_blt I hg hm hv ?_ hn hdb)
  refine PyProof.Rows.callWith_type1 (thn (ha.run pos pins s σ S.H _ I (tA_then w er (Post.toA.mp p))) fun us s1 ⟨vs, H1, I1, rv, S1, va, e1, g1, w1, r1, h2⟩ => ?_) he hpl
  subst e1
  exact hc pins s1 σ S1 va vs us Q I1 w1 rv r1 (Post.toA.mpr h2)

theorem RepVs.one {S : S8} {a : Val} {vs : List V} (h : RepVs T pn S [a] vs) : ∃ x, vs = [x] ∧ RepV T pn S a x := by
  obtain ⟨x, xs, e, h1, h2⟩ := h
  have e2 : xs = [] := h2
  exact ⟨x, by rw [e, e2], h1⟩
theorem RepVs.two {S : S8} {a b : Val} {vs : List V} (h : RepVs T pn S [a, b] vs) : ∃ x y, vs = [x, y] ∧ RepV T pn S a x ∧ RepV T pn S b y := by
  obtain ⟨x, xs, e, h1, h2⟩ := h
  obtain ⟨y, e2, h3⟩ := RepVs.one h2
  exact ⟨x, y, by rw [e, e2], h1, h3⟩
/-- a list or a tuple, for the layer's rules -/
theorem seq_rd (hK : X.K = T.K) {S : S8} (w : Wf T S) {v : Val} {xs : List Val} {x : V} (e : seqOf S.M v = some xs) (h : RepV T pn S v x) : ∃ a vs, x = .ref a ∧ (SqL X.K S.H a vs ∨ SqT X.K S.H a vs) ∧ RepVs T [] S xs vs := by
  obtain ⟨a, vs, ex, hx, rv⟩ := RepV.seq w e h
  refine ⟨a, vs, ex, ?_, rv⟩
  rcases hx with hx | hx
  · exact .inl (SqL.of hx)
  · exact .inr (hK ▸ hx)
theorem plain_of_seq {S : S8} {v : Val} {xs : List Val} (e : seqOf S.M v = some xs) : plainV v = true := by cases v <;> first | rfl | simp at e
theorem plain_of_ins {S : S8} {v : Val} {c : Nat} {vs : List Val} (e : insOf S.M v = some (c, vs)) : plainV v = true := by cases v <;> first | rfl | simp at e
theorem allInt_vals {S : S8} : ∀ {xs : List Val} {l : List Int} {vs : List V}, allInt xs = some l → RepVs T pn S xs vs → vs = l.map V.int
  | [], l, vs, e, h => by
    simp only [allInt] at e
    cases e
    exact h
  | x :: xs, l, vs, e, h => by
    obtain ⟨y, ys, e1, h1, h2⟩ := h
    cases x with
    | d d =>
      cases d <;> simp only [allInt] at e <;> try (cases e; done)
      split at e
      · rename_i l' hl
        cases e
        rw [e1, allInt_vals hl h2, rl_int (T := T) (F := S.F) h1]
        rfl
      · cases e
    | _ => simp [allInt] at e
theorem allBl_vals {S : S8} : ∀ {xs : List Val} {l : List Bool} {vs : List V}, allBl xs = some l → RepVs T pn S xs vs → vs = l.map V.bl
  | [], l, vs, e, h => by
    simp only [allBl] at e
    cases e
    exact h
  | x :: xs, l, vs, e, h => by
    obtain ⟨y, ys, e1, h1, h2⟩ := h
    cases x with
    | d d =>
      cases d <;> simp only [allBl] at e <;> try (cases e; done)
      split at e
      · rename_i l' hl
        cases e
        rw [e1, allBl_vals hl h2, rl_bl (T := T) (F := S.F) h1]
        rfl
      · cases e
    | _ => simp [allBl] at e

theorem post_chk {r : R Val} {S : S8} {t : Val → Bool} {Q : VK} {E : Value → Option Addr → Hp → Prop} (p : Post T pn (R.chk t r) S Q E) : Post T [] r S (fun y H => ∃ S' v, t v = true ∧ S'.H = H ∧ RepV T [] S' v y ∧ Q y H) E := by
  cases r with
  | ok v M =>
    have p' : Post T pn (if t v then .ok v M else .no) S Q E := p
    split at p'
    · rename_i h
      exact fun S' w g w' e r' => ⟨S', v, h, rfl, r', p' S' w g w' e (RepV.nil r')⟩
    · exact False.elim p'
  | ex c ds M => exact p
  | no => exact p
/-- a method of the text itself, of one value, called by a built-in -/
theorem own1 (c : Cok X T C k W) (g : Prg T P) {pins : List (Addr × Obj)} {s : Shared} {σ : L2.St} {S : S8} {a : Val} {x : V} {f m : Nat} {A : Around} (hm : methOf P S.M a m = some f) (hr : Room k A) (I : Inv X pins σ S.H s) (w : Wf T S) (r1 : RepV T X.pn S a x)
    (e0 : Env0 X.prog X.w X.K X.mg X.base A X.stack s S.H) :
    ∃ (b : Addr) (Ca : Addr) (od : Option Obj) (ox : Obj), x = .ref b ∧ PySem.W.InstAt s.heap b ox Ca od ∧ PySem.W.findIn X.K (.ref Ca) (T.nm m) = some (some (.ref (T.fa f))) ∧ PySem.W.isFn X.K (.ref (T.fa f)) = true ∧
      ∀ Q : VK, Post T [] (C f none [a] S.M) S Q (atW W σ) → wpAny (model X.prog X.w) A (call (.ref (T.fa f)) [.ref b]) (EP X pins σ Q) X.xe s := by
  simp only [methOf] at hm
  split at hm
  · rename_i c' vs hi
    obtain ⟨b, dx, ws, e, hb, rw', hz⟩ := RepV.ins w hi r1
    subst e
    obtain ⟨hfz, M, hq, _⟩ := g.meth _ _ _ hm
    obtain ⟨mA, J, _⟩ := ins_get I.hok hb
    obtain ⟨od, J, _⟩ := J.look
    refine ⟨b, _, _, _, rfl, J, by rw [c.K]; exact M.at_, by rw [c.K]; exact M.fn, fun Q p => ?_⟩
    exact run_bv (as := [a]) (vs := [V.ref b]) (us := [.ref b]) c.tk c.calls hr (.inl hq) e0 I w ⟨_, _, rfl, RepV.plain (plain_of_ins hi) r1, rfl⟩ (.cons rfl .nil) p
  · cases hm

theorem cs_len (c : Cok X T C k W) (g : Prg T P) : CaS X T W (bLen P C) (.builtin "len") := by
  intro pins s σ S as vs us Q I w rv ra p
  unfold bLen at p
  split at p <;> try exact False.elim p
  obtain ⟨x, rfl, r1⟩ := RepVs.one ra
  split at p
  · rename_i xs hs
    obtain ⟨b, ws, ex, hx, rw'⟩ := seq_rd c.K w hs r1
    refine call_len pins s σ S.H [x] us Q I rv ⟨x, ws.length, rfl, ?_, ?_⟩
    · subst ex
      rcases hx with hx | hx
      · exact .inl ⟨ws, hx, rfl⟩
      · exact .inr ⟨ws, hx, rfl⟩
    · rw [RepVs.length rw']
      exact post_d w p rp_int
  · split at p
    · split at p
      · rename_i hz
        have e := rl_str (T := T) (F := S.F) r1
        subst e
        exact call_len pins s σ S.H _ us Q I rv ⟨_, _, rfl, ⟨by rw [← lim_eq]; exact hz, rfl⟩, post_d w p rp_int⟩
      · exact False.elim p
    split at p
    · rename_i f hm
      obtain ⟨b, Ca, od, ox, e, J, h1, h2, h3⟩ := own1 c g hm (Room.in1 c.room) I w r1 I.env0.in1
      subst e
      rw [Vals.ref1 rv]
      obtain ⟨m, hF⟩ := I.fr
      refine PySem.W.len_K hF I.ok.mod.kin J h1 h2 (wpAny_mono (h3 _ (post_chk p)) (fun r s' z => ?_) fun _ _ y => y)
      obtain ⟨y, H', I', ry, S', v, hv, e', r', hq⟩ := z
      unfold lenV at hv
      split at hv
      · have ey := rl_int (T := T) (F := S'.F) r'
        subst ey
        obtain ⟨t, rfl⟩ := ry
        rw [Bool.and_eq_true] at hv
        exact ⟨⟨of_decide_eq_true hv.1, of_decide_eq_true hv.2⟩, .int _, H', I'.tok _, ⟨_, rfl⟩, hq⟩
      · cases hv
    · exact False.elim p

theorem cr_sumT (hc : X.calm = true) : CallR X (.builtin "sum") (fun vs H Q => ∃ (a : Addr) (ns : List Int), vs = [V.ref a] ∧ SqT X.K H a (ns.map V.int) ∧ Q (.int ns.sum) H) := by
  intro pins s σ H vs us Q I r h
  obtain ⟨a, ns, rfl, hs, hq⟩ := h
  obtain ⟨its, rv, ht, _⟩ := I.tuple hs
  rw [Vals.ref1 r]
  have hi := rv.ints
  obtain ⟨xs, e⟩ := hi.allInts.items
  have hn : numsOf (intItems xs).toList = ns := by rw [← e]; exact hi.numsOf
  rw [nums_intItems] at hn
  rw [e] at ht
  have hne : a ≠ s.heap.objs.size := Nat.ne_of_lt ht.lt
  refine call_sum_walkG (iter_tuple ht ⟨s.heap.objs.size, _, _, _, _, _, numAt xs, rfl, Walks.tuple (A := X.A.in1) (I.ok.hd hc) _ a hne (intItems xs), ⟨⟨_, Heap.get?_push_size _ rfl, rfl, rfl⟩, ht.push _⟩, fun b hb => ?_, fun _ _ => intItems_at, fun h' tk t' hk => ?_⟩)
  · rw [Heap.size_push]
    rcases List.mem_cons.mp hb with e1 | hb
    · rw [e1]; exact Nat.lt_succ_self _
    · rcases List.mem_cons.mp hb with e1 | hb
      · rw [e1]; exact Nat.lt_succ_of_lt ht.lt
      · cases hb
  · refine ⟨.int _, H, I.kept fun b o eo => hk b o (fun hm => ?_) (Heap.get?_push_of_some _ eo), ⟨_, rfl⟩, ?_⟩
    · rcases List.mem_cons.mp hm with e1 | hm
      · exact absurd (e1 ▸ Heap.lt_size eo) (Nat.lt_irrefl _)
      · cases hm
    · have hz : (intItems xs).size = xs.size := by simp [intItems]
      rw [hz, preSum_eq, List.take_of_length_le (by simp), hn]
      exact hq
theorem cs_sum (c : Cok X T C k W) : CaS X T W bSum (.builtin "sum") := by
  intro pins s σ S as vs us Q I w rv ra p
  unfold bSum at p
  split at p <;> try exact False.elim p
  obtain ⟨x, rfl, r1⟩ := RepVs.one ra
  split at p
  · rename_i xs hs
    split at p
    · rename_i l hl
      obtain ⟨b, ws, ex, hx, rw'⟩ := seq_rd c.K w hs r1
      have ew := allInt_vals hl rw'
      subst ex ew
      have hq := post_d w p (rp_int (T := T) (F := S.F))
      rcases hx with hx | hx
      · exact cr_sum c.calm pins s σ S.H _ us Q I rv ⟨b, l, rfl, hx, hq⟩
      · exact cr_sumT c.calm pins s σ S.H _ us Q I rv ⟨b, l, rfl, hx, hq⟩
    · exact False.elim p
  · exact False.elim p
end
end BV

set_option Elab.async false
set_option maxRecDepth 100000
set_option maxHeartbeats 4000000
/-! BV10: more calls of built-in functions and types; repr; isinstance. -/
namespace BV
open PySem PySem.Spec PyProof.Rows L2

section
variable {X : Cx} {T : Ad} {P : Pg} {C : Caller} {q : Asker} {W : WX} {k : Nat} {pn : List (Addr × Obj)}

theorem maxL_le : ∀ (l : List Int) (m : Int), m ≤ maxL m l ∧ ∀ y ∈ l, y ≤ maxL m l
  | [], m => ⟨Int.le_refl _, fun y hy => absurd hy (by simp)⟩
  | x :: r, m => by
    obtain ⟨h1, h2⟩ := maxL_le r (if m < x then x else m)
    have h3 : m ≤ (if m < x then x else m) ∧ x ≤ (if m < x then x else m) := by split <;> omega
    refine ⟨Int.le_trans h3.1 h1, fun y hy => ?_⟩
    rcases List.mem_cons.mp hy with e | hy
    · rw [e]; exact Int.le_trans h3.2 h1
    · exact h2 y hy
theorem maxL_mem : ∀ (l : List Int) (m : Int), maxL m l ∈ m :: l
  | [], m => by simp [maxL]
  | x :: r, m => by
    have h := maxL_mem r (if m < x then x else m)
    show maxL (if m < x then x else m) r ∈ m :: x :: r
    rcases List.mem_cons.mp h with e | h
    · rw [e]
      split <;> simp
    · exact List.mem_cons_of_mem _ (List.mem_cons_of_mem _ h)
theorem minL_le : ∀ (l : List Int) (m : Int), minL m l ≤ m ∧ ∀ y ∈ l, minL m l ≤ y
  | [], m => ⟨Int.le_refl _, fun y hy => absurd hy (by simp)⟩
  | x :: r, m => by
    obtain ⟨h1, h2⟩ := minL_le r (if x < m then x else m)
    have h3 : (if x < m then x else m) ≤ m ∧ (if x < m then x else m) ≤ x := by split <;> omega
    refine ⟨Int.le_trans h1 h3.1, fun y hy => ?_⟩
    rcases List.mem_cons.mp hy with e | hy
    · rw [e]; exact Int.le_trans h1 h3.2
    · exact h2 y hy
theorem minL_mem : ∀ (l : List Int) (m : Int), minL m l ∈ m :: l
  | [], m => by simp [minL]
  | x :: r, m => by
    have h := minL_mem r (if x < m then x else m)
    show minL (if x < m then x else m) r ∈ m :: x :: r
    rcases List.mem_cons.mp h with e | h
    · rw [e]
      split <;> simp
    · exact List.mem_cons_of_mem _ (List.mem_cons_of_mem _ h)
theorem seq_of_lst {S : S8} {v : Val} {xs : List Val} (e : lstOf S.M v = some xs) : seqOf S.M v = some xs := by
  cases v with
  | d y => cases y <;> first | exact e | simp at e
  | _ => exact e

theorem cs_max (c : Cok X T C k W) : CaS X T W bMax (.builtin "max") := by
  intro pins s σ S as vs us Q I w rv ra p
  unfold bMax at p
  split at p <;> try exact False.elim p
  · obtain ⟨x, rfl, r1⟩ := RepVs.one ra
    split at p <;> try exact False.elim p
    rename_i xs hs
    split at p <;> try exact False.elim p
    rename_i i l hl
    obtain ⟨b, ws, ex, hx, rw'⟩ := RepV.lst w hs r1
    have ew := allInt_vals hl rw'
    subst ex ew
    have hq := post_d w p (rp_int (T := T) (F := S.F))
    refine cr_max c.calm pins s σ S.H _ us Q I rv ⟨b, i :: l, rfl, SqL.of hx, Nat.succ_pos _, fun m hm hle => ?_⟩
    obtain ⟨h1, h2⟩ := maxL_le l i
    have e1 : maxL i l ≤ m := hle _ (maxL_mem l i)
    have e2 : m ≤ maxL i l := by
      rcases List.mem_cons.mp hm with e | e
      · rw [e]; exact h1
      · exact h2 m e
    rw [Int.le_antisymm e2 e1]
    exact hq
  · obtain ⟨x, y, rfl, r1, r2⟩ := RepVs.two ra
    have e1 := rl_int (T := T) (F := S.F) r1
    have e2 := rl_int (T := T) (F := S.F) r2
    subst e1 e2
    exact call_max2 c.calm pins s σ S.H _ us Q I rv ⟨_, _, rfl, post_d w p rp_int⟩
theorem cs_min (c : Cok X T C k W) : CaS X T W bMin (.builtin "min") := by
  intro pins s σ S as vs us Q I w rv ra p
  unfold bMin at p
  split at p <;> try exact False.elim p
  · obtain ⟨x, rfl, r1⟩ := RepVs.one ra
    split at p <;> try exact False.elim p
    rename_i xs hs
    split at p <;> try exact False.elim p
    rename_i i l hl
    obtain ⟨b, ws, ex, hx, rw'⟩ := RepV.lst w hs r1
    have ew := allInt_vals hl rw'
    subst ex ew
    have hq := post_d w p (rp_int (T := T) (F := S.F))
    refine cr_min c.calm pins s σ S.H _ us Q I rv ⟨b, i :: l, rfl, SqL.of hx, Nat.succ_pos _, fun m hm hle => ?_⟩
    obtain ⟨h1, h2⟩ := minL_le l i
    have e1 : m ≤ minL i l := hle _ (minL_mem l i)
    have e2 : minL i l ≤ m := by
      rcases List.mem_cons.mp hm with e | e
      · rw [e]; exact h1
      · exact h2 m e
    rw [Int.le_antisymm e1 e2]
    exact hq
  · obtain ⟨x, y, rfl, r1, r2⟩ := RepVs.two ra
    have e1 := rl_int (T := T) (F := S.F) r1
    have e2 := rl_int (T := T) (F := S.F) r2
    subst e1 e2
    exact call_min2 c.calm pins s σ S.H _ us Q I rv ⟨_, _, rfl, post_d w p rp_int⟩
theorem cs_abs : CaS X T W bAbs (.builtin "abs") := by
  intro pins s σ S as vs us Q I w rv ra p
  unfold bAbs at p
  split at p <;> try exact False.elim p
  obtain ⟨x, rfl, r1⟩ := RepVs.one ra
  have e1 := rl_int (T := T) (F := S.F) r1
  subst e1
  exact call_abs pins s σ S.H _ us Q I rv ⟨_, rfl, post_d w p rp_int⟩
theorem cs_int : CaS X T W bInt (.type "int") := by
  intro pins s σ S as vs us Q I w rv ra p
  unfold bInt at p
  split at p <;> try exact False.elim p
  · obtain ⟨x, rfl, r1⟩ := RepVs.one ra
    have e1 := rl_int (T := T) (F := S.F) r1
    subst e1
    exact call_int1 pins s σ S.H _ us Q I rv (.inl ⟨_, rfl, post_d w p rp_int⟩)
  · obtain ⟨x, rfl, r1⟩ := RepVs.one ra
    have e1 := rl_bl (T := T) (F := S.F) r1
    subst e1
    exact call_int1 pins s σ S.H _ us Q I rv (.inr ⟨_, rfl, post_d w p rp_int⟩)
  · obtain ⟨x, rfl, r1⟩ := RepVs.one ra
    have e1 := rl_str (T := T) (F := S.F) r1
    subst e1
    split at p <;> try exact False.elim p
    rename_i n hn
    split at p <;> try exact False.elim p
    rename_i hz
    exact call_int_str pins s σ S.H _ us Q I rv ⟨_, n, rfl, hn, hz, post_d w p rp_int⟩
theorem cs_str (c : Cok X T C k W) (g : Prg T P) : CaS X T W (bStr P C) (.type "str") := by
  intro pins s σ S as vs us Q I w rv ra p
  unfold bStr at p
  split at p <;> try exact False.elim p
  obtain ⟨x, rfl, r1⟩ := RepVs.one ra
  split at p
  · have e1 := rl_int (T := T) (F := S.F) r1
    subst e1
    split at p <;> try exact False.elim p
    rename_i hz
    exact call_str_int pins s σ S.H _ us Q I rv ⟨_, rfl, hz, post_d w p rp_str⟩
  · have e1 := rl_str (T := T) (F := S.F) r1
    subst e1
    exact SkE.call_str_str pins s σ S.H _ us Q I rv ⟨_, rfl, post_d w p rp_str⟩
  · split at p <;> try exact False.elim p
    rename_i f hm
    have hr : Room k X.A.in1.in1 := ⟨c.room.hd, by have := c.room.dp; show X.A.depth + 3 * k + 5 < _; omega, by have := c.room.un; show X.A.units + 1 + 1 + 16 * k + 200 < _; omega⟩
    obtain ⟨b, Ca, od, ox, e, J, h1, h2, h3⟩ := own1 c g hm hr I w r1 I.env0.in1.in1
    subst e
    rw [Vals.ref1 rv]
    refine PySem.W.kso_call hr.units0 I.kIn J h1 h2 (wpAny_mono (h3 _ (post_chk p)) (fun r s' z => ?_) fun _ _ y => y)
    obtain ⟨y, H', I', ry, S', v, hv, e', r', hq⟩ := z
    unfold strV at hv
    split at hv
    · have ey := rl_str (T := T) (F := S'.F) r'
      subst ey
      obtain ⟨t, rfl⟩ := ry
      exact ⟨.str _, H', I', ⟨_, rfl⟩, hq⟩
    · cases hv
theorem cs_list (hK : X.K = T.K) {mt : Bool} : CaS X T W (bList mt) (.type "list") := by
  intro pins s σ S as vs us Q I w rv ra p
  unfold bList at p
  split at p <;> try exact False.elim p
  obtain ⟨x, rfl, r1⟩ := RepVs.one ra
  split at p
  · have z : RepD T S.F (.scr _) x := r1
    simp only [RepD] at z
    obtain ⟨a, xs, ex, hx, rx⟩ := z
    subst ex
    obtain ⟨_, hq⟩ := newL_ok (pn' := []) w p
    exact call_list_of pins s σ S.H _ us Q I rv ⟨a, xs, rfl, .inl (hK ▸ sqL_mono w.fh hx), fun l hl => hq l _ hl (RepVs.ofL rx)⟩
  · split at p <;> try exact False.elim p
    rename_i xs hs
    obtain ⟨b, ws, ex, hx, rw'⟩ := seq_rd hK w hs r1
    subst ex
    obtain ⟨_, hq⟩ := newL_ok (pn' := []) w p
    exact call_list_of pins s σ S.H _ us Q I rv ⟨b, ws, rfl, hx, fun l hl => hq l _ hl rw'⟩
theorem RepV.seqF {S : S8} (w : Wf T S) {v : Val} {xs : List Val} {x : V} (e : seqOf S.M v = some xs) (h : RepV T pn S v x) : ∃ a vs, x = .ref a ∧ (S.H a = some (.lst vs) ∨ SqT T.K S.F a vs) ∧ RepVs T [] S xs vs := by
  cases v with
  | d y =>
    cases y with
    | tup l =>
      simp only [seqOf] at e
      cases e
      obtain ⟨a, vs, e1, h1, l1⟩ := rl_tup h
      exact ⟨a, vs, e1, .inr h1, RepVs.ofL l1⟩
    | _ =>
      obtain ⟨a, vs, e1, h1, l1⟩ := RepV.lst w (by simpa only [seqOf] using e) h
      exact ⟨a, vs, e1, .inl h1, l1⟩
  | _ =>
    obtain ⟨a, vs, e1, h1, l1⟩ := RepV.lst w (by simpa only [seqOf] using e) h
    exact ⟨a, vs, e1, .inl h1, l1⟩
theorem cs_tuple (hK : X.K = T.K) : CaS X T W bTuple (.type "tuple") := by
  intro pins s σ S as vs us Q I w rv ra p
  unfold bTuple at p
  split at p <;> try exact False.elim p
  obtain ⟨x, rfl, r1⟩ := RepVs.one ra
  split at p <;> try exact False.elim p
  rename_i xs hs
  obtain ⟨_, l, hl, hq, hq2⟩ := newT_ok w p
  obtain ⟨b, ws, ex, hx, rw'⟩ := RepV.seqF w hs r1
  subst ex
  rcases hx with hx | hx
  · exact call_tuple_of pins s σ S.H _ us Q I rv ⟨b, ws, rfl, .inl ⟨SqL.of hx, fun l hl' => hq l _ hl' (RepVs.toL (pn := []) hl rw')⟩⟩
  · exact call_tuple_of pins s σ S.H _ us Q I rv ⟨b, ws, rfl, .inr ⟨hK ▸ sqT_mono w.fh hx, hq2 b ws hx (RepVs.toL (pn := []) hl rw')⟩⟩
theorem cs_all (c : Cok X T C k W) : CaS X T W bAll (.builtin "all") := by
  intro pins s σ S as vs us Q I w rv ra p
  unfold bAll at p
  split at p <;> try exact False.elim p
  obtain ⟨x, rfl, r1⟩ := RepVs.one ra
  split at p <;> try exact False.elim p
  rename_i xs hs
  split at p <;> try exact False.elim p
  rename_i l hl
  obtain ⟨b, ws, ex, hx, rw'⟩ := RepV.lst w hs r1
  have ew := allBl_vals hl rw'
  subst ex ew
  exact cr_all c.calm pins s σ S.H _ us Q I rv ⟨b, l, rfl, SqL.of hx, post_d w p rp_bl⟩
theorem cs_any (c : Cok X T C k W) : CaS X T W bAny (.builtin "any") := by
  intro pins s σ S as vs us Q I w rv ra p
  unfold bAny at p
  split at p <;> try exact False.elim p
  obtain ⟨x, rfl, r1⟩ := RepVs.one ra
  split at p <;> try exact False.elim p
  rename_i xs hs
  split at p <;> try exact False.elim p
  rename_i l hl
  obtain ⟨b, ws, ex, hx, rw'⟩ := RepV.lst w hs r1
  have ew := allBl_vals hl rw'
  subst ex ew
  exact cr_any c.calm pins s σ S.H _ us Q I rv ⟨b, l, rfl, SqL.of hx, post_d w p rp_bl⟩
end
end BV

set_option Elab.async false
set_option maxRecDepth 100000
set_option maxHeartbeats 4000000
/-! BV11: repr, isinstance, methods of lists. -/
namespace BV
open PySem PySem.Spec PyProof.Rows L2

section
variable {X : Cx} {T : Ad} {P : Pg} {C : Caller} {q : Asker} {W : WX} {k : Nat} {pn : List (Addr × Obj)}

mutual
theorem pyOf_noDict : ∀ (d : D) (pd : PyData), pyOf d = some pd → pd.hasDict = false
  | .non, pd, h => by simp only [pyOf] at h; cases h; rfl
  | .bl b, pd, h => by simp only [pyOf] at h; cases h; rfl
  | .int i, pd, h => by simp only [pyOf] at h; cases h; rfl
  | .str x, pd, h => by simp only [pyOf] at h; cases h; rfl
  | .tup l, pd, h => by
    simp only [pyOf] at h
    split at h
    · rename_i r e
      cases h
      simp only [PyData.hasDict]
      exact pyOfs_noDict l r e
    · cases h
  | .lst l, pd, h => by
    simp only [pyOf] at h
    split at h
    · rename_i r e
      cases h
      simp only [PyData.hasDict]
      exact pyOfs_noDict l r e
    · cases h
  | .dic _ _, pd, h => by simp [pyOf] at h
  | .ins _ _, pd, h => by simp [pyOf] at h
  | .fn _, pd, h => by simp [pyOf] at h
  | .cls _, pd, h => by simp [pyOf] at h
  | .ty _, pd, h => by simp [pyOf] at h
  | .scr _, pd, h => by simp [pyOf] at h
theorem pyOfs_noDict : ∀ (d : List D) (pd : List PyData), pyOfs d = some pd → PyData.hasDictAll pd = false
  | [], pd, h => by simp only [pyOfs] at h; cases h; rfl
  | x :: r, pd, h => by
    simp only [pyOfs] at h
    split at h
    · rename_i a b e1 e2
      cases h
      simp only [PyData.hasDictAll, pyOf_noDict x a e1, pyOfs_noDict r b e2, Bool.or_self]
    · cases h
end
section
variable {pins : List (Addr × Obj)} {σ : L2.St} {H : Hp} {s : Shared}
mutual
theorem reads_of (I : Inv X pins σ H s) (hK : X.K = T.K) : ∀ (d : D) (pd : PyData) (x : V) (u : Value), pyOf d = some pd → RepD T H d x → RelV x u → ∃ as, Reads s.heap u pd as
  | .non, pd, x, u, h, r, rx => by
    simp only [pyOf] at h
    cases h
    have e := rl_non r
    subst e
    cases rx
    exact ⟨_, .none⟩
  | .bl b, pd, x, u, h, r, rx => by
    simp only [pyOf] at h
    cases h
    have e := rl_bl r
    subst e
    cases rx
    exact ⟨_, .bool b⟩
  | .int i, pd, x, u, h, r, rx => by
    simp only [pyOf] at h
    cases h
    have e := rl_int r
    subst e
    obtain ⟨t, e⟩ := rx
    subst e
    exact ⟨_, .int i t⟩
  | .str i, pd, x, u, h, r, rx => by
    simp only [pyOf] at h
    cases h
    have e := rl_str r
    subst e
    obtain ⟨t, e⟩ := rx
    subst e
    exact ⟨_, .str i t⟩
  | .tup l, pd, x, u, h, r, rx => by
    simp only [pyOf] at h
    split at h
    · rename_i ps e
      cases h
      obtain ⟨a, xs, ex, hx, rl⟩ := rl_tup r
      subst ex
      cases rx
      obtain ⟨its, rv, ⟨o, ho, hc, n, hd⟩, _⟩ := I.tuple (hK ▸ hx)
      obtain ⟨as, ra⟩ := readss_of I hK l ps xs its e rl rv
      exact ⟨_, .tuple ho hc hd (by simpa using ra)⟩
    · cases h
  | .lst l, pd, x, u, h, r, rx => by
    simp only [pyOf] at h
    split at h
    · rename_i ps e
      cases h
      obtain ⟨a, xs, ex, hx, rl⟩ := rl_lst r
      subst ex
      cases rx
      obtain ⟨its, rv, pl, _⟩ := I.list (X := X) (SqL.of hx)
      obtain ⟨o, ho, hc, n, hd⟩ := pl.isList
      obtain ⟨as, ra⟩ := readss_of I hK l ps xs its e rl rv
      exact ⟨_, .list ho hc hd (by simpa using ra)⟩
    · cases h
  | .dic _ _, pd, x, u, h, r, rx => by simp [pyOf] at h
  | .ins _ _, pd, x, u, h, r, rx => by simp [pyOf] at h
  | .fn _, pd, x, u, h, r, rx => by simp [pyOf] at h
  | .cls _, pd, x, u, h, r, rx => by simp [pyOf] at h
  | .ty _, pd, x, u, h, r, rx => by simp [pyOf] at h
  | .scr _, pd, x, u, h, r, rx => by simp [pyOf] at h
theorem readss_of (I : Inv X pins σ H s) (hK : X.K = T.K) : ∀ (d : List D) (pd : List PyData) (x : List V) (u : List Value), pyOfs d = some pd → RepL T H d x → Vals x u → ∃ as, ReadsAll s.heap u pd as
  | [], pd, x, u, h, r, rx => by
    simp only [pyOfs] at h
    cases h
    have e : x = [] := by simpa [RepL] using r
    subst e
    cases rx
    exact ⟨_, .nil⟩
  | d :: ds, pd, x, u, h, r, rx => by
    simp only [pyOfs] at h
    split at h
    · rename_i a b e1 e2
      cases h
      simp only [RepL] at r
      obtain ⟨y, ys, e, r1, r2⟩ := r
      subst e
      cases rx with
      | cons q1 q2 =>
        obtain ⟨as, h1⟩ := reads_of I hK d a y _ e1 r1 q1
        obtain ⟨bs, h2⟩ := readss_of I hK ds b ys _ e2 r2 q2
        exact ⟨_, .cons h1 h2⟩
    · cases h
end
end

/-! ### dicts of flat things -/
def encK : Key → PyData
  | .inl i => .int i
  | .inr x => .str x
theorem key_reads {h : Heap} {k : Key} {v : Value} (e : keyIs k v = true) : Reads h v (encK k) [] := by
  rcases keyIs_shape e with ⟨i, t, rfl, rfl⟩ | ⟨x, t, rfl, rfl⟩
  · exact .int i t
  · exact .str x t
theorem flat_reads {h : Heap} {F : Hp} : ∀ {d : D} {pd : PyData} {x : V} {u : Value}, pyFlat d = some pd → RepD T F d x → RelV x u → Reads h u pd []
  | .non, pd, x, u, e, r, rx => by
    cases e
    have e := rl_non r
    subst e
    cases rx
    exact .none
  | .bl b, pd, x, u, e, r, rx => by
    cases e
    have e := rl_bl r
    subst e
    cases rx
    exact .bool b
  | .int i, pd, x, u, e, r, rx => by
    cases e
    have e := rl_int r
    subst e
    obtain ⟨t, e⟩ := rx
    subst e
    exact .int i t
  | .str i, pd, x, u, e, r, rx => by
    cases e
    have e := rl_str r
    subst e
    obtain ⟨t, e⟩ := rx
    subst e
    exact .str i t
  | .tup _, pd, x, u, e, r, rx => by cases e
  | .lst _, pd, x, u, e, r, rx => by cases e
  | .dic _ _, pd, x, u, e, r, rx => by cases e
  | .ins _ _, pd, x, u, e, r, rx => by cases e
  | .fn _, pd, x, u, e, r, rx => by cases e
  | .cls _, pd, x, u, e, r, rx => by cases e
  | .ty _, pd, x, u, e, r, rx => by cases e
  | .scr _, pd, x, u, e, r, rx => by cases e
theorem key_enc : ∀ {k : Key} {p : PyData}, pyKey (kD k) = some p → p = encK k
  | .inl i, p, h => by cases h; rfl
  | .inr x, p, h => by cases h; rfl
theorem dic_reads {h : Heap} {F : Hp} : ∀ {kvs : List (Key × V)} {vs : List D} {r : List (PyData × PyData)} {ws : List (Key × Value)}, pyDic (kvs.map fun p => kD p.1) vs = some r → RepL T F vs (kvs.map (·.2)) → KV kvs ws → PyProof.V.PairsRead h encK ws r []
  | [], vs, r, ws, e, rl, kv => by
    cases vs with
    | nil =>
      have e' : some [] = some r := e
      cases e'
      cases kv
      exact .nil
    | cons v vs => cases e
  | (k, v) :: kvs, vs, r, ws, e, rl, kv => by
    cases vs with
    | nil => cases e
    | cons d vs =>
      simp only [List.map_cons, pyDic] at e
      split at e
      · rename_i a b r' ea eb er
        cases e
        simp only [List.map_cons, RepL] at rl
        obtain ⟨x, xs, e2, r1, r2⟩ := rl
        cases e2
        cases kv with
        | @cons p q ps qs h1 h2 =>
          obtain ⟨q1, q2⟩ := q
          obtain ⟨h3, h4⟩ := h1
          have h3' : k = q1 := h3
          subst h3'
          rw [key_enc ea]
          exact PyProof.V.PairsRead.cons (as := []) (flat_reads eb r1 h4) (dic_reads er r2 h2)
      · cases e
theorem pyTop_of {y : D} {pd : PyData} (h : pyTop y = some pd) : pyOf y = some pd ∨ ∃ ks vs r, y = .dic ks vs ∧ pyDic ks vs = some r ∧ pd = .dict r := by
  cases y <;> first
    | exact .inl h
    | (refine .inr ?_
       simp only [pyTop] at h
       split at h
       · rename_i r e
         cases h
         exact ⟨_, _, r, rfl, e, rfl⟩
       · cases h)

theorem cs_repr (hK : X.K = T.K) (hg : X.A.guards = some []) (hu : X.A.units + 64 < cLine) : CaS X T W bRepr (.builtin "repr") := by
  intro pins s σ S as vs us Q I w rv ra p
  unfold bRepr at p
  split at p <;> try exact False.elim p
  obtain ⟨x, rfl, r1⟩ := RepVs.one ra
  split at p <;> try exact False.elim p
  rename_i y hy
  split at p <;> try exact False.elim p
  rename_i t ht
  have rt := RepV.data w hy r1
  have rd := RepT.H w rt
  have hq := post_d w p (rp_str (T := T) (F := S.F))
  unfold reprD at ht
  split at ht <;> try cases ht
  rename_i pd hpd
  split at ht <;> try cases ht
  rename_i hc
  rw [Bool.and_eq_true, Bool.and_eq_true] at hc
  have h1 := hc.1.1
  have h2 : pd.depth ≤ 60 := of_decide_eq_true hc.1.2
  have h3 : pd.shown.length ≤ sizeLine := by rw [← lim_eq]; exact of_decide_eq_true hc.2
  obtain ⟨u, rfl, rx⟩ := vals1 rv
  have fin : ∀ (t : Tok) (s' : Shared), Inv X pins σ S.H s' → EP X pins σ Q (.str pd.shown t) s' := fun t s' I' => ⟨.str _, S.H, I', ⟨_, rfl⟩, hq⟩
  rcases pyTop_of hpd with hpd | ⟨ks, vs, r, rfl, hr, rfl⟩
  case inr =>
    obtain ⟨a, kvs, ex, hx, hk, rl⟩ := (show ∃ (a : Addr) (kvs : List (Key × V)), x = .ref a ∧ S.H a = some (.dK kvs) ∧ kvs.map (fun p => kD p.1) = ks ∧ RepL T S.H vs (kvs.map (·.2)) by simpa only [RepD] using rd)
    subst ex hk
    obtain rfl : u = Value.ref a := rx
    obtain ⟨hz, hsm, ws, rk, dd⟩ := dk_of I.hok hx
    have rr := PyProof.V.reads_dictOf (fun k key e => key_reads (h := s.heap) e) dd (dic_reads hr rl rk)
    exact repr_of_reads' rr h1 (fun _ z => by
      have z' : sysModules = a := by simpa using z
      rw [z'] at hsm
      simp at hsm) hg (by omega) (fun _ _ e => e) (fun h' u tk hk => fin _ _ (I.kept hk)) h3
  obtain ⟨as, rr⟩ := reads_of I hK y pd x u hpd rd rx
  have nd := pyOf_noDict y pd hpd
  cases rr with
  | none => exact PySem.P.repr_of_none (fin _ _ (I.tok _))
  | bool b => exact PySem.P.repr_of_bool (fin _ _ (I.tok _))
  | int i t => exact PySem.P.repr_of_int (of_decide_eq_true (by simpa [PyData.showable] using h1)) (fin _ _ (I.tok _))
  | str i t => exact PySem.P.repr_of_str (fin _ _ (I.tok _)) h3
  | list e1 e2 e3 e4 => exact repr_of_reads' (.list e1 e2 e3 e4) h1 (fun z => by rw [nd] at z; cases z) hg (by omega) (fun _ _ e => e) (fun h' u tk hk => fin _ _ (I.kept hk)) h3
  | tuple e1 e2 e3 e4 => exact repr_of_reads' (.tuple e1 e2 e3 e4) h1 (fun z => by rw [nd] at z; cases z) hg (by omega) (fun _ _ e => e) (fun h' u tk hk => fin _ _ (I.kept hk)) h3
  | dict e1 e2 e3 e4 e5 => simp [PyData.hasDict] at nd

/-! ### isinstance -/
theorem tyx_of (g : Prg T P) {S : S8} (w : Wf T S) {v : Val} {t : Tg} {x : V} (e : tagOf P S.M v = some t) (h : RepV T pn S v x) : TyX T.K S.H x (tgV T t) ∧ okTg P t = true := by
  unfold tagOf at e
  split at e
  · rename_i c vs hi
    split at e
    · rename_i hz
      cases e
      obtain ⟨a, dx, ws, ex, hx, _, _⟩ := RepV.ins w hi h
      subst ex
      have c := (g.cls _ hz).1
      exact ⟨.base (.ins hx c.cl c.ha c.hn c.tk c.hm), hz⟩
    · cases e
  · split at e
    · rename_i hl
      cases e
      obtain ⟨a, ws, ex, hx, _⟩ := RepV.lst w hl h
      subst ex
      exact ⟨.base (.lst hx), rfl⟩
    · cases e
      have e := rl_non (T := T) (F := S.F) h
      subst e
      exact ⟨.base .non, rfl⟩
    · cases e
      have e := rl_bl (T := T) (F := S.F) h
      subst e
      exact ⟨.base (.bl _), rfl⟩
    · cases e
      have e := rl_int (T := T) (F := S.F) h
      subst e
      exact ⟨.base (.int _), rfl⟩
    · cases e
      have e := rl_str (T := T) (F := S.F) h
      subst e
      exact ⟨.base (.str _), rfl⟩
    · cases e
      obtain ⟨a, ws, ex, hx, _⟩ := rl_tup (T := T) (F := S.F) h
      subst ex
      have hx' := sqT_mono w.fh hx
      refine ⟨?_, rfl⟩
      rcases hx' with (hx' | ⟨o, hx'⟩) | ⟨o, its, n, hk, hc, _⟩
      · exact .base (.tup hx')
      · exact .fTuple hx'
      · exact .kTuple hk hc
    · cases e
      obtain ⟨a, kvs, ex, hx, _⟩ := (show ∃ (a : Addr) (kvs : List (Key × V)), x = .ref a ∧ S.F a = some (.dK kvs) ∧ _ by simpa only [RepV, RepD] using h)
      subst ex
      exact ⟨.base (.dK (w.fh _ _ hx)), rfl⟩
    · cases e
theorem se_isi1 (hK : X.K = T.K) (g : Prg T P) {e ce : Expr} {ie : E} {cv : V} {u : Value} {ts : List Nat} {os : List String} {p pos : Pos} (hgl : Gl X "isinstance") (hm : X.mg "isinstance" = none) (he : PE X e (tE T P C q X.pn W ie)) (hc : PE X ce (tC cv)) (kv : ClsV cv u)
    (hk : ∀ t, okTg P t = true → PySem.W.kitOne T.K (tgV T t) u = some (ts.any (t.isO P) || os.any t.isB)) (s1 : starEach [e, ce] X.env = (false, eval e X.env) :: starEach [ce] X.env := by rfl) (s2 : starEach [ce] X.env = (false, eval ce X.env) :: starEach [] X.env := by rfl)
    (hpl : (backTo pos (starEach [ce] X.env)).any (·.1) = false := by rfl) :
    PE X (.Call (.Name "isinstance" p) [e, ce] [] pos) (tE T P C q X.pn W (.bi (.isi ts os) (.cons ie .nil))) :=
  PE_imp (pe_callB call_isi hgl hm (by decide +kernel) (pa_cons he (pa_cons hc pa_nil s2) s1) (by decide) (by decide) s1 hpl) fun σ H Q h => by
    obtain ⟨S, r, rfl, w, er, p⟩ := h
    have p' : PostA T (RepV T X.pn) ((ev P C q ie r S.M).bind fun x M1 => bIsi P ts os [x] M1) S Q (atW W σ) := by
      have p0 := Post.toA.mp p
      simp only [ev, evA] at p0
      cases z : ev P C q ie r S.M with
      | ok x M => rw [z] at p0; exact p0
      | ex c ds M => rw [z] at p0; exact p0
      | no => rw [z] at p0; exact p0
    refine tE_mono (tE_then w er p') fun x H1 ⟨S1, va, e1, g1, w1, r1, h2⟩ => ?_
    subst e1
    unfold bIsi isInst at h2
    dsimp only at h2
    cases z : tagOf P S1.M va with
    | none => rw [z] at h2; exact False.elim h2
    | some t =>
      rw [z] at h2
      obtain ⟨ty, ok⟩ := tyx_of g w1 z r1
      exact ⟨x, cv, tgV T t, u, _, rfl, kv, hK ▸ ty, hK ▸ hk t ok, post_d w1 (Post.toA.mpr h2) rp_bl⟩
theorem kit_os (g : Prg T P) {t : Tg} (ok : okTg P t = true) : ∀ {os : List String}, os.all okOs = true → PySem.W.kitAny T.K (tgV T t) (os.map Value.type) = some (([] : List Nat).any (t.isO P) || os.any t.isB)
  | [], _ => rfl
  | o :: os, h => by
    rw [List.all_cons, Bool.and_eq_true] at h
    have ih := kit_os g ok h.2
    simp only [List.any_nil, Bool.false_or] at ih
    simp only [List.map_cons, PySem.W.kitAny, g.kitb t o ok h.1, List.any_cons, List.any_nil, Bool.false_or]
    cases t.isB o with
    | true => rfl
    | false => rw [Bool.false_or]; exact ih
theorem kit_ts (g : Prg T P) {t : Tg} (ok : okTg P t = true) : ∀ {ts : List Nat}, ts.all (fun c => (P.frz c).isSome) = true → PySem.W.kitAny T.K (tgV T t) (ts.map fun c => Value.ref (T.ca c)) = some (ts.any (t.isO P) || ([] : List String).any t.isB)
  | [], _ => rfl
  | o :: os, h => by
    rw [List.all_cons, Bool.and_eq_true] at h
    have ih := kit_ts g ok h.2
    simp only [List.any_nil, Bool.or_false] at ih
    simp only [List.map_cons, PySem.W.kitAny, g.kito t o ok h.1, List.any_cons, List.any_nil, Bool.or_false]
    cases t.isO P o with
    | true => rfl
    | false => rw [Bool.false_or]; exact ih
theorem se_isi2 (hK : X.K = T.K) (g : Prg T P) {e c1 c2 : Expr} {ie : E} {v1 v2 : V} {us : List Value} {ts : List Nat} {os : List String} {x1 : Nat} {p pt pos : Pos} (hgl : Gl X "isinstance") (hm : X.mg "isinstance" = none) (he : PE X e (tE T P C q X.pn W ie)) (h1 : PE X c1 (tC v1)) (h2 : PE X c2 (tC v2)) (kv : Paired ClsV [v1, v2] us)
    (hk : ∀ t, okTg P t = true → PySem.W.kitAny T.K (tgV T t) us = some (ts.any (t.isO P) || os.any t.isB)) (s1 : starEach [e, .Tuple [c1, c2] x1 pt] X.env = (false, eval e X.env) :: starEach [.Tuple [c1, c2] x1 pt] X.env := by rfl)
    (hs1 : starEach [c1, c2] X.env = (false, eval c1 X.env) :: starEach [c2] X.env := by rfl) (hs2 : starEach [c2] X.env = (false, eval c2 X.env) :: starEach [] X.env := by rfl) :
    PE X (.Call (.Name "isinstance" p) [e, .Tuple [c1, c2] x1 pt] [] pos) (tE T P C q X.pn W (.bi (.isi ts os) (.cons ie .nil))) :=
  PE_imp (pe_callB call_isiT hgl hm (by decide +kernel) (pa_cons he (pa_cons (pe_tup (pa_cons h1 (pa_cons h2 pa_nil hs2) hs1)) pa_nil) s1) (by decide) (by decide) s1) fun σ H Q h => by
    obtain ⟨S, r, rfl, w, er, p⟩ := h
    have p' : PostA T (RepV T X.pn) ((ev P C q ie r S.M).bind fun x M1 => bIsi P ts os [x] M1) S Q (atW W σ) := by
      have p0 := Post.toA.mp p
      simp only [ev, evA] at p0
      cases z : ev P C q ie r S.M with
      | ok x M => rw [z] at p0; exact p0
      | ex c ds M => rw [z] at p0; exact p0
      | no => rw [z] at p0; exact p0
    refine tE_mono (tE_then w er p') fun x H1 ⟨S1, va, e1, g1, w1, r1, h2⟩ => ?_
    subst e1
    unfold bIsi isInst at h2
    dsimp only at h2
    cases z : tagOf P S1.M va with
    | none => rw [z] at h2; exact False.elim h2
    | some t =>
      rw [z] at h2
      refine ⟨by rw [sizeLine_eq]; show 2 ≤ _; omega, fun tp htp => ?_⟩
      obtain ⟨g2, w2⟩ := Go.alloc (p := tp) (o := .tup [v1, v2]) w1 htp (fun ps z => by cases z)
      obtain ⟨ty, ok⟩ := tyx_of g w2 (v := va) (t := t) (x := x) z (RepV.go g2 w2 r1)
      exact ⟨x, tp, [v1, v2], tgV T t, us, _, rfl, upd_same, kv, hK ▸ ty, hK ▸ hk t ok, h2 _ _ g2 w2 rfl (rp_bl (T := T) (F := upd S1.F tp (.tup [v1, v2])))⟩
end
end BV

set_option Elab.async false
set_option maxRecDepth 100000
set_option maxHeartbeats 4000000
/-! BV12: attributes. -/
namespace BV
open PySem PySem.Spec PyProof.Rows L2

theorem zip_none {fl : List Str} : ∀ {ws : List V} {x : Str}, x ∉ fl → (fl.zip ws).lookup x = none := by
  induction fl with
  | nil => intro ws x _; rfl
  | cons f fl ih =>
    intro ws x h
    cases ws with
    | nil => rfl
    | cons w ws =>
      have e : (x == f) = false := beq_eq_false_iff_ne.mpr fun z => h (by rw [z]; exact List.mem_cons_self)
      rw [List.zip_cons_cons, List.lookup_cons, e]
      exact ih fun z => h (List.mem_cons_of_mem _ z)
theorem zip_lookup {fl : List Str} : ∀ {ws : List V} {k : Nat} {x : Str} {v : V}, fl.Nodup → fl[k]? = some x → ws[k]? = some v → (fl.zip ws).lookup x = some v := by
  induction fl with
  | nil => intro ws k x v _ h; simp at h
  | cons f fl ih =>
    intro ws k x v nd h hv
    cases ws with
    | nil => simp at hv
    | cons w ws =>
      cases k with
      | zero =>
        simp at h hv
        subst h hv
        rw [List.zip_cons_cons, List.lookup_cons]
        simp
      | succ k =>
        have h' : fl[k]? = some x := by simpa using h
        have hv' : ws[k]? = some v := by simpa using hv
        have nx : f ∉ fl := (List.nodup_cons.mp nd).1
        have e : (x == f) = false := beq_eq_false_iff_ne.mpr fun z => nx (by rw [← z]; exact List.mem_of_getElem? h')
        rw [List.zip_cons_cons, List.lookup_cons, e]
        exact ih (List.nodup_cons.mp nd).2 h' hv'

section
variable {X : Cx} {T : Ad} {P : Pg} {C : Caller} {q : Asker} {W : WX} {k : Nat} {pn : List (Addr × Obj)}

/-- a def of the text that cannot raise here, called at A -/
theorem run_calm (co : CallOk X T C k) {A : Around} {pins : List (Addr × Obj)} {s : Shared} {σ : L2.St} {S : S8} {f : Nat} {as : List Val} {vs : List V} {us : List Value} {Q : VK} (hr : Room k A) (hp : Plain T A f)
    (e0 : Env0 X.prog X.w X.K X.mg X.base A X.stack s S.H) (I : Inv X pins σ S.H s) (w : Wf T S) (ra : RepVs T [] S as vs) (rv : Vals vs us) (h : Post T [] (C f none as S.M) S Q (fun _ _ _ => False)) :
    codeAny (model X.prog X.w) A (.call (.ref (T.fa f)) ⟨us, []⟩) (fun r s' => match r with | .ok (.ret u) => EP X pins σ Q u s' | _ => False) s := by
  refine codeAny_mono (co f A X.stack s S as us vs Q _ hr hp e0 rv w ra h) fun r s' hq => ?_
  cases r with
  | error e =>
    obtain ⟨_, _, _, _, _, _, _, _, _, _, _, _, z⟩ := hq
    exact z.elim
  | ok fl =>
    cases fl with
    | ret u => exact I.after hq
    | next => exact False.elim hq
    | brk => exact False.elim hq
    | cont => exact False.elim hq
theorem post_calm {r : R Val} {S : S8} {Q : VK} {E : Value → Option Addr → Hp → Prop} (p : Post T pn (R.calm r) S Q E) : Post T [] r S Q (fun _ _ _ => False) := by
  cases r with
  | ok v M => exact fun S' w g w' e r' => p S' w g w' e (RepV.nil r')
  | ex c ds M => exact False.elim p
  | no => exact p
/-- a field of a caught error -/
theorem atx_post (hK : X.K = T.K) (g : Prg T P) {b : Bool} {m : Nat} {pins : List (Addr × Obj)} {s : Shared} {σ : L2.St} {S : S8} {a : Val} {x : V} {v : Value} {Q : VK} {E : Value → Option Addr → Hp → Prop} {A : Around} (I : Inv X pins σ S.H s) (w : Wf T S) (rx : RelV x v) (r1 : RepV T X.pn S a x)
    (p : Post T X.pn (attrX P m a S.M) S Q E) : wpAny (model X.prog X.w) A (getAttr v (T.nm m) b) (EP X pins σ Q) X.xe s := by
  unfold attrX at p
  split at p <;> try exact False.elim p
  rename_i c' ds
  split at p <;> try exact False.elim p
  rename_i j hj
  split at p <;> try exact False.elim p
  rename_i d hd
  obtain ⟨ad, oe, od, ex, hpn, hz, ⟨vs, hdat⟩, hds⟩ := r1
  subst ex
  cases rx
  rcases hds with e | ⟨dx, xs, e1, e2, e3, e4, e5⟩
  · subst e
    simp at hd
  obtain ⟨y, hy, ry⟩ := RepL.get e4 hd
  obtain ⟨xc, nd, hno, hfl⟩ := g.xfl _ _ _ hj
  rw [← hK] at xc hno
  subst e1
  obtain ⟨ha, _⟩ := I.pin (ad, oe) (List.mem_append_left _ hpn)
  have hx : ObjOk X.prog X.w S.H s.heap dx (.xd ((T.fl c').zip xs)) := I.hok dx _ e2
  obtain ⟨mA, hns, hr⟩ := hx
  obtain ⟨ob, ho, hl⟩ := lookIn_ns hns
  have l := zip_lookup nd hfl hy
  obtain ⟨u, hu, ru⟩ := RelO.some_of (v := y) (o := mA (T.nm m)) (by rw [← l]; exact hr (T.nm m))
  have J : PySem.W.InstAt s.heap ad oe (T.ca c') (some ob) := ⟨ha, hz.1, by unfold PySem.W.notCls; rw [hdat] <;> rfl, by rw [hz.2]; exact ho⟩
  exact HandSPX.exc_get I.kIn J xc.ga xc.gg xc.exC (PySem.W.findObj_own xc.hdC hno rfl (by rw [hl, hu])) (handed_of ru) ⟨y, S.H, I.tok _, ru, p S y (Go.refl S) w rfl ry⟩
/-- an attribute of a value: does what attr says -/
theorem at_post (c : Cok X T C k W) (g : Prg T P) {b : Bool} {m : Nat} {pins : List (Addr × Obj)} {s : Shared} {σ : L2.St} {S : S8} {a : Val} {x : V} {v : Value} {Q : VK} (I : Inv X pins σ S.H s) (w : Wf T S) (rx : RelV x v) (r1 : RepV T X.pn S a x)
    (p : Post T X.pn (attr P C m a S.M) S Q (atW W σ)) : wpAny (model X.prog X.w) X.A (getAttr v (T.nm m) b) (EP X pins σ Q) X.xe s := by
  have hK := c.K
  unfold attr at p
  split at p
  · exact atx_post hK g I w rx r1 p
  · rename_i c'
    split at p <;> try exact False.elim p
    rename_i d hd
    have ex : x = .ref (T.ca c') := by
      have z : RepD T S.F (.cls c') x := r1
      simpa [RepD] using z
    subst ex
    cases rx
    obtain ⟨hz, nm, y, u, k1, hr, mc, r, k2⟩ := g.ccon _ _ _ hd
    rw [← hK] at r k2
    exact ClX.getcval_ok I r k2 fun s' I' => ⟨y, S.H, I', k2.rel, p S y (Go.refl S) w rfl (hr S.F)⟩
  · split at p <;> try exact False.elim p
    rename_i c' vs hi
    obtain ⟨ad, dx, ws, ex, hx, rws, hlen⟩ := RepV.ins w hi r1
    subst ex
    cases rx
    split at p
    · rename_i j hj
      split at p <;> try exact False.elim p
      rename_i va hva
      obtain ⟨hz, hno, hfl⟩ := g.fld _ _ _ hj
      obtain ⟨cl, _, nd⟩ := g.cls _ hz
      rw [← hK] at hno
      have cl' := cl.cl
      rw [← hK] at cl'
      obtain ⟨y, hy, ry⟩ := RepVs.get rws hva
      exact getattr_ok I hx cl' hno (zip_lookup nd hfl hy) fun u s' I' ru => ⟨y, S.H, I', ru, p S y (Go.refl S) w rfl (RepV.nil ry)⟩
    · split at p
      · rename_i f hf
        obtain ⟨hz, hqt, pp, hp⟩ := g.prop _ _ _ hf
        obtain ⟨cl, _, nd⟩ := g.cls _ hz
        have cl' := cl.cl
        rw [← hK] at cl' hp
        obtain ⟨mA, O, _, _, _, _⟩ := ins_get I.hok hx
        obtain ⟨od, J, _⟩ := O.look
        obtain ⟨rest, hrec⟩ := hp.rec_
        have I1 : Inv X pins σ S.H { s with toks := s.toks + 1 } := I.tok (s.toks + 1)
        have hc : (PySem.W.clsIn X.K (T.ca c')).isSome = true := by
          obtain ⟨cd, hc, _⟩ := PySem.W.any_some cl'.hd
          rw [hc]
          rfl
        refine PySem.W.get_bind I.kIn J (PySem.W.plainGet_of (cl'.get (T.nm m))).1 (PySem.W.findObj_data hc hp.at_ hp.get hp.tak) (PySem.W.plainGet_of (cl'.get (T.nm m))).2 (wpAny_call (PySem.W.prop_get (s := { s with toks := s.toks + 1 }) I.kIn hrec ?_))
        have rx1 : RepVs T [] S [_] [V.ref ad] := ⟨_, _, rfl, RepV.plain (plain_of_ins hi) r1, rfl⟩
        refine codeAny_mono (run_calm (as := [_]) (vs := [V.ref ad]) (us := [.ref ad]) c.calls (Room.in1 c.room) (.inl hqt) I1.env0.in1 I1 w rx1 (.cons rfl .nil) (post_calm p)) fun r s' hq => ?_
        cases r with
        | error er => exact False.elim hq
        | ok fl =>
          cases fl with
          | ret u =>
            obtain ⟨v2, H', I3, rv, q3⟩ := hq
            show wpAny _ _ (handedOut u) _ _ _
            rw [PySem.W.handedOut_of (handed_of rv)]
            exact wpAny_pure ⟨v2, H', I3, rv, q3⟩
          | next => exact False.elim hq
          | brk => exact False.elim hq
          | cont => exact False.elim hq
      · split at p <;> try exact False.elim p
        rename_i d hd
        obtain ⟨hz, hnf, y, u, k1, hr, mc, r, k2⟩ := g.ccon _ _ _ hd
        obtain ⟨cl, _, nd⟩ := g.cls _ hz
        have cl' := cl.cl
        rw [← hK] at cl' k1
        exact getcon_ok I hx cl' k1 (zip_none hnf) fun s' I' => ⟨y, S.H, I', k1.rel, p S y (Go.refl S) w rfl (hr S.F)⟩
theorem se_at (c : Cok X T C k W) (g : Prg T P) {e : Expr} {ie : E} {f : Str} {m : Nat} {pos : Pos} (hf : f = T.nm m) (he : PE X e (tE T P C q X.pn W ie)) (hb : attributeBase e f X.env (eval e X.env) = eval e X.env := by rfl) : PE X (.Attribute e f pos) (tE T P C q X.pn W (.o1 (.at m) ie)) := by
  refine ⟨fun pins s σ H Q I h => ?_⟩
  obtain ⟨S, r, rfl, w, er, p⟩ := h
  simp only [ev] at p
  refine attr_of hb (thn (he.run pins s σ S.H _ I (tE_then w er (Post.toA.mp p))) fun v s1 ⟨x, H1, I1, rx, S1, va, e1, g1, w1, r1, h2⟩ => ?_)
  subst e1
  rw [hf]
  exact at_post c g I1 w1 rx r1 (Post.toA.mpr h2)
theorem se_atx (hK : X.K = T.K) (g : Prg T P) {e : Expr} {ie : E} {f : Str} {m : Nat} {pos : Pos} (hf : f = T.nm m) (he : PE X e (tE T P C q X.pn W ie)) (hb : attributeBase e f X.env (eval e X.env) = eval e X.env := by rfl) : PE X (.Attribute e f pos) (tE T P C q X.pn W (.o1 (.atx m) ie)) := by
  refine ⟨fun pins s σ H Q I h => ?_⟩
  obtain ⟨S, r, rfl, w, er, p⟩ := h
  simp only [ev] at p
  refine attr_of hb (thn (he.run pins s σ S.H _ I (tE_then w er (Post.toA.mp p))) fun v s1 ⟨x, H1, I1, rx, S1, va, e1, g1, w1, r1, h2⟩ => ?_)
  subst e1
  rw [hf]
  exact atx_post hK g I1 w1 rx r1 (Post.toA.mpr h2)
end
end BV

set_option Elab.async false
set_option maxRecDepth 100000
set_option maxHeartbeats 4000000
/-! BV13: calls of the text's own defs, classes, methods. -/
namespace BV
open PySem PySem.Spec PyProof.Rows L2

section
variable {X : Cx} {T : Ad} {P : Pg} {C : Caller} {q : Asker} {W : WX} {k : Nat} {pn : List (Addr × Obj)}

/-- a new object that nothing of the data tells of -/
theorem Go.hid {S : S8} {p : Addr} {o : HO} (w : Wf T S) (hp : S.H p = none) (ho : ∀ ps, o ≠ .tbl ps) : Go S { S with H := upd S.H p o } ∧ Wf T { S with H := upd S.H p o } := by
  have ne : ∀ a u, S.H a = some u → a ≠ p := fun a u e => ne_of_none e hp
  have nf : S.F p = none := by
    cases e : S.F p with
    | none => rfl
    | some u => rw [w.fh _ _ e] at hp; cases hp
  have g : Go S { S with H := upd S.H p o } := by
    refine ⟨fun a u e => e, fun a u e _ _ => ?_, fun a e _ => rfl, fun a e => ?_, Nat.le_refl _, fun _ _ => rfl, fun n h => .inl h⟩
    · show upd S.H p o a = some u
      rw [upd_ne (ne a u e)]; exact e
    · show upd S.H p o a ≠ none
      obtain ⟨u, hu⟩ := Option.ne_none_iff_exists'.mp e
      rw [upd_ne (ne a u hu)]; exact e
  refine ⟨g, fun a u e => ?_, fun n c hc => ?_, w.inj, w.ft, w.tabs.ext fun b u e => ?_, fun a ps e => ?_, fun S0 h => (w.amb S0 h).trans g⟩
  · show upd S.H p o a = some u
    have z := w.fh a u e
    rw [upd_ne (ne a u z)]; exact z
  · obtain ⟨h1, u, hu, cr⟩ := w.cell n c hc
    refine ⟨h1, u, ?_, CellR.up g.F g.io g.len cr⟩
    show upd S.H p o (S.io n) = some u
    rw [upd_ne (ne _ u hu)]; exact hu
  · show upd S.H p o b = some u
    rw [upd_ne (ne b u e)]; exact e
  · by_cases z : a = p
    · have e' : upd S.H p o a = some (.tbl ps) := e
      rw [z, upd_same] at e'
      exact absurd (Option.some.inj e') (ho ps)
    · have e' : upd S.H p o a = some (.tbl ps) := e
      rw [upd_ne z] at e'
      exact w.tin a ps e'

/-- a cell is given up -/
theorem fz_ok {S : S8} {v : Val} {x : V} {Q : VK} {E : Value → Option Addr → Hp → Prop} (w : Wf T S) (r1 : RepV T pn S v x) (p : Post T pn (f1 P C .fz v S.M) S Q E) : Q x S.H := by
  simp only [f1] at p
  split at p <;> try exact False.elim p
  rename_i n
  obtain ⟨e1, hn⟩ := r1
  subst e1
  split at p <;> try exact False.elim p
  · rename_i xs hc
    split at p <;> try exact False.elim p
    rename_i l hl
    obtain ⟨hF, o, ho, vs, eo, hr⟩ := w.cell n _ hc
    subst eo
    obtain ⟨g, w'⟩ := Go.freeze w ⟨_, hc⟩ ho (fun ps z => by cases z)
    refine p { S with F := upd S.F (S.io n) (.lst vs), M := S.M.set n none } (.ref (S.io n)) g w' rfl ?_
    show RepD T (upd S.F (S.io n) (.lst vs)) (.lst l) (.ref (S.io n))
    simp only [RepD]
    exact ⟨S.io n, vs, rfl, upd_same, RepL.mono g.F _ _ (RepVs.toL (pn := []) hl hr)⟩
  · rename_i c vs hc
    split at p <;> try exact False.elim p
    rename_i l hl
    obtain ⟨hF, o, ho, dx, ws, eo, hr, hz⟩ := w.cell n _ hc
    subst eo
    obtain ⟨g, w'⟩ := Go.freeze w ⟨_, hc⟩ ho (fun ps z => by cases z)
    refine p { S with F := upd S.F (S.io n) (.ins (T.ca c) dx ((T.fl c).zip ws)), M := S.M.set n none } (.ref (S.io n)) g w' rfl ?_
    show RepD T (upd S.F (S.io n) (.ins (T.ca c) dx ((T.fl c).zip ws))) (.ins c l) (.ref (S.io n))
    simp only [RepD]
    exact ⟨S.io n, dx, ws, rfl, upd_same, RepL.mono g.F _ _ (RepVs.toL (pn := []) hl hr), hz⟩
theorem se_fz {e : Expr} {ie : E} (he : PE X e (tE T P C q X.pn W ie)) : PE X e (tE T P C q X.pn W (.o1 .fz ie)) :=
  PE_imp he fun σ H Q h => by
    obtain ⟨S, r, rfl, w, er, p⟩ := h
    simp only [ev] at p
    refine tE_mono (tE_then w er (Post.toA.mp p)) fun x H1 ⟨S1, va, e1, g1, w1, r1, h2⟩ => ?_
    subst e1
    exact fz_ok w1 r1 (Post.toA.mpr h2)

/-! ### making -/
theorem Vals.plainU {xs : List V} {us : List Value} (h : Vals xs us) : Vals xs us := h
theorem RepVs.consV {S : S8} {a : Val} {x : V} {l : List Val} {vs : List V} (h1 : RepV T pn S a x) (h2 : RepVs T pn S l vs) : RepVs T pn S (a :: l) (x :: vs) := ⟨_, _, rfl, h1, h2⟩
/-- the state with a new instance at x, its dict at d -/
def mkS (T : Ad) (S : S8) (d x : Addr) (cn : Nat) : S8 := { F := S.F, H := upd (upd S.H d (.own x)) x (.ins (T.ca cn) d []), io := fun n => if n = S.M.length then x else S.io n, M := S.M ++ [some (.ins cn [])] }
theorem mkS_ok {S : S8} {d x : Addr} {cn : Nat} (w : Wf T S) (hx : S.H x = none) (hd : S.H d = none) (ne : d ≠ x) : Go S (mkS T S d x cn) ∧ Wf T (mkS T S d x cn) ∧ RepV T pn (mkS T S d x cn) (.ref S.M.length) (.ref x) := by
  obtain ⟨g1, w1⟩ := Go.hid (T := T) (o := .own x) w hd (fun ps z => by cases z)
  obtain ⟨g2, w2⟩ := Go.cell (T := T) (S := { S with H := upd S.H d (.own x) }) (p := x) (o := .ins (T.ca cn) d []) (c := .ins cn []) w1
    (by show upd S.H _ _ _ = none; rw [upd_ne (Ne.symm ne)]; exact hx) (fun ps z => by cases z) ⟨d, [], by rw [List.zip_nil_right], rfl, Nat.zero_le _⟩
  refine ⟨g1.trans g2, w2, ?_, ?_⟩
  · show V.ref x = V.ref (if S.M.length = S.M.length then x else S.io S.M.length)
    rw [if_pos rfl]
  · show S.M.length < (S.M ++ [some (Cell.ins cn [])]).length
    rw [List.length_append]; exact Nat.lt_succ_self _
theorem Post.from {S S1 : S8} {r : R Val} {Q : VK} {E : Value → Option Addr → Hp → Prop} (g : Go S S1) (p : Post T pn r S Q E) : Post T pn r S1 Q E := by
  cases r with
  | ok v M => exact fun S' w g' w' e r => p S' w (g.trans g') w' e r
  | ex c ds M => exact fun S' cls d g' w' e r => p S' cls d (g.trans g') w' e r
  | no => exact p
def mkEnd (P : Pg) (C : Caller) (cn n : Nat) (r : R Val) : R Val :=
  match r with
  | .ok (.d .non) M' => (match P.frz cn with
    | some true => f1 P C .fz (.ref n) M'
    | some false => .ok (.ref n) M'
    | none => .no)
  | .ok _ _ => .no
  | .ex c ds M' => .ex c ds M'
  | .no => .no
theorem mk_end {S : S8} {x : Addr} {cn n : Nat} {r : R Val} {Q : VK} {E : Value → Option Addr → Hp → Prop} (rx : RepV T [] S (.ref n) (.ref x)) (p : Post T pn (mkEnd P C cn n r) S Q E) : Post T [] r S (fun v H2 => v = .non ∧ Q (.ref x) H2) E := by
  cases r with
  | ok y M' =>
    intro S' y' g' w' e' r'
    unfold mkEnd at p
    split at p
    · rename_i e2
      cases e2
      refine ⟨rl_non (T := T) (F := S'.F) r', ?_⟩
      have rx' := RepV.go g' w' rx
      have p2 := Post.from g' p
      split at p2
      · rw [← e'] at p2
        exact fz_ok w' (RepV.nil (pn := pn) rx') p2
      · exact p2 S' _ (Go.refl _) w' e' (RepV.nil rx')
      · exact False.elim p2
    · exact False.elim p
    · rename_i e2
      cases e2
    · rename_i e2
      cases e2
  | ex c ds M' => exact p
  | no => exact p
/-- a class is called -/
theorem run_mk (c : Cok X T C k W) (g : Prg T P) {pins : List (Addr × Obj)} {s : Shared} {σ : L2.St} {S : S8} {cn : Nat} {as : List Val} {vs : List V} {us : List Value} {Q : VK} (I : Inv X pins σ S.H s) (w : Wf T S) (ra : RepVs T [] S as vs) (rv : Vals vs us)
    (p : Post T X.pn (fmk P C cn as S.M) S Q (atW W σ)) : wpAny (model X.prog X.w) X.A (call (.ref (T.ca cn)) us) (EP X pins σ Q) X.xe s := by
  unfold fmk at p
  split at p <;> try exact False.elim p
  rename_i f hf
  have p0 : Post T X.pn (mkEnd P C cn S.M.length (C f none (.ref S.M.length :: as) (S.M ++ [some (.ins cn [])]))) S Q (atW W σ) := p
  obtain ⟨M, hq⟩ := g.ini _ _ hf
  rw [← c.K] at M
  have nx : S.H (s.heap.objs.size + 1) = none := I.hok.fresh (Nat.le_succ _)
  have nd : S.H s.heap.objs.size = none := I.hok.fresh (Nat.le_refl _)
  have ne : s.heap.objs.size ≠ s.heap.objs.size + 1 := Nat.ne_of_lt (Nat.lt_succ_self _)
  have I2 := Inv.made (C := T.ca cn) I
  obtain ⟨g2, w2, rx0⟩ := mkS_ok (T := T) (pn := []) (cn := cn) w nx nd ne
  have ra2 := RepVs.consV rx0 (RepVs.go g2 w2 ra)
  have r2 : Vals (V.ref (s.heap.objs.size + 1) :: vs) (Value.ref (s.heap.objs.size + 1) :: us) := .cons rfl rv
  have hp := mk_end rx0 (Post.from g2 p0)
  have run := c.calls f _ X.stack _ (mkS T S s.heap.objs.size (s.heap.objs.size + 1) cn) (.ref S.M.length :: as) (Value.ref (s.heap.objs.size + 1) :: us) _ _ _ (c.room.make (T.ca cn) us []) (.inl hq) (I2.env0.make (T.ca cn) us []) r2 w2 ra2 hp
  refine wpAny_call (make_map (f := T.fa f) I.kIn M.makes M.init (beq_iff_eq.mp M.fn) (codeAny_mono run fun r s' hq' => ?_))
  cases r with
  | error e => exact c.tk _ _ (XE.of_call I2 (fun cls d H' z => z) hq')
  | ok fl =>
    cases fl with
    | ret u =>
      obtain ⟨v, H', I3, rv3, ev3, q3⟩ := I2.after hq'
      subst ev3
      exact ⟨rv3, ⟨V.ref (s.heap.objs.size + 1), H', I3, rfl, q3⟩⟩
    | next => exact False.elim hq'
    | brk => exact False.elim hq'
    | cont => exact False.elim hq'
end
end BV

set_option Elab.async false
set_option maxRecDepth 100000
set_option maxHeartbeats 4000000
/-! BV14: the call's node; calls of defs, classes, methods. -/
namespace BV
open PySem PySem.Spec PyProof.Rows L2

section
variable {X : Cx} {T : Ad} {P : Pg} {C : Caller} {q : Asker} {W : WX} {k : Nat} {pn : List (Addr × Obj)}

/-- who keeps a callee while it runs -/
def Kept (X : Cx) (f : Value) (Pk : Heap → Prop) : Prop := ∀ h, Pk h → ∃ k, (k = Keeper.frame ∨ k = Keeper.machine ∨ k = Keeper.boundFrame) ∧ PySem.W.Looks (model X.prog X.w) h (keeperOf f) k
/-- the node of a call with these arguments, any callee -/
def CW (X : Cx) (es : List Expr) (pos : Pos) (t : TA) : Prop :=
  ∀ (f : Value) (first : List Value) (Pk : Heap → Prop) (pins : List (Addr × Obj)) (s : Shared) (σ : L2.St) (H : Hp) (Q : Value → Shared → Prop), Kept X f Pk → (∀ s1 H1, Inv X pins σ H1 s1 → Pk s1.heap) → Inv X pins σ H s →
    t σ H (fun vs H1 => ∀ s1 us, Inv X pins σ H1 s1 → Vals vs us → wpAny (model X.prog X.w) X.A (call f (first ++ us)) Q X.xe s1) →
    wpAny (model X.prog X.w) X.A (callWith pos f first (backTo pos (starEach es X.env)) (backToKw pos (keywordEach [] X.env))) Q X.xe s
theorem kept_K {f : Value} (hk : PySem.W.keepIn X.K f = true) : Kept X f X.K.In := fun h e => PySem.W.keeps_K hk h e
theorem cw_nil {pos : Pos} : CW X [] pos (tA T P C q X.pn W .nil) := by
  intro f first Pk pins s σ H Q hk hP I h
  obtain ⟨S, r, rfl, w, er, p⟩ := h
  exact PySem.W.callWith_of rfl hk (evalArgs_nil3 ⟨hP _ _ I, p S [] (Go.refl S) w rfl rfl s [] I .nil⟩)
theorem cw_plain {e : Expr} {es : List Expr} {pos : Pos} {t : TA} (ha : PA X (e :: es) t) (he : starEach (e :: es) X.env = (false, eval e X.env) :: starEach es X.env := by rfl) (hpl : (backTo pos (starEach es X.env)).any (·.1) = false := by rfl) : CW X (e :: es) pos t := by
  intro f first Pk pins s σ H Q hk hP I h
  have hA := ha.run pos pins s σ H _ I h
  rw [he] at hA ⊢
  refine PySem.W.callWith_of (by show ((false || (backTo pos (starEach es X.env)).any (·.1)) || false) = false; rw [hpl]; rfl) hk (PySem.Calls.evalArgs_plain ?_)
  exact thn hA fun us s1 ⟨vs, H1, I1, rv, q1⟩ => ⟨hP _ _ I1, q1 s1 us I1 rv⟩
theorem cw_star2 {e : Expr} {es : List Expr} {pos : Pos} {t : TA} (ha : PA X (e :: es) t) (he : starEach (e :: es) X.env = (false, eval e X.env) :: starEach es X.env := by rfl) (hst : (backTo pos (starEach es X.env)).any (·.1) = true := by rfl) : CW X (e :: es) pos t := by
  intro f first Pk pins s σ H Q hk hP I h
  have hA := ha.run pos pins s σ H _ I h
  rw [he] at hA ⊢
  refine PySem.W.ks_call (by show (false || (backTo pos (starEach es X.env)).any (·.1)) = true; rw [hst]; rfl) hk (PySem.Calls.evalArgs_plain ?_)
  exact thn hA fun us s1 ⟨vs, H1, I1, rv, q1⟩ => ⟨hP _ _ I1, q1 s1 us I1 rv⟩
theorem cw_star1 (hK : X.K = T.K) {e : Expr} {ie : E} {p pos : Pos} (he : PE X e (tE T P C q X.pn W ie)) (hs : starEach [.Starred e p] X.env = [(true, eval e X.env)] := by rfl) : CW X [.Starred e p] pos (tA T P C q X.pn W (.star ie .nil)) := by
  intro f first Pk pins s σ H Q hk hP I h
  obtain ⟨S, r, rfl, w, er, p⟩ := h
  simp only [evA] at p
  rw [hs]
  refine PySem.W.ks_call rfl hk (PySem.W.ks_lone (thn (he.run pins s σ S.H _ I (tE_then w er p)) fun v s1 ⟨x, H1, I1, rx, S1, va, e1, g1, w1, r1, h2⟩ => ?_))
  subst e1
  dsimp only at h2
  cases z : seqOf S1.M va with
  | none => rw [z] at h2; exact False.elim h2
  | some ys =>
    rw [z] at h2
    obtain ⟨a, vs, ex, hx, rv⟩ := RepV.seq w1 z r1
    subst ex
    cases rx
    have h2' : PostA T (RepVs T X.pn) (.ok (ys ++ []) S1.M) S1 _ (atW W σ) := h2
    rw [List.append_nil] at h2'
    refine StX.star_any I1 ?_ fun us s2 I2 ru => ⟨hP _ _ I2, h2' S1 vs (Go.refl _) w1 rfl (RepVs.nilp rv) s2 us I2 ru⟩
    rcases hx with hx | hx
    · exact .inr (SqL.of hx)
    · exact .inl (hK ▸ hx)

/-- the arguments of a call that says something -/
theorem args_plain (c : Cok X T C k W) {S : S8} {f : Nat} {pre as : List Val} {vs : List V} {Q : VK} {E : Value → Option Addr → Hp → Prop} (ra : RepVs T X.pn S as vs) (p : Post T X.pn (C f none (pre ++ as) S.M) S Q E) : RepVs T [] S as vs := by
  rcases c.rf f (pre ++ as) S.M with h | h
  · rw [List.all_append, Bool.and_eq_true] at h
    exact RepVs.plain h.2 ra
  · rw [h] at p
    exact False.elim p
theorem head_plain (c : Cok X T C k W) {S : S8} {f : Nat} {a : Val} {as : List Val} {Q : VK} {E : Value → Option Addr → Hp → Prop} (p : Post T X.pn (C f none (a :: as) S.M) S Q E) : plainV a = true := by
  rcases c.rf f (a :: as) S.M with h | h
  · rw [List.all_cons, Bool.and_eq_true] at h
    exact h.1
  · rw [h] at p
    exact False.elim p

/-- x(..), x a def of the text -/
theorem se_call (c : Cok X T C k W) {x : Str} {f : Nat} {es : List Expr} {ias : As} {p pos : Pos} (hg : Gl X x) (hm : X.mg x = some (.ref (T.fa f))) (hk : PySem.W.keepIn X.K (.ref (T.fa f)) = true) (hp : Plain T X.A f) (ha : CW X es pos (tA T P C q X.pn W ias))
    (hdb : (x == ("__debug__" : Str)) = false := by decide) : PE X (.Call (.Name x p) es [] pos) (tE T P C q X.pn W (.call f ias)) := by
  refine ⟨fun pins s σ H Q I h => ?_⟩
  obtain ⟨S, r, rfl, w, er, p⟩ := h
  simp only [ev] at p
  refine wpAny_Call_Name_kw (ld_glob I hg hm ?_ hdb)
  refine ha _ [] X.K.In pins s σ S.H _ (kept_K hk) (fun s1 H1 I1 => I1.kIn) I (tA_mono (tA_then w er (Post.toA.mp p)) fun vs H1 ⟨S1, as, e1, g1, w1, r1, h2⟩ s1 us I1 rv => ?_)
  subst e1
  have h2' := Post.toA.mpr h2
  exact run_bv c.tk c.calls (c.room.mono (Nat.le_succ k)) hp I1.env0 I1 w1 (args_plain (pre := []) c r1 h2') rv (Post.nil h2')
theorem fmk_plain (c : Cok X T C k W) {S : S8} {cn : Nat} {as : List Val} {vs : List V} {Q : VK} {E : Value → Option Addr → Hp → Prop} (ra : RepVs T X.pn S as vs) (p : Post T X.pn (fmk P C cn as S.M) S Q E) : RepVs T [] S as vs := by
  unfold fmk at p
  split at p <;> try exact False.elim p
  rename_i f hf
  rcases c.rf f (.ref S.M.length :: as) (S.M ++ [some (.ins cn [])]) with h | h
  · rw [List.all_cons, Bool.and_eq_true] at h
    exact RepVs.plain h.2 ra
  · rw [h] at p
    exact False.elim p
/-- x(..), x a class of the text -/
theorem se_mk (c : Cok X T C k W) (g : Prg T P) {x : Str} {cn f : Nat} {es : List Expr} {ias : As} {p pos : Pos} (hg : Gl X x) (hm : X.mg x = some (.ref (T.ca cn))) (hi : P.ini cn = some f) (ha : CW X es pos (tA T P C q X.pn W ias))
    (hdb : (x == ("__debug__" : Str)) = false := by decide) : PE X (.Call (.Name x p) es [] pos) (tE T P C q X.pn W (.mk cn ias)) := by
  have hk : PySem.W.keepIn X.K (.ref (T.ca cn)) = true := by rw [c.K]; exact (g.ini _ _ hi).1.kp
  refine ⟨fun pins s σ H Q I h => ?_⟩
  obtain ⟨S, r, rfl, w, er, p⟩ := h
  simp only [ev] at p
  refine wpAny_Call_Name_kw (ld_glob I hg hm ?_ hdb)
  refine ha _ [] X.K.In pins s σ S.H _ (kept_K hk) (fun s1 H1 I1 => I1.kIn) I (tA_mono (tA_then w er (Post.toA.mp p)) fun vs H1 ⟨S1, as, e1, g1, w1, r1, h2⟩ s1 us I1 rv => ?_)
  subst e1
  have h2' := Post.toA.mpr h2
  exact run_mk c g I1 w1 (fmk_plain c r1 h2') rv h2'
/-- x(..), x a name that holds a class -/
theorem se_mkv (c : Cok X T C k W) (g : Prg T P) {x : Str} {ia : E} {es : List Expr} {ias : As} {p pos : Pos} (hf : PE X (.Name x p) (tE T P C q X.pn W ia)) (ha : CW X es pos (tA T P C q X.pn W ias)) :
    PE X (.Call (.Name x p) es [] pos) (tE T P C q X.pn W (.mkv ia ias)) := by
  refine ⟨fun pins s σ H Q I h => ?_⟩
  obtain ⟨S, r, rfl, w, er, p⟩ := h
  simp only [ev] at p
  refine wpAny_Call_Name_kw (thn (hf.run pins s σ S.H _ I (tE_then w er (Post.toA.mp p))) fun v s0 ⟨x, H0, I0, rx, S0, va, e0, g0, w0, r0, h0⟩ => ?_)
  subst e0
  dsimp only at h0
  split at h0 <;> try exact False.elim h0
  rename_i cn
  split at h0 <;> try exact False.elim h0
  rename_i hi
  obtain ⟨f, hf⟩ := Option.isSome_iff_exists.mp hi
  have ex : x = .ref (T.ca cn) := by
    have z : RepD T S0.F (.cls cn) x := r0
    simpa [RepD] using z
  subst ex
  cases rx
  have hk : PySem.W.keepIn X.K (.ref (T.ca cn)) = true := by rw [c.K]; exact (g.ini _ _ hf).1.kp
  refine ha _ [] X.K.In pins s0 σ S0.H _ (kept_K hk) (fun s1 H1 I1 => I1.kIn) I0 (tA_mono (tA_then w0 (er.go g0 w0) h0) fun vs H1 ⟨S1, as, e1, g1, w1, r1, h2⟩ s1 us I1 rv => ?_)
  subst e1
  have h2' := Post.toA.mpr h2
  exact run_mk c g I1 w1 (fmk_plain c r1 h2') rv h2'
/-- o.m(..), m a method of the text, or a class method -/
theorem se_me (c : Cok X T C k W) (g : Prg T P) (hs : ∀ cn m, P.smeth cn m = none) {o : Expr} {io : E} {nm : Str} {m : Nat} {es : List Expr} {ias : As} {apos pos : Pos} {pl : Sem Bool} (hnm : nm = T.nm m) (ho : PE X o (tE T P C q X.pn W io)) (ha : CW X es pos (tA T P C q X.pn W ias))
    (ht : eval (.Call (.Attribute o nm apos) es [] pos) X.env = (do
      let ov ← eval o X.env
      standAt apos.atName
      let (f, first) ← holding [ov] (getMethod ov nm pl)
      callWith pos f first (backTo pos (starEach es X.env)) (backToKw pos (keywordEach [] X.env))) := by rfl) :
    PE X (.Call (.Attribute o nm apos) es [] pos) (tE T P C q X.pn W (.me m io ias)) := by
  subst hnm
  refine ⟨fun pins s σ H Q I h => ?_⟩
  obtain ⟨S, r, rfl, w, er, p⟩ := h
  simp only [ev] at p
  refine PySem.W.methodCall_KW (pl := pl) (thn (ho.run pins s σ S.H _ I (tE_then w er (Post.toA.mp p))) fun u s0 ⟨x, H0, I0, rx, S0, va, e0, g0, w0, r0, h0⟩ => ?_) ht
  subst e0
  dsimp only at h0
  have hK := c.K
  split at h0 <;> try exact False.elim h0
  rename_i f b ht0
  unfold tgtOf at ht0
  split at ht0
  · rename_i cn
    split at ht0
    · rename_i f' hcm
      cases ht0
      have ex : x = .ref (T.ca cn) := by
        have z : RepD T S0.F (.cls cn) x := r0
        simpa [RepD] using z
      subst ex
      cases rx
      obtain ⟨hq, mc, pp, r1, k1⟩ := g.cmeth _ _ _ hcm
      rw [← hK] at r1 k1
      refine ClX.getmethcm_ok I0 r1 k1 fun s2 I2 => ?_
      refine ha _ [] (PySem.W.MethP X.K s0.heap.objs.size (T.fa f) (.ref (T.ca cn))) _ s2 σ S0.H _ (fun h e => PySem.W.keeps_M k1.fi h e) (fun s1 H1 I1 => ⟨ClX.pin_at I1, I1.kIn⟩) I2 (tA_mono (tA_then w0 (er.go g0 w0) h0) fun vs H1 ⟨S1, as, e1, g1, w1, r1, h2⟩ s1 us I1 rv => ?_)
      subst e1
      have h2' : Post T X.pn (C f none (.d (.cls cn) :: as) S1.M) S1 Q (atW W σ) := Post.toA.mpr h2
      have ra := args_plain (pre := [.d (.cls cn)]) c r1 h2'
      have r0' : RepV T [] S1 (.d (.cls cn)) (.ref (T.ca cn)) := by
        show RepD T S1.F (.cls cn) (.ref (T.ca cn))
        simp [RepD]
      have z : wpAny (model X.prog X.w) X.A (call (.ref s0.heap.objs.size) ([] ++ us)) (EP X ((s0.heap.objs.size, PySem.W.methodObj (.ref (T.fa f)) (.ref (T.ca cn))) :: pins) σ Q) X.xe s1 := by
        refine wpAny_call (PySem.W.method_call (ClX.pin_at I1) (codeAny_mono (c.calls f X.A X.stack s1 S1 (.d (.cls cn) :: as) (.ref (T.ca cn) :: us) (.ref (T.ca cn) :: vs) Q _ (c.room.mono (Nat.le_succ k)) (.inl hq) I1.env0 (.cons rfl rv) w1 (RepVs.consV r0' ra) (Post.nil h2')) fun r s' hq' => ?_))
        cases r with
        | error e => exact c.tk _ _ (XE.of_call I1 (fun cls d H' z => z) hq')
        | ok fl =>
          cases fl with
          | ret u => exact I1.after hq'
          | next => exact False.elim hq'
          | brk => exact False.elim hq'
          | cont => exact False.elim hq'
      exact thn z fun _ _ y => ClX.unpinE y
    · split at ht0
      · rename_i hsm
        rw [hs] at hsm
        cases hsm
      · cases ht0
  · split at ht0 <;> try cases ht0
    rename_i f' hm
    have hm' := hm
    simp only [methOf] at hm'
    split at hm' <;> try cases hm'
    rename_i cn vs0 hi
    obtain ⟨a, dx, ws, ex, hx, rws, hlen⟩ := RepV.ins w0 hi r0
    subst ex
    cases rx
    obtain ⟨hfz, M, hq, hn⟩ := g.meth _ _ _ hm'
    have cl := (g.cls _ hfz).1.cl
    rw [← hK] at M cl
    refine getmeth_ok I0 hx cl M (zip_none hn) ?_
    refine ha _ [.ref a] X.K.In pins s0 σ S0.H _ (kept_K M.kp) (fun s1 H1 I1 => I1.kIn) I0 (tA_mono (tA_then w0 (er.go g0 w0) h0) fun vs H1 ⟨S1, as, e1, g1, w1, r1, h2⟩ s1 us I1 rv => ?_)
    subst e1
    have h2' : Post T X.pn (C f none (_ :: as) S1.M) S1 Q (atW W σ) := Post.toA.mpr h2
    have ra := args_plain (pre := [_]) c r1 h2'
    have r0' := RepV.go g1 w1 (RepV.plain (plain_of_ins hi) r0)
    exact run_bv (us := .ref a :: us) c.tk c.calls (c.room.mono (Nat.le_succ k)) (.inl hq) I1.env0 I1 w1 (RepVs.consV r0' ra) (.cons rfl rv) (Post.nil h2')
end
end BV

set_option Elab.async false
set_option maxRecDepth 100000
set_option maxHeartbeats 4000000
/-! BV15: methods of lists; targets; what is walked. -/
namespace BV
open PySem PySem.Spec PyProof.Rows L2

section
variable {X : Cx} {T : Ad} {P : Pg} {C : Caller} {q : Asker} {W : WX} {k : Nat} {pn : List (Addr × Obj)}

theorem PostA.bindif {a b c d : Type} {R1 : S8 → a → b → Prop} {R2' : S8 → c → d → Prop} {r : R a} {t : a → Store → Bool} {f : a → Store → R c} {S : S8} {Q : d → Hp → Prop} {E : Value → Option Addr → Hp → Prop} (h : PostA T R2' (r.bind fun x M => if t x M then f x M else .no) S Q E) :
    PostA T R1 r S (fun y H => ∃ S1 x, S1.H = H ∧ Go S S1 ∧ Wf T S1 ∧ R1 S1 x y ∧ t x S1.M = true ∧ PostA T R2' (f x S1.M) S1 Q E) E := by
  refine (PostA.bind (R1 := R1) h).mono fun y H ⟨S1, x, e, g, w, hr, p⟩ => ?_
  split at p
  · rename_i ht
    exact ⟨S1, x, e, g, w, hr, ht, p⟩
  · exact False.elim p
/-- the same cell -/
theorem cell_same {S : S8} (w : Wf T S) {n m : Nat} {c d : Cell} (h1 : S.M[n]? = some (some c)) (h2 : S.M[m]? = some (some d)) (e : S.io n = S.io m) : n = m := w.inj n m ⟨c, h1⟩ ⟨d, h2⟩ e
theorem app_post {S : S8} {va vy : Val} {x y : V} {Q : VK} {E : Value → Option Addr → Hp → Prop} (w : Wf T S) (r1 : RepV T pn S va x) (r2 : RepV T pn S vy y) (p : Post T pn (mAppend va vy S.M) S Q E) : rAppend x [y] S.H Q := by
  unfold mAppend at p
  split at p <;> try exact False.elim p
  rename_i n
  split at p <;> try exact False.elim p
  rename_i xs hc
  split at p <;> try exact False.elim p
  rename_i hlim
  rw [Bool.and_eq_true] at hlim
  obtain ⟨en, hn⟩ := r1
  obtain ⟨hF, o, ho', ws, eo, hr2⟩ := w.cell n _ hc
  subst eo
  refine ⟨S.io n, ws, y, en, rfl, ho', ?_, ?_⟩
  · rw [RepVs.length hr2, ← lim_eq]
    exact of_decide_eq_true hlim.1
  · obtain ⟨g3, w3⟩ := Go.put (o := .lst (ws ++ [y])) (c := .lst (xs ++ [vy])) w ⟨_, hc⟩ (fun ps z => by cases z) ⟨_, rfl, RepVs.append hr2 ⟨y, [], rfl, RepV.plain hlim.2 r2, rfl⟩⟩
    exact p { S with H := upd S.H (S.io n) (.lst (ws ++ [y])), M := S.M.set n (some (.lst (xs ++ [vy]))) } _ g3 w3 rfl (rp_non (T := T) (F := S.F))
theorem pop_post {K : PySem.W.Frag} {S : S8} {va : Val} {x : V} {Q : VK} {E : Value → Option Addr → Hp → Prop} (w : Wf T S) (r1 : RepV T pn S va x) (p : Post T pn (mPop va S.M) S Q E) : tyV K "list" x S.H ∧ rPop x [] S.H Q := by
  unfold mPop at p
  split at p <;> try exact False.elim p
  rename_i n
  split at p <;> try exact False.elim p
  rename_i xs hc
  split at p <;> try exact False.elim p
  rename_i v hv
  obtain ⟨en, hn⟩ := r1
  obtain ⟨hF, o, ho', ws, eo, hr2⟩ := w.cell n _ hc
  subst eo
  obtain ⟨y, hy, ry⟩ := RepVs.get hr2 hv
  have hdl : RepVs T [] S xs.dropLast ws.dropLast := by
    rw [List.dropLast_eq_take, List.dropLast_eq_take, RepVs.length hr2]
    exact RepVs.take _ hr2
  refine ⟨by rw [en]; exact .inl ⟨rfl, ws, SqL.of ho'⟩, S.io n, ws, y, en, rfl, ho', ?_, ?_⟩
  · rw [RepVs.length hr2]; exact hy
  · obtain ⟨g3, w3⟩ := Go.put (o := .lst ws.dropLast) (c := .lst xs.dropLast) w ⟨_, hc⟩ (fun ps z => by cases z) ⟨_, rfl, hdl⟩
    exact p { S with H := upd S.H (S.io n) (.lst ws.dropLast), M := S.M.set n (some (.lst xs.dropLast)) } _ g3 w3 rfl (RepV.nil (RepV.go g3 w3 ry))
theorem se_append {o e : Expr} {io ie : E} {apos cpos : Pos} (ho : PE X o (tE T P C q X.pn W io)) (he : PE X e (tE T P C q X.pn W ie))
    (hbase : attributeBase o "append" X.env (eval o X.env) = eval o X.env := by rfl)
    (hfew : ((backTo cpos (starEach [e] X.env)).all (fun x => !x.1) && (backToKw cpos (keywordEach [] X.env)).all (fun x => x.1.isSome) && decide ([e].length + ([] : List Keyword).length + (if ([] : List Keyword).isEmpty then 0 else 1) < 30)) = true := by rfl)
    (hline : (apos.endLine == cpos.line) = true := by rfl) (hs : starEach [e] X.env = (false, eval e X.env) :: starEach [] X.env := by rfl) :
    PE X (.Call (.Attribute o "append" apos) [e] [] cpos) (tE T P C q X.pn W (.bm .append io (.cons ie .nil))) :=
  PE_imp (pe_bm PySem.F.plainAttrs_list PySem.F.slot_list_append PySem.F.type_list_append mt_append ho (pa_cons he pa_nil hs) hbase hfew hline hs) fun σ H Q h => by
    obtain ⟨S, r, rfl, w, er, p⟩ := h
    have p' := Post.toA.mp p
    simp only [ev] at p'
    show tE T P C q X.pn W io σ S.H _
    refine ⟨S, r, rfl, w, er, Post.toA.mpr ((PostA.bindif (R1 := RepV T X.pn) p').mono fun x H1 ⟨S1, va, e1, g1, w1, r1, hr, h2⟩ => ?_)⟩
    subst e1
    have hr' : (lstOf S1.M va).isSome = true := hr
    obtain ⟨l0, hl0⟩ := Option.isSome_iff_exists.mp hr'
    obtain ⟨a, vs, ex, hx, rv⟩ := RepV.lst w1 hl0 r1
    refine ⟨by rw [ex]; exact .inl ⟨rfl, vs, SqL.of hx⟩, ?_⟩
    have h2' : PostA T (RepV T X.pn) ((ev P C q ie r S1.M).bind fun y M2 => fbm .append va [y] M2) S1 Q (atW W σ) := by
      simp only [evA] at h2
      cases z : ev P C q ie r S1.M with
      | ok x M => rw [z] at h2; exact h2
      | ex c ds M => rw [z] at h2; exact h2
      | no => rw [z] at h2; exact h2
    refine tE_mono (tE_then w1 (er.go g1 w1) h2') fun y H2 ⟨S2, vy, e2, g2, w2, r2, h3⟩ => ?_
    subst e2
    exact app_post w2 (RepV.go g2 w2 r1) r2 (Post.toA.mpr h3)
theorem se_pop {o : Expr} {io : E} {apos cpos : Pos} (ho : PE X o (tE T P C q X.pn W io))
    (hbase : attributeBase o "pop" X.env (eval o X.env) = eval o X.env := by rfl) (hline : (apos.endLine == cpos.line) = true := by rfl) :
    PE X (.Call (.Attribute o "pop" apos) [] [] cpos) (tE T P C q X.pn W (.bm .pop io .nil)) :=
  PE_imp (pe_bm0 PySem.F.plainAttrs_list PySem.F.slot_list_pop PySem.F.type_list_pop mt_pop ho hbase hline) fun σ H Q h => by
    obtain ⟨S, r, rfl, w, er, p⟩ := h
    have p' := Post.toA.mp p
    simp only [ev] at p'
    show tE T P C q X.pn W io σ S.H _
    refine ⟨S, r, rfl, w, er, Post.toA.mpr ((PostA.bindif (R1 := RepV T X.pn) p').mono fun x H1 ⟨S1, va, e1, g1, w1, r1, hr, h2⟩ => ?_)⟩
    subst e1
    simp only [evA, R.bind] at h2
    obtain ⟨h5, h6⟩ := pop_post w1 r1 (Post.toA.mpr h2)
    exact ⟨h5, h6⟩
end
end BV

set_option Elab.async false
set_option maxRecDepth 100000
set_option maxHeartbeats 4000000
/-! BV16: what a loop walks. -/
namespace BV
open PySem PySem.Spec PyProof.Rows
open L2 hiding St It

section
variable (T : Ad) (P : Pg) (C : Caller) (q : Asker) (pn : List (Addr × Obj)) (W : WX)
/-- an item as it is handed on -/
def ItV (S : S8) (many : Bool) (vs : List Val) (x : V) : Prop :=
  match many with
  | false => ∃ v, vs = [v] ∧ RepV T pn S v x
  | true => ∃ a xs, x = .ref a ∧ SqT T.K S.H a xs ∧ RepVs T pn S vs xs
/-- the iterator does what the reader says -/
def ItR (many : Bool) (S1 : S8) (rd : Rd) (J : L2.It) : Prop :=
  ∀ S, Go S1 S → Wf T S → ∀ (i : Nat) its, rd S.M = some its → (its[i]? = none → J.stop i S.H) ∧
    ∀ item, its[i]? = some item → J.go i S.H ∧ ∀ x H', J.yld i S.H x H' → ∃ S', S'.H = H' ∧ Go S S' ∧ Wf T S' ∧ S'.M = S.M ∧ ItV T pn S' many item x
def tI (il : It) (many : Bool) : TI := fun s H R => ∃ S r, S.H = H ∧ Wf T S ∧ EnvR T pn S r s ∧ PostA T (fun S' rd J => ItR T [] many S' rd J) (evI P C q il many r S.M) S R (atW W s)
end

section
variable {X : Cx} {T : Ad} {P : Pg} {C : Caller} {q : Asker} {W : WX} {k : Nat} {pn : List (Addr × Obj)} {tg : Expr}

theorem tupItems_len : ∀ {xs : List Val} {its : List (List Val)}, tupItems xs = some its → its.length = xs.length ∧ ∀ (i : Nat) (item : List Val), its[i]? = some item → ∃ l : List D, xs[i]? = some (.d (.tup l)) ∧ item = l.map Val.d
  | [], its, h => by
    simp only [tupItems] at h
    cases h
    exact ⟨rfl, fun i item e => by simp at e⟩
  | x :: xs, its, h => by
    cases x with
    | d y =>
      cases y <;> simp only [tupItems] at h <;> try (cases h; done)
      rename_i l
      split at h
      · rename_i t ht
        cases h
        obtain ⟨h1, h2⟩ := tupItems_len ht
        refine ⟨by rw [List.length_cons, List.length_cons, h1], fun i item e => ?_⟩
        cases i with
        | zero => simp at e; subst e; exact ⟨l, rfl, rfl⟩
        | succ i => exact h2 i item (by simpa using e)
      · cases h
    | _ => simp [tupItems] at h

/-- the items of a row, one name or several -/
theorem seq_items {S : S8} {many : Bool} {xs : List Val} {vs : List V} {its : List (List Val)} (w : Wf T S) (rv : RepVs T [] S xs vs) (h : rowIt many xs = some its) :
    its.length = vs.length ∧ ∀ (i : Nat) (item : List Val), its[i]? = some item → ∃ y, vs[i]? = some y ∧ ItV T pn S many item y := by
  cases many with
  | false =>
    have h : some (xs.map fun x => [x]) = some its := h
    cases h
    refine ⟨by rw [List.length_map, RepVs.length rv], fun i item e => ?_⟩
    rw [List.getElem?_map] at e
    cases z : xs[i]? with
    | none => rw [z] at e; cases e
    | some v =>
      rw [z] at e
      cases e
      obtain ⟨y, hy, ry⟩ := RepVs.get rv z
      exact ⟨y, hy, v, rfl, RepV.nil ry⟩
  | true =>
    have h : tupItems xs = some its := h
    obtain ⟨h1, h2⟩ := tupItems_len h
    refine ⟨by rw [h1, RepVs.length rv], fun i item e => ?_⟩
    obtain ⟨l, hl, el⟩ := h2 i item e
    obtain ⟨y, hy, ry⟩ := RepVs.get rv hl
    obtain ⟨a, zs, e1, e2, e3⟩ := rl_tup (T := T) (F := S.F) ry
    subst el
    exact ⟨y, hy, a, zs, e1, sqT_mono w.fh e2, RepVs.ofL e3⟩
theorem rdSeq_seq {S : S8} {many : Bool} {v : Val} {its : List (List Val)} (hs : strOf v = none) (h : rdSeq v many S.M = some its) : ∃ xs, seqOf S.M v = some xs ∧ rowIt many xs = some its := by
  unfold rdSeq at h
  rw [hs] at h
  dsimp only at h
  cases z : seqOf S.M v with
  | none => rw [z] at h; cases h
  | some xs => rw [z] at h; exact ⟨xs, rfl, h⟩

theorem itr_list {S1 : S8} {pm : List (Addr × Obj)} {v : Val} {a : Addr} {many : Bool} (hs : strOf v = none) (ht : ∀ l, v ≠ .d (.tup l)) (r1 : RepV T pm S1 v (.ref a)) (hK : X.K = T.K) : ItR T pn many S1 (rdSeq v many) (Itl X.K a) := by
  intro S g w i its h
  obtain ⟨xs, hx, h'⟩ := rdSeq_seq hs h
  have hl : lstOf S.M v = some xs := by
    cases v with
    | d y =>
      cases y <;> first | exact hx | exact absurd rfl (ht _)
    | _ => exact hx
  obtain ⟨b, vs, e, hH, rv⟩ := RepV.lst w hl (RepV.go g w r1)
  cases e
  obtain ⟨h1, h2⟩ := seq_items (pn := pn) w rv h'
  refine ⟨fun e => ⟨vs, SqL.of hH, by rw [← h1]; exact List.getElem?_eq_none_iff.mp e⟩, fun item e => ?_⟩
  obtain ⟨y, hy, iv⟩ := h2 i item e
  refine ⟨⟨vs, y, SqL.of hH, hy⟩, fun x H' ⟨e1, e2⟩ => ⟨S, e1.symm, Go.refl S, w, rfl, ?_⟩⟩
  have := e2 vs (SqL.of hH)
  rw [hy] at this
  cases this
  exact iv
theorem itr_tup {S1 : S8} {l : List D} {a : Addr} {many : Bool} (r1 : RepD T S1.F (.tup l) (.ref a)) (hK : X.K = T.K) : ItR T pn many S1 (rdSeq (.d (.tup l)) many) (Itt X.K a) := by
  intro S g w i its h
  obtain ⟨xs, hx, h'⟩ := rdSeq_seq rfl h
  obtain ⟨b, vs, e, hF, rv⟩ := rl_tup (RepD.mono g.F _ _ r1)
  cases e
  have hH : SqT X.K S.H a vs := hK ▸ sqT_mono w.fh hF
  simp only [seqOf] at hx
  cases hx
  obtain ⟨h1, h2⟩ := seq_items (pn := pn) w (RepVs.ofL (pn := []) rv) h'
  refine ⟨fun e => ⟨vs, hH, by rw [← h1]; exact List.getElem?_eq_none_iff.mp e⟩, fun item e => ?_⟩
  obtain ⟨y, hy, iv⟩ := h2 i item e
  refine ⟨⟨vs, y, hH, hy⟩, fun x H' ⟨e1, e2⟩ => ⟨S, e1.symm, Go.refl S, w, rfl, ?_⟩⟩
  have := e2 vs hH
  rw [hy] at this
  cases this
  exact iv
theorem itr_str {S1 : S8} {x : Str} : ItR T pn false S1 (rdSeq (.d (.str x)) false) (Its x) := by
  intro S g w i its h
  have h : some (x.cps.toList.map fun c => [Val.d (.str ⟨#[c]⟩)]) = some its := h
  cases h
  refine ⟨fun e => ?_, fun item e => ?_⟩
  · rw [List.getElem?_map, Option.map_eq_none_iff, List.getElem?_eq_none_iff, Array.length_toList] at e
    exact e
  · rw [List.getElem?_map] at e
    cases z : x.cps.toList[i]? with
    | none => rw [z] at e; cases e
    | some c =>
      rw [z] at e
      cases e
      have hi := (List.getElem?_eq_some_iff.mp z).1
      rw [Array.length_toList] at hi
      refine ⟨hi, fun y H' ⟨e1, c', e2, e3⟩ => ⟨S, e1.symm, Go.refl S, w, rfl, .d (.str ⟨#[c]⟩), rfl, ?_⟩⟩
      rw [Array.getElem?_toList] at z
      rw [z] at e2
      cases e2
      rw [e3]
      exact rp_str (T := T) (F := S.F)
/-- a list, a tuple, a text is walked -/
theorem si_seq (hK : X.K = T.K) {e : Expr} {ie : E} {many : Bool} (he : PE X e (tE T P C q X.pn W ie)) : PI X tg e (tI T P C q X.pn W (.e ie) many) := by
  refine ⟨fun pins s σ H R I h => ?_⟩
  obtain ⟨S, r, rfl, w, er, p⟩ := h
  simp only [evI] at p
  refine thn (he.run pins s σ S.H _ I ⟨S, r, rfl, w, er, Post.toA.mpr (PostA.bindif (R1 := RepV T X.pn) (t := fun x M => (rdSeq x many M).isSome) p)⟩) fun v s1 ⟨x, H1, I1, rx, S1, va, e1, g1, w1, r1, hr, h2⟩ => ?_
  subst e1
  obtain ⟨its, hits⟩ := Option.isSome_iff_exists.mp hr
  have go : ∀ J, ItR T [] many S1 (rdSeq va many) J → R J S1.H := fun J hJ => h2 S1 J (Go.refl _) w1 rfl hJ
  have key : (∃ z, va = .d (.str z)) ∨ (∃ l, va = .d (.tup l)) ∨ (strOf va = none ∧ ∀ l, va ≠ .d (.tup l)) := by
    cases va with
    | d y => cases y <;> first | exact .inl ⟨_, rfl⟩ | exact .inr (.inl ⟨_, rfl⟩) | exact .inr (.inr ⟨rfl, fun z e => by cases e⟩)
    | _ => exact .inr (.inr ⟨rfl, fun z e => by cases e⟩)
  rcases key with ⟨z, rfl⟩ | ⟨l, rfl⟩ | ⟨hs, ht⟩
  · have ex := rl_str (T := T) (F := S1.F) r1
    subst ex
    cases many with
    | true =>
      have z0 : (none : Option (List (List Val))) = some its := hits
      cases z0
    | false =>
      obtain ⟨t, rfl⟩ := rx
      cases ha : z.cps.all (· < 128)
      · exact wpAny_pyIter_wide ha (pi_one (tk := s1.toks) I1 _ (turn_str _ z t "str_iterator" (.inr rfl)) ⟨_, Heap.get?_push_size _ rfl, rfl, rfl⟩ (go _ itr_str))
      · exact wpAny_pyIter_ascii ha (pi_one (tk := s1.toks) I1 _ (turn_str _ z t "str_ascii_iterator" (.inl rfl)) ⟨_, Heap.get?_push_size _ rfl, rfl, rfl⟩ (go _ itr_str))
  · obtain ⟨a, vs, ex, hF, rv⟩ := rl_tup (T := T) (F := S1.F) r1
    subst ex
    cases rx
    obtain ⟨its', rv', p', hz⟩ := I1.tuple (hK ▸ sqT_mono w1.fh hF)
    refine wpAny_pyIter_tuple (show s1.heap.IsTuple a its'.toArray from p') ?_
    exact pi_one (tk := s1.toks) I1 _ (turn_tuple a _) ⟨_, Heap.get?_push_size _ rfl, rfl, rfl⟩ (go _ (itr_tup (pn := []) r1 hK))
  · obtain ⟨xs, hx, _⟩ := rdSeq_seq hs hits
    have hl : lstOf S1.M va = some xs := by
      cases va with
      | d y => cases y <;> first | exact hx | exact absurd rfl (ht _)
      | _ => exact hx
    obtain ⟨a, vs, ex, hH, rv⟩ := RepV.lst w1 hl r1
    subst ex
    cases rx
    obtain ⟨its', rv', p', hz⟩ := I1.list (X := X) (SqL.of hH)
    refine wpAny_pyIter_list p'.isList ?_
    exact pi_one (tk := s1.toks) I1 _ (turn_list a _) ⟨_, Heap.get?_push_size _ rfl, rfl, rfl⟩ (go _ (itr_list hs ht r1 hK))
theorem ItV.nilp {S : S8} {many : Bool} {vs : List Val} {x : V} (h : ItV T [] S many vs x) : ItV T pn S many vs x := by
  cases many with
  | false =>
    obtain ⟨v, e, r⟩ := h
    exact ⟨v, e, RepV.nil r⟩
  | true =>
    obtain ⟨a, xs, e, h1, h2⟩ := h
    exact ⟨a, xs, e, h1, RepVs.nilp h2⟩
end
end BV

set_option Elab.async false
set_option maxRecDepth 100000
set_option maxHeartbeats 4000000
/-! BV17: range, zip, enumerate. -/
namespace BV
open PySem PySem.Spec PyProof.Rows
open L2 hiding St It

section
variable {X : Cx} {T : Ad} {P : Pg} {C : Caller} {q : Asker} {W : WX} {k : Nat} {pn : List (Addr × Obj)} {tg : Expr}

theorem PI_imp {it : Expr} {wi wi' : TI} (h : PI X tg it wi) (i : ∀ σ H R, wi' σ H R → wi σ H R) : PI X tg it wi' := ⟨fun pins s σ H R I hq => h.run pins s σ H R I (i σ H R hq)⟩

theorem rng_get {lo st : Int} {n i : Nat} : (((List.range n).map fun (k : Nat) => [Val.d (.int (lo + k * st))])[i]? = none ↔ n ≤ i) ∧ ∀ item, ((List.range n).map fun (k : Nat) => [Val.d (.int (lo + k * st))])[i]? = some item → i < n ∧ item = [Val.d (.int (lo + i * st))] := by
  constructor
  · rw [List.getElem?_eq_none_iff, List.length_map, List.length_range]
  · intro item h
    rw [List.getElem?_map] at h
    by_cases hi : i < n
    · rw [List.getElem?_range hi] at h
      simp at h
      exact ⟨hi, h.symm⟩
    · rw [List.getElem?_eq_none_iff.mpr (by rw [List.length_range]; omega)] at h
      cases h
theorem itr_rng {S1 : S8} {lo : Int} {n : Nat} : ItR T pn false S1 (rdRng lo n 1) (Itr lo n) := by
  intro S g w i its h
  unfold rdRng at h
  cases h
  refine ⟨fun e => (rng_get (i := i)).1.mp e, fun item e => ?_⟩
  obtain ⟨hi, ei⟩ := (rng_get (i := i)).2 item e
  refine ⟨hi, fun x H' ⟨e1, e2⟩ => ⟨S, e1.symm, Go.refl S, w, rfl, _, ei, ?_⟩⟩
  rw [e2, Int.mul_one]
  exact rp_int (T := T) (F := S.F)
theorem itr_rngC {S1 : S8} {lo c : Int} {n : Nat} : ItR T pn false S1 (rdRng lo n c) (Itc lo c n) := by
  intro S g w i its h
  unfold rdRng at h
  cases h
  refine ⟨fun e => (rng_get (i := i)).1.mp e, fun item e => ?_⟩
  obtain ⟨hi, ei⟩ := (rng_get (i := i)).2 item e
  refine ⟨hi, fun x H' ⟨e1, e2⟩ => ⟨S, e1.symm, Go.refl S, w, rfl, _, ei, ?_⟩⟩
  rw [e2]
  exact rp_int (T := T) (F := S.F)
theorem bnd_ok {i : Int} (h : bnd i = true) : -(2 ^ 62) ≤ i ∧ i < 2 ^ 62 := by
  unfold bnd at h
  rw [Bool.and_eq_true] at h
  have h1 := of_decide_eq_true h.1
  have h2 := of_decide_eq_true h.2
  omega
theorem RepVs.ints1 {S : S8} {i : Int} {vs : List V} (h : RepVs T pn S [.d (.int i)] vs) : vs = [.int i] := by
  obtain ⟨x, rfl, r⟩ := RepVs.one h
  rw [rl_int (T := T) (F := S.F) r]
theorem RepVs.ints2 {S : S8} {i j : Int} {vs : List V} (h : RepVs T pn S [.d (.int i), .d (.int j)] vs) : vs = [.int i, .int j] := by
  obtain ⟨x, y, rfl, r, r'⟩ := RepVs.two h
  rw [rl_int (T := T) (F := S.F) r, rl_int (T := T) (F := S.F) r']
theorem RepVs.ints3 {S : S8} {i j l : Int} {vs : List V} (h : RepVs T pn S [.d (.int i), .d (.int j), .d (.int l)] vs) : vs = [.int i, .int j, .int l] := by
  obtain ⟨x, xs, e, r, h2⟩ := h
  rw [e, RepVs.ints2 h2, rl_int (T := T) (F := S.F) r]
theorem evA_one {a : Type} {e : E} {r : Env} {M : Store} {f : List Val → Store → R a} : (evA P C q (.cons e .nil) r M).bind f = (ev P C q e r M).bind fun x M1 => f [x] M1 := by
  simp only [evA]
  cases ev P C q e r M <;> rfl
theorem evA_two {a : Type} {e e2 : E} {r : Env} {M : Store} {f : List Val → Store → R a} : (evA P C q (.cons e (.cons e2 .nil)) r M).bind f = (ev P C q e r M).bind fun x M1 => (ev P C q e2 r M1).bind fun y M2 => f [x, y] M2 := by
  simp only [evA]
  cases ev P C q e r M with
  | ok x M1 =>
    simp only [R.bind]
    cases ev P C q e2 r M1 <;> rfl
  | ex c ds M1 => rfl
  | no => rfl
theorem evA_three {a : Type} {e e2 e3 : E} {r : Env} {M : Store} {f : List Val → Store → R a} : (evA P C q (.cons e (.cons e2 (.cons e3 .nil))) r M).bind f = (ev P C q e r M).bind fun x M1 => (ev P C q e2 r M1).bind fun y M2 => (ev P C q e3 r M2).bind fun z M3 => f [x, y, z] M3 := by
  simp only [evA]
  cases ev P C q e r M with
  | ok x M1 =>
    simp only [R.bind]
    cases ev P C q e2 r M1 with
    | ok y M2 =>
      simp only [R.bind]
      cases ev P C q e3 r M2 <;> rfl
    | ex c ds M1 => rfl
    | no => rfl
  | ex c ds M1 => rfl
  | no => rfl
theorem si_rng1 {a : Expr} {ia : E} {p pos : Pos} (hg : Gl X "range") (hm : X.mg "range" = none) (ha : PE X a (tE T P C q X.pn W ia)) (hs : starEach [a] X.env = [(false, eval a X.env)] := by rfl) (hs' : starEach [a] X.env = (false, eval a X.env) :: starEach [] X.env := by rfl) :
    PI X tg (.Call (.Name "range" p) [a] [] pos) (tI T P C q X.pn W (.rng (.cons ia .nil)) false) :=
  PI_imp (pi_range1 hg hm (pa_cons ha pa_nil hs') hs) fun σ H R h => by
    obtain ⟨S, r, rfl, w, er, p⟩ := h
    have p' : PostA T (fun S' rd J => ItR T [] false S' rd J) ((evA P C q (.cons ia .nil) r S.M).bind fun xs M1 => rngF xs M1) S R (atW W σ) := p
    rw [evA_one] at p'
    refine tE_mono (tE_then w er p') fun x H1 ⟨S1, va, e1, g1, w1, r1, p⟩ => ?_
    subst e1
    have p : PostA T (fun S' rd J => ItR T [] false S' rd J) (rng1 va S1.M) S1 R (atW W σ) := p
    unfold rng1 at p
    split at p <;> try exact False.elim p
    split at p <;> try exact False.elim p
    rename_i hb
    have ev := rl_int (T := T) (F := S1.F) r1
    subst ev
    have b := bnd_ok hb
    exact ⟨_, rfl, b.1, b.2, p S1 _ (Go.refl _) w1 rfl itr_rng⟩
theorem si_rng2 {a b : Expr} {ia ib : E} {p pos : Pos} (hg : Gl X "range") (hm : X.mg "range" = none) (ha : PE X a (tE T P C q X.pn W ia)) (hb : PE X b (tE T P C q X.pn W ib)) (hs : starEach [a, b] X.env = [(false, eval a X.env), (false, eval b X.env)] := by rfl) (hs2 : starEach [b] X.env = [(false, eval b X.env)] := by rfl)
    (hs' : starEach [a, b] X.env = (false, eval a X.env) :: starEach [b] X.env := by rfl) (hs2' : starEach [b] X.env = (false, eval b X.env) :: starEach [] X.env := by rfl) :
    PI X tg (.Call (.Name "range" p) [a, b] [] pos) (tI T P C q X.pn W (.rng (.cons ia (.cons ib .nil))) false) :=
  PI_imp (pi_range2 hg hm (pa_cons ha (pa_cons hb pa_nil hs2') hs') hs hs2) fun σ H R h => by
    obtain ⟨S, r, rfl, w, er, p⟩ := h
    have p' : PostA T (fun S' rd J => ItR T [] false S' rd J) ((evA P C q (.cons ia (.cons ib .nil)) r S.M).bind fun xs M1 => rngF xs M1) S R (atW W σ) := p
    rw [evA_two] at p'
    refine tE_mono (tE_then w er p') fun x H1 ⟨S1, va, e1, g1, w1, r1, p⟩ => ?_
    subst e1
    refine tE_mono (tE_then w1 (er.go g1 w1) p) fun y H2 ⟨S2, vb, e2, g2, w2, r2, p⟩ => ?_
    subst e2
    have p : PostA T (fun S' rd J => ItR T [] false S' rd J) (rng2 va vb S2.M) S2 R (atW W σ) := p
    have r1' := RepV.go g2 w2 r1
    unfold rng2 at p
    split at p <;> try exact False.elim p
    split at p <;> try exact False.elim p
    split at p <;> try exact False.elim p
    rename_i hb
    rw [Bool.and_eq_true] at hb
    have e1 := rl_int (T := T) (F := S2.F) r1'
    have e2 := rl_int (T := T) (F := S2.F) r2
    subst e1 e2
    have b := bnd_ok hb.1
    have b' := bnd_ok hb.2
    exact ⟨_, _, rfl, ⟨b.1, b.2, b'.1, b'.2⟩, p S2 _ (Go.refl _) w2 rfl itr_rng⟩
theorem si_rng3 {a b c : Expr} {ia ib ic : E} {p pos : Pos} (hg : Gl X "range") (hm : X.mg "range" = none) (ha : PE X a (tE T P C q X.pn W ia)) (hb : PE X b (tE T P C q X.pn W ib)) (hc : PE X c (tE T P C q X.pn W ic))
    (hs : starEach [a, b, c] X.env = (false, eval a X.env) :: starEach [b, c] X.env := by rfl) (hpl : (backTo pos (starEach [b, c] X.env)).any (·.1) = false := by rfl)
    (hs2' : starEach [b, c] X.env = (false, eval b X.env) :: starEach [c] X.env := by rfl) (hs3' : starEach [c] X.env = (false, eval c X.env) :: starEach [] X.env := by rfl) :
    PI X tg (.Call (.Name "range" p) [a, b, c] [] pos) (tI T P C q X.pn W (.rng (.cons ia (.cons ib (.cons ic .nil)))) false) :=
  PI_imp (pi_range3 hg hm (pa_cons ha (pa_cons hb (pa_cons hc pa_nil hs3') hs2') hs) hs hpl) fun σ H R h => by
    obtain ⟨S, r, rfl, w, er, p⟩ := h
    have p' : PostA T (fun S' rd J => ItR T [] false S' rd J) ((evA P C q (.cons ia (.cons ib (.cons ic .nil))) r S.M).bind fun xs M1 => rngF xs M1) S R (atW W σ) := p
    rw [evA_three] at p'
    refine tE_mono (tE_then w er p') fun x H1 ⟨S1, va, e1, g1, w1, r1, p⟩ => ?_
    subst e1
    refine tE_mono (tE_then w1 (er.go g1 w1) p) fun y H2 ⟨S2, vb, e2, g2, w2, r2, p⟩ => ?_
    subst e2
    refine tE_mono (tE_then w2 (er.go (g1.trans g2) w2) p) fun z H3 ⟨S3, vc, e3, g3, w3, r3, p⟩ => ?_
    subst e3
    have pz : PostA T (fun S' rd J => ItR T [] false S' rd J) (rng3 va vb vc S3.M) S3 R (atW W σ) := p
    clear p
    have r1' := RepV.go (g2.trans g3) w3 r1
    have r2' := RepV.go g3 w3 r2
    unfold rng3 at pz
    split at pz <;> try exact False.elim pz
    split at pz <;> try exact False.elim pz
    split at pz <;> try exact False.elim pz
    split at pz <;> try exact False.elim pz
    rename_i hb
    rw [Bool.and_eq_true, Bool.and_eq_true] at hb
    have e1 := rl_int (T := T) (F := S3.F) r1'
    have e2 := rl_int (T := T) (F := S3.F) r2'
    have e3 := rl_int (T := T) (F := S3.F) r3
    subst e1 e2 e3
    have b := bnd_ok hb.1.2
    have b' := bnd_ok hb.2
    have ek := beq_iff_eq.mp hb.1.1
    subst ek
    exact ⟨_, _, -1, _, rfl, RgC.neg b.1 b.2 b'.1 b'.2, pz S3 _ (Go.refl _) w3 rfl itr_rngC⟩

/-! ### zip, enumerate -/
theorem zipL_get : ∀ (xs ys : List Val) (i : Nat), ((zipL xs ys)[i]? = none ↔ xs.length ≤ i ∨ ys.length ≤ i) ∧ ∀ item, (zipL xs ys)[i]? = some item → ∃ x y, xs[i]? = some x ∧ ys[i]? = some y ∧ item = [x, y] := by
  intro xs ys i
  unfold zipL
  constructor
  · rw [List.getElem?_eq_none_iff, List.length_zipWith]
    omega
  · intro item h
    rw [List.getElem?_zipWith] at h
    cases e1 : xs[i]? with
    | none => rw [e1] at h; cases h
    | some x =>
      cases e2 : ys[i]? with
      | none => rw [e1, e2] at h; cases h
      | some y =>
        rw [e1, e2] at h
        cases h
        exact ⟨x, y, rfl, rfl, rfl⟩
/-- a pair just laid -/
theorem pair_ok {S : S8} {p : Addr} {x y : V} {vx vy : Val} (w : Wf T S) (hp : S.H p = none) (rx : RepV T [] S vx x) (ry : RepV T [] S vy y) : ∃ S' : S8, S'.H = upd S.H p (.tup [x, y]) ∧ Go S S' ∧ Wf T S' ∧ S'.M = S.M ∧ ItV T pn S' true [vx, vy] (.ref p) := by
  obtain ⟨g, w'⟩ := Go.hid (T := T) (o := .tup [x, y]) w hp (fun ps z => by cases z)
  exact ⟨_, rfl, g, w', rfl, p, [x, y], rfl, SqT.of upd_same, _, _, rfl, RepV.nil (RepV.go g w' rx), _, _, rfl, RepV.nil (RepV.go g w' ry), rfl⟩
theorem itr_zipL {S1 : S8} {pm : List (Addr × Obj)} {va vb : Val} {a b : Addr} (hn : ∀ l m, ¬ (va = .d (.tup l) ∧ vb = .d (.tup m))) (r1 : RepV T pm S1 va (.ref a)) (r2 : RepV T pm S1 vb (.ref b)) (hK : X.K = T.K) : ItR T pn true S1 (rdZip va vb) (Itz X.K a b) := by
  intro S g w i its h
  have h' : ∃ xs ys, lstOf S.M va = some xs ∧ lstOf S.M vb = some ys ∧ its = zipL xs ys := by
    unfold rdZip at h
    split at h
    · exact absurd ⟨rfl, rfl⟩ (hn _ _)
    · split at h
      · rename_i xs ys e1 e2
        cases h
        exact ⟨xs, ys, e1, e2, rfl⟩
      · cases h
  obtain ⟨xs, ys, e1, e2, rfl⟩ := h'
  obtain ⟨a', vs, ea, hH, rv⟩ := RepV.lst w e1 (RepV.go g w r1)
  obtain ⟨b', ws, eb, hH2, rw'⟩ := RepV.lst w e2 (RepV.go g w r2)
  cases ea
  cases eb
  obtain ⟨z1, z2⟩ := zipL_get xs ys i
  refine ⟨fun e => ⟨vs, ws, SqL.of hH, SqL.of hH2, by rw [RepVs.length rv, RepVs.length rw']; exact z1.mp e⟩, fun item e => ?_⟩
  obtain ⟨x, y, hx, hy, ei⟩ := z2 item e
  obtain ⟨u, hu, ru⟩ := RepVs.get rv hx
  obtain ⟨v, hv, rv'⟩ := RepVs.get rw' hy
  refine ⟨⟨vs, ws, u, v, SqL.of hH, SqL.of hH2, hu, hv⟩, fun xx H' ⟨p, u', v', q1, q2, q3, q4, q5⟩ => ?_⟩
  have e3 := q4 vs (SqL.of hH)
  have e4 := q5 ws (SqL.of hH2)
  rw [hu] at e3
  rw [hv] at e4
  cases e3
  cases e4
  subst q1 q3 ei
  exact pair_ok w q2 ru rv'
theorem itr_zipT {S1 : S8} {l m : List D} {a b : Addr} (r1 : RepD T S1.F (.tup l) (.ref a)) (r2 : RepD T S1.F (.tup m) (.ref b)) (hK : X.K = T.K) : ItR T pn true S1 (rdZip (.d (.tup l)) (.d (.tup m))) (RZ.ItzT X.K a b) := by
  intro S g w i its h
  simp only [rdZip] at h
  cases h
  obtain ⟨a', vs, ea, hF, rv⟩ := rl_tup (RepD.mono g.F _ _ r1)
  obtain ⟨b', ws, eb, hF2, rw'⟩ := rl_tup (RepD.mono g.F _ _ r2)
  cases ea
  cases eb
  have hH : SqT X.K S.H a vs := hK ▸ sqT_mono w.fh hF
  have hH2 : SqT X.K S.H b ws := hK ▸ sqT_mono w.fh hF2
  have rv1 : RepVs T [] S (l.map Val.d) vs := RepVs.ofL rv
  have rv2 : RepVs T [] S (m.map Val.d) ws := RepVs.ofL rw'
  obtain ⟨z1, z2⟩ := zipL_get (l.map Val.d) (m.map Val.d) i
  refine ⟨fun e => ⟨vs, ws, hH, hH2, by rw [RepVs.length rv1, RepVs.length rv2]; exact z1.mp e⟩, fun item e => ?_⟩
  obtain ⟨x, y, hx, hy, ei⟩ := z2 item e
  obtain ⟨u, hu, ru⟩ := RepVs.get rv1 hx
  obtain ⟨v, hv, rv'⟩ := RepVs.get rv2 hy
  refine ⟨⟨vs, ws, u, v, hH, hH2, hu, hv⟩, fun xx H' ⟨p, u', v', q1, q2, q3, q4, q5⟩ => ?_⟩
  have e3 := q4 vs hH
  have e4 := q5 ws hH2
  rw [hu] at e3
  rw [hv] at e4
  cases e3
  cases e4
  subst q1 q3 ei
  exact pair_ok w q2 ru rv'
theorem PostA.bind2if {a b c d e f : Type} {R1 : S8 → a → b → Prop} {R2 : S8 → c → d → Prop} {R3 : S8 → e → f → Prop} {r : R a} {g : a → Store → R c} {h : a → c → Store → R e} {S : S8} {Q : f → Hp → Prop} {E : Value → Option Addr → Hp → Prop}
    (p : PostA T R3 (r.bind fun x M => (g x M).bind fun y M2 => h x y M2) S Q E) : PostA T R1 r S (Rest T R1 R3 (fun x M => (g x M).bind fun y M2 => h x y M2) S Q E) E := PostA.bind p
theorem si_zip (hK : X.K = T.K) {a b : Expr} {ia ib : E} {elts : List Expr} {kk : Nat} {tpos p pos : Pos} (hg : Gl X "zip") (hm : X.mg "zip" = none) (ha : PE X a (tE T P C q X.pn W ia)) (hb : PE X b (tE T P C q X.pn W ib))
    (hs : starEach [a, b] X.env = (false, eval a X.env) :: starEach [b] X.env := by rfl) (hpl : (backTo pos (starEach [b] X.env)).any (·.1) = false := by rfl) (hs2 : starEach [b] X.env = (false, eval b X.env) :: starEach [] X.env := by rfl) :
    PI X (.Tuple elts kk tpos) (.Call (.Name "zip" p) [a, b] [] pos) (tI T P C q X.pn W (.zip ia ib) true) :=
  PI_imp (RZ.pi_zipA hg hm (pa_cons ha (pa_cons hb pa_nil hs2) hs) hs hpl) fun σ H R h => by
    obtain ⟨S, r, rfl, w, er, p⟩ := h
    simp only [evI] at p
    refine tE_mono (tE_then w er p) fun x H1 ⟨S1, va, e1, g1, w1, r1, p⟩ => ?_
    subst e1
    refine tE_mono (tE_then w1 (er.go g1 w1) p) fun y H2 ⟨S2, vb, e2, g2, w2, r2, p⟩ => ?_
    subst e2
    have r1' := RepV.go g2 w2 r1
    have p : PostA T (fun S' rd J => ItR T [] true S' rd J) (if true && (rdZip va vb S2.M).isSome then .ok (rdZip va vb) S2.M else .no) S2 R (atW W σ) := p
    rw [Bool.true_and] at p
    split at p <;> try exact False.elim p
    rename_i hz
    have go : ∀ J, ItR T [] true S2 (rdZip va vb) J → R J S2.H := fun J hJ => p S2 J (Go.refl _) w2 rfl hJ
    by_cases ht : ∃ l m, va = .d (.tup l) ∧ vb = .d (.tup m)
    · obtain ⟨l, m, e1, e2⟩ := ht
      subst e1 e2
      obtain ⟨a', vs, ea, hF, rv⟩ := rl_tup (T := T) (F := S2.F) r1'
      obtain ⟨b', ws, eb, hF2, rw'⟩ := rl_tup (T := T) (F := S2.F) r2
      subst ea eb
      exact ⟨a', b', vs, ws, rfl, .inr ⟨hK ▸ sqT_mono w2.fh hF, hK ▸ sqT_mono w2.fh hF2, go _ (itr_zipT r1' r2 hK)⟩⟩
    · have hn : ∀ l m, ¬ (va = .d (.tup l) ∧ vb = .d (.tup m)) := fun l m z => ht ⟨l, m, z⟩
      have h' : ∃ xs ys, lstOf S2.M va = some xs ∧ lstOf S2.M vb = some ys := by
        unfold rdZip at hz
        split at hz
        · exact absurd ⟨rfl, rfl⟩ (hn _ _)
        · split at hz
          · rename_i xs ys e1 e2
            exact ⟨xs, ys, e1, e2⟩
          · cases hz
      obtain ⟨xs, ys, e1, e2⟩ := h'
      obtain ⟨a', vs, ea, hH, rv⟩ := RepV.lst w2 e1 r1'
      obtain ⟨b', ws, eb, hH2, rw'⟩ := RepV.lst w2 e2 r2
      subst ea eb
      exact ⟨a', b', vs, ws, rfl, .inl ⟨SqL.of hH, SqL.of hH2, go _ (itr_zipL hn r1' r2 hK)⟩⟩
end
end BV

set_option Elab.async false
set_option maxRecDepth 100000
set_option maxHeartbeats 4000000
/-! BV18: statements. -/
namespace BV
open PySem PySem.Spec PyProof.Rows
open L2 hiding St It

section
variable (T : Ad) (P : Pg) (C : Caller) (q : Asker) (pn : List (Addr × Obj)) (W : WX)
/-- what is wanted behind statements -/
def SPost (r : SR) (S : S8) (D : Ends) : Prop :=
  match r with
  | .ok (.nx r') M' => ∀ S' σ', Go S S' → Wf T S' → S'.M = M' → EnvR T pn S' r' σ' → D.nx σ' S'.H
  | .ok (.rt v) M' => ∀ S' w, Go S S' → Wf T S' → S'.M = M' → RepV T pn S' v w → D.rt w S'.H
  | .ok (.bk r') M' => ∀ S' σ', Go S S' → Wf T S' → S'.M = M' → EnvR T pn S' r' σ' → D.bk σ' S'.H
  | .ok (.ct r') M' => ∀ S' σ', Go S S' → Wf T S' → S'.M = M' → EnvR T pn S' r' σ' → D.ct σ' S'.H
  | .ex c ds r' M' => ∀ S' cls d σ', Go S S' → Wf T S' → S'.M = M' → EnvR T pn S' r' σ' → RepX T S' c ds cls d → W cls d σ' S'.H
  | .no => False
def tS (il : Sm) : TS := fun D σ H => ∃ S r, S.H = H ∧ Wf T S ∧ EnvR T pn S r σ ∧ SPost T pn W (exS P C q il r S.M) S D
def tSs (il : Ss) : TS := fun D σ H => ∃ S r, S.H = H ∧ Wf T S ∧ EnvR T pn S r σ ∧ SPost T pn W (exSs P C q il r S.M) S D
end

section
variable {X : Cx} {T : Ad} {P : Pg} {C : Caller} {q : Asker} {W : WX} {k : Nat} {pn : List (Addr × Obj)}

theorem SPost.from {r : SR} {S S1 : S8} {D : Ends} (g : Go S S1) (p : SPost T pn W r S D) : SPost T pn W r S1 D := by
  cases r with
  | ok f M =>
    cases f with
    | nx r' => exact fun S' σ' g' w e er => p S' σ' (g.trans g') w e er
    | rt v => exact fun S' w' g' w e er => p S' w' (g.trans g') w e er
    | bk r' => exact fun S' σ' g' w e er => p S' σ' (g.trans g') w e er
    | ct r' => exact fun S' σ' g' w e er => p S' σ' (g.trans g') w e er
  | ex c ds r' M => exact fun S' cls d σ' g' w e er rx => p S' cls d σ' (g.trans g') w e er rx
  | no => exact p
theorem st_then {a b : Type} {R1 : S8 → a → b → Prop} {x : R a} {f : a → Store → SR} {S : S8} {r : Env} {σ : L2.St} {D : Ends} (er : EnvR T pn S r σ) (p : SPost T pn W (x.st r f) S D) :
    PostA T R1 x S (fun y H => ∃ S1 v, S1.H = H ∧ Go S S1 ∧ Wf T S1 ∧ R1 S1 v y ∧ SPost T pn W (f v S1.M) S1 D) (atW W σ) := by
  cases x with
  | ok v M =>
    intro S1 y g w e hr
    have p' : SPost T pn W (f v M) S D := p
    exact ⟨S1, v, rfl, g, w, hr, by rw [e]; exact SPost.from g p'⟩
  | ex c ds M =>
    have p' : SPost T pn W (.ex c ds r M) S D := p
    exact fun S' cls d g w e rx => p' S' cls d σ g w e (er.go g w) rx
  | no => exact p
theorem nx_ok {S : S8} {r : Env} {σ : L2.St} {D : Ends} (w : Wf T S) (er : EnvR T pn S r σ) (p : SPost T pn W (.ok (.nx r) S.M) S D) : D.nx σ S.H := p S σ (Go.refl S) w rfl er
theorem PS_imp {st : Stmt} {t t' : TS} (h : PS X st t) (i : ∀ D σ H, t' D σ H → t D σ H) : PS X st t' := ⟨fun pins s σ H D I hq => h.run pins s σ H D I (i D σ H hq)⟩
theorem PSs_imp {st : List Stmt} {t t' : TS} (h : PSs X st t) (i : ∀ D σ H, t' D σ H → t D σ H) : PSs X st t' := ⟨fun pins s σ H D I hq => h.run pins s σ H D I (i D σ H hq)⟩

theorem ss_nil : PSs X [] (tSs T P C q X.pn W .nil) := PSs_imp pss_nil fun D σ H h => by
  obtain ⟨S, r, rfl, w, er, p⟩ := h
  exact nx_ok w er p
theorem ss_cons {st : Stmt} {rest : List Stmt} {s : Sm} {ss : Ss} (h1 : PS X st (tS T P C q X.pn W s)) (h2 : PSs X rest (tSs T P C q X.pn W ss)) : PSs X (st :: rest) (tSs T P C q X.pn W (.cons s ss)) :=
  PSs_imp (pss_cons h1 h2) fun D σ H h => by
    obtain ⟨S, r, rfl, w, er, p⟩ := h
    simp only [exSs] at p
    refine ⟨S, r, rfl, w, er, ?_⟩
    cases z : exS P C q s r S.M with
    | ok f M =>
      cases f with
      | nx r' =>
        rw [z] at p
        intro S' σ' g w' e er'
        refine ⟨S', r', rfl, w', er', ?_⟩
        rw [e]
        exact SPost.from g p
      | rt v => rw [z] at p; exact p
      | bk r' => rw [z] at p; exact p
      | ct r' => rw [z] at p; exact p
    | ex c ds r' M => rw [z] at p; exact p
    | no => rw [z] at p; exact p
theorem ss_pass {pos : Pos} : PS X (.Pass pos) (tS T P C q X.pn W .pass) := PS_imp ps_pass fun D σ H h => by
  obtain ⟨S, r, rfl, w, er, p⟩ := h
  exact nx_ok w er p
theorem ss_doc {x : Str} {j : Nat} {pos pos' : Pos} : PS X (.Expr (.Constant (.str x) j pos) pos') (tS T P C q X.pn W .pass) := PS_imp ps_doc fun D σ H h => by
  obtain ⟨S, r, rfl, w, er, p⟩ := h
  exact nx_ok w er p
theorem ss_brk {pos : Pos} : PS X (.Break pos) (tS T P C q X.pn W .brk) := PS_imp ps_break fun D σ H h => by
  obtain ⟨S, r, rfl, w, er, p⟩ := h
  exact p S σ (Go.refl S) w rfl er
theorem ss_cont {pos : Pos} : PS X (.Continue pos) (tS T P C q X.pn W .cont) := PS_imp ps_continue fun D σ H h => by
  obtain ⟨S, r, rfl, w, er, p⟩ := h
  exact p S σ (Go.refl S) w rfl er
theorem ss_ret {e : Expr} {ie : E} {pos : Pos} (he : PE X e (tE T P C q X.pn W ie)) : PS X (.Return (some e) pos) (tS T P C q X.pn W (.ret ie)) := PS_imp (ps_ret he) fun D σ H h => by
  obtain ⟨S, r, rfl, w, er, p⟩ := h
  simp only [exS] at p
  refine ⟨S, r, rfl, w, er, Post.toA.mpr ((st_then (R1 := RepV T X.pn) er p).mono fun y H ⟨S1, v, e1, g, w1, r1, p1⟩ => ?_)⟩
  subst e1
  exact p1 S1 y (Go.refl _) w1 rfl r1
theorem ss_retN {pos : Pos} : PS X (.Return none pos) (tS T P C q X.pn W (.ret (.c .non))) := PS_imp ps_retN fun D σ H h => by
  obtain ⟨S, r, rfl, w, er, p⟩ := h
  simp only [exS, ev, R.st] at p
  exact p S .non (Go.refl _) w rfl (rp_non (T := T) (F := S.F))
theorem ss_ex {e : Expr} {ie : E} {pos : Pos} (he : PE X e (tE T P C q X.pn W ie)) (hs : swapsWith e none pos.line X.env = pure false := by rfl) : PS X (.Expr e pos) (tS T P C q X.pn W (.ex ie)) := PS_imp (ps_expr he hs) fun D σ H h => by
  obtain ⟨S, r, rfl, w, er, p⟩ := h
  simp only [exS] at p
  refine ⟨S, r, rfl, w, er, Post.toA.mpr ((st_then (R1 := RepV T X.pn) er p).mono fun y H ⟨S1, v, e1, g, w1, r1, p1⟩ => ?_)⟩
  subst e1
  exact nx_ok w1 (er.go g w1) p1
theorem ss_if {c : Expr} {a b : List Stmt} {it : Te} {ia ib : Ss} {pos : Pos} (hc : PT X c (tT T P C q X.pn W it)) (ha : PSs X a (tSs T P C q X.pn W ia)) (hb : PSs X b (tSs T P C q X.pn W ib)) : PS X (.If c a b pos) (tS T P C q X.pn W (.ifs it ia ib)) := PS_imp (ps_if hc ha hb) fun D σ H h => by
  obtain ⟨S, r, rfl, w, er, p⟩ := h
  simp only [exS] at p
  refine ⟨S, r, rfl, w, er, (st_then (R1 := fun _ (a b : Bool) => a = b) er p).mono fun y H ⟨S1, v, e1, g, w1, r1, p1⟩ => ?_⟩
  subst e1
  subst r1
  cases v with
  | true => exact ⟨S1, r, rfl, w1, er.go g w1, p1⟩
  | false => exact ⟨S1, r, rfl, w1, er.go g w1, p1⟩
theorem ss_asg {i : Nat} {x : Str} {e : Expr} {ie : E} {pos' pos : Pos} (hN : X.N.Nodup) (hi : X.N[i]? = some x) (hx : Loc X.env.scope x) (he : PE X e (tE T P C q X.pn W ie)) (hs : swapsWith e (some (.Name x pos')) pos.line X.env = pure false := by rfl) (hf : X.fn x = true ∨ X.env.scope.names.lookup x = some .local := by first | exact .inl rfl | exact .inr rfl | assumption) :
    PS X (.Assign [.Name x pos'] e pos) (tS T P C q X.pn W (.asg i ie)) := PS_imp (ps_set hN hi hx he hs hf) fun D σ H h => by
  obtain ⟨S, r, rfl, w, er, p⟩ := h
  simp only [exS] at p
  refine ⟨S, r, rfl, w, er, Post.toA.mpr ((st_then (R1 := RepV T X.pn) er p).mono fun y H ⟨S1, v, e1, g, w1, r1, p1⟩ => ?_)⟩
  subst e1
  exact nx_ok w1 ((er.go g w1).set r1) p1

/-! ### several targets -/
def gNs : List Nat → TGs
  | [] => gNil
  | i :: is => gCons (gName i) (gNs is)
theorem sg_nil : PGs X [] (gNs []) := pgs_nil
theorem sg_cons {i : Nat} {is : List Nat} {x : Str} {p : Pos} {es : List Expr} (hN : X.N.Nodup) (hi : X.N[i]? = some x) (hx : Loc X.env.scope x) (h2 : PGs X es (gNs is)) (hf : X.fn x = true ∨ X.env.scope.names.lookup x = some .local := by first | exact .inl rfl | exact .inr rfl | assumption)
    (hs : (assignEach (.Name x p :: es) X.env).map (·.2) = assign (.Name x p) X.env :: (assignEach es X.env).map (·.2) := by rfl) : PGs X (.Name x p :: es) (gNs (i :: is)) := pgs_cons (pg_name hN hi hx hf) h2 hs
theorem setAll_ok {S : S8} {H : Hp} {Q : L2.St → Hp → Prop} : ∀ {is : List Nat} {vs : List Val} {xs : List V} {r r' : Env} {σ : L2.St}, setAll is vs r = some r' → RepVs T pn S vs xs → EnvR T pn S r σ → (∀ σ', EnvR T pn S r' σ' → Q σ' H) → gNs is xs σ H Q
  | [], vs, xs, r, r', σ, h, rv, er, hq => by
    cases vs with
    | nil =>
      simp only [setAll] at h
      cases h
      have e : xs = [] := rv
      exact ⟨e, hq σ er⟩
    | cons v vs => simp [setAll] at h
  | i :: is, vs, xs, r, r', σ, h, rv, er, hq => by
    cases vs with
    | nil => simp [setAll] at h
    | cons v vs =>
      simp only [setAll] at h
      obtain ⟨y, ys, e, h1, h2⟩ := rv
      exact ⟨y, ys, e, setAll_ok h h2 (er.set h1) hq⟩
theorem setAll_len : ∀ {is : List Nat} {vs : List Val} {r r' : Env}, setAll is vs r = some r' → vs.length = is.length
  | [], vs, r, r', h => by
    cases vs with
    | nil => rfl
    | cons v vs => simp [setAll] at h
  | i :: is, vs, r, r', h => by
    cases vs with
    | nil => simp [setAll] at h
    | cons v vs =>
      simp only [setAll] at h
      rw [List.length_cons, List.length_cons, setAll_len h]
theorem PG.or {tg : Expr} {t u : TG} (h : PG X tg t) (h' : PG X tg u) : PG X tg (fun v σ H Q => t v σ H Q ∨ u v σ H Q) := ⟨fun pins s σ H v w Q I r hq => by
  rcases hq with hq | hq
  · exact h.run pins s σ H v w Q I r hq
  · exact h'.run pins s σ H v w Q I r hq⟩
theorem ss_asgs (hK : X.K = T.K) (hc : X.calm = true) {is : List Nat} {es : List Expr} {kk : Nat} {e : Expr} {ie : E} {tp pos : Pos} (hg : PGs X es (gNs is)) (he : PE X e (tE T P C q X.pn W ie)) (hn : (assignEach es X.env).length = is.length := by rfl) (hst : (assignEach es X.env).findIdx? (·.1) = none := by rfl)
    (hs : swapsWithSole [.Tuple es kk tp] e pos.line X.env = pure false := by rfl) (hw : swappedStores [.Tuple es kk tp] e X.env = pure none := by rfl) (h1 : (assignEach [.Tuple es kk tp] X.env).map (·.2) = [assign (.Tuple es kk tp) X.env] := by rfl) :
    PS X (.Assign [.Tuple es kk tp] e pos) (tS T P C q X.pn W (.asgs is ie)) := PS_imp (ps_asg he (PG.or (pg_tup hc hg hn hst) (pg_lst hc hg hn hst)) hs hw h1) fun D σ H h => by
  obtain ⟨S, r, rfl, w, er, p⟩ := h
  simp only [exS] at p
  refine ⟨S, r, rfl, w, er, Post.toA.mpr ((st_then (R1 := RepV T X.pn) er p).mono fun y H ⟨S1, v, e1, g, w1, r1, p1⟩ => ?_)⟩
  subst e1
  split at p1 <;> try exact False.elim p1
  rename_i xs hx
  split at p1 <;> try exact False.elim p1
  rename_i r' hr
  obtain ⟨a, vs, ex, hx', rv⟩ := seq_rd hK w1 hx r1
  have hl : vs.length = is.length := by rw [RepVs.length rv, setAll_len hr]
  have go := setAll_ok (Q := D.nx) (H := S1.H) hr (RepVs.nilp (pn := X.pn) rv) (er.go g w1) (fun σ' er' => nx_ok w1 er' p1)
  rcases hx' with hx' | hx'
  · exact .inr ⟨a, vs, ex, hx', hl, go⟩
  · exact .inl ⟨a, vs, ex, hx', hl, go⟩
/-- a, b = x, y: two local names -/
theorem ss_par2 (hc : X.calm = true) {i j : Nat} {x y : Str} {a b : Expr} {ias : As} {px py pt pos : Pos} {kt k2 : Nat} {pt2 : Pos} (hN : X.N.Nodup) (hi : X.N[i]? = some x) (hj : X.N[j]? = some y) (hij : i ≠ j) (hx : X.env.scope.names.lookup x = some .local) (hy : X.env.scope.names.lookup y = some .local)
    (ha : PA X [a, b] (tA T P C q X.pn W ias)) (hw : swappedStores [.Tuple [.Name x px, .Name y py] kt pt] (.Tuple [a, b] k2 pt2) X.env = pure (some [x, y]))
    (hs : swapsWithSole [.Tuple [.Name x px, .Name y py] kt pt] (.Tuple [a, b] k2 pt2) pos.line X.env = pure false := by rfl) :
    PS X (.Assign [.Tuple [.Name x px, .Name y py] kt pt] (.Tuple [a, b] k2 pt2) pos) (tS T P C q X.pn W (.par [i, j] ias)) := PS_imp (ps_par hc hN hi hj hij hx hy ha hw hs) fun D σ H h => by
  obtain ⟨S, r, rfl, w, er, p⟩ := h
  simp only [exS] at p
  refine ⟨S, r, rfl, w, er, (st_then (R1 := RepVs T X.pn) er p).mono fun ys H ⟨S1, vs, e1, g, w1, r1, p1⟩ => ?_⟩
  subst e1
  split at p1 <;> try exact False.elim p1
  rename_i r' hr
  have go := setAll_ok (Q := D.nx) (H := S1.H) hr r1 (er.go g w1) (fun σ' er' => nx_ok w1 er' p1)
  obtain ⟨v, rest, e2, v2, rest2, e3, e4, q⟩ := go
  exact ⟨v, v2, by rw [e2, e3, e4], q⟩
/-- a, b, .. = x, y, ..: any names -/
theorem ss_parN (hK : X.K = T.K) (hc : X.calm = true) {is : List Nat} {es vs : List Expr} {kk k2 : Nat} {ias : As} {tp p2 pos : Pos} (hg : PGs X es (gNs is)) (ha : PA X vs (tA T P C q X.pn W ias)) (hsz : is.length ≤ 1000) (hn : (assignEach es X.env).length = is.length := by rfl) (hst : (assignEach es X.env).findIdx? (·.1) = none := by rfl)
    (hs : swapsWithSole [.Tuple es kk tp] (.Tuple vs k2 p2) pos.line X.env = pure false := by rfl) (hw : swappedStores [.Tuple es kk tp] (.Tuple vs k2 p2) X.env = pure none := by rfl) (h1 : (assignEach [.Tuple es kk tp] X.env).map (·.2) = [assign (.Tuple es kk tp) X.env] := by rfl) :
    PS X (.Assign [.Tuple es kk tp] (.Tuple vs k2 p2) pos) (tS T P C q X.pn W (.par is ias)) := PS_imp (ps_asg (pe_tup ha) (pg_tup hc hg hn hst) hs hw h1) fun D σ H h => by
  obtain ⟨S, r, rfl, w, er, p⟩ := h
  simp only [exS] at p
  refine ⟨S, r, rfl, w, er, (st_then (R1 := RepVs T X.pn) er p).mono fun ys H ⟨S1, vs, e1, g, w1, r1, p1⟩ => ?_⟩
  subst e1
  split at p1 <;> try exact False.elim p1
  rename_i r' hr
  have hl : ys.length = is.length := by rw [RepVs.length r1, setAll_len hr]
  refine ⟨by rw [hl, sizeLine_eq]; omega, fun tp htp => ?_⟩
  obtain ⟨g2, w2⟩ := Go.hid (T := T) (o := .tup ys) w1 htp (fun ps z => by cases z)
  refine ⟨tp, ys, rfl, SqT.of upd_same, hl, ?_⟩
  exact setAll_ok (S := { S1 with H := upd S1.H tp (.tup ys) }) (Q := D.nx) hr (RepVs.go g2 w2 r1) (er.go (g.trans g2) w2) fun σ' er' => p1 _ σ' g2 w2 rfl er'
end
end BV

set_option Elab.async false
set_option maxRecDepth 100000
set_option maxHeartbeats 4000000
/-! BV19: augmented stores, stores of fields and items, loops. -/
namespace BV
open PySem PySem.Spec PyProof.Rows
open L2 hiding St It

section
variable {X : Cx} {T : Ad} {P : Pg} {C : Caller} {q : Asker} {W : WX} {k : Nat} {pn : List (Addr × Obj)}

/-! ### self.f = e -/
theorem putF_new {fl : List Str} : ∀ {ws : List V} {x : Str} {v : V}, fl.Nodup → fl[ws.length]? = some x → putF x v (fl.zip ws) = fl.zip (ws ++ [v]) := by
  induction fl with
  | nil => intro ws x v _ h; simp at h
  | cons f fl ih =>
    intro ws x v nd h
    cases ws with
    | nil =>
      simp at h
      subst h
      simp [putF]
    | cons w ws =>
      have h' : fl[ws.length]? = some x := by simpa using h
      have nx : f ≠ x := fun z => (List.nodup_cons.mp nd).1 (by rw [z]; exact List.mem_of_getElem? h')
      rw [List.zip_cons_cons, List.cons_append, List.zip_cons_cons]
      show (if f = x then _ else _) = _
      rw [if_neg nx, ih (List.nodup_cons.mp nd).2 h']
theorem putF_old {fl : List Str} : ∀ {ws : List V} {j : Nat} {x : Str} {v : V}, fl.Nodup → fl[j]? = some x → j < ws.length → putF x v (fl.zip ws) = fl.zip (ws.set j v) := by
  induction fl with
  | nil => intro ws j x v _ h; simp at h
  | cons f fl ih =>
    intro ws j x v nd h hj
    cases ws with
    | nil => simp at hj
    | cons w ws =>
      cases j with
      | zero =>
        simp at h
        subst h
        simp [putF]
      | succ j =>
        have h' : fl[j]? = some x := by simpa using h
        have nx : f ≠ x := fun z => (List.nodup_cons.mp nd).1 (by rw [z]; exact List.mem_of_getElem? h')
        rw [List.zip_cons_cons, List.set_cons_succ, List.zip_cons_cons]
        show (if f = x then _ else _) = _
        rw [if_neg nx, ih (List.nodup_cons.mp nd).2 h' (by simpa using hj)]
theorem ss_fld (c0 : X.K = T.K) (g0 : Prg T P) {o e : Expr} {io ie : E} {f : Str} {m : Nat} {pos' pos : Pos} (hf : f = T.nm m) (ho : PE X o (tE T P C q X.pn W io)) (he : PE X e (tE T P C q X.pn W ie)) (hs : swapsWith e (some (.Attribute o f pos')) pos.line X.env = pure false := by rfl) :
    PS X (.Assign [.Attribute o f pos'] e pos) (tS T P C q X.pn W (.fld io m ie)) := PS_imp (ps_fld ho he hs) fun D σ H h => by
  obtain ⟨S, r, rfl, w, er, p⟩ := h
  simp only [exS] at p
  refine ⟨S, r, rfl, w, er, Post.toA.mpr ((st_then (R1 := RepV T X.pn) er p).mono fun y H ⟨S1, vy, e1, g1, w1, r1, p1⟩ => ?_)⟩
  subst e1
  refine ⟨S1, r, rfl, w1, er.go g1 w1, Post.toA.mpr ((st_then (R1 := RepV T X.pn) (er.go g1 w1) p1).mono fun x H ⟨S2, vx, e2, g2, w2, r2, p2⟩ => ?_)⟩
  subst e2
  split at p2 <;> try exact False.elim p2
  rename_i n
  split at p2 <;> try exact False.elim p2
  rename_i cn vs hc
  split at p2 <;> try exact False.elim p2
  rename_i j hj
  split at p2 <;> try exact False.elim p2
  rename_i hpl
  have hpl' : plainV vy = true := by simpa using hpl
  obtain ⟨en, hn⟩ := r2
  obtain ⟨hF, ob, hob, dx, ws, eo, hr2, hz⟩ := w2.cell n _ hc
  subst eo
  obtain ⟨hfz, hno, hfl⟩ := g0.fld _ _ _ hj
  obtain ⟨cl, hl100, nd⟩ := g0.cls _ hfz
  have cl' := cl.cl
  rw [← c0] at cl' hno
  have ry := RepV.plain hpl' (RepV.go g2 w2 r1)
  have hzl : ((T.fl cn).zip ws).length < 1000 := by rw [List.length_zip]; omega
  rw [hf]
  split at p2
  · rename_i hlt
    obtain ⟨g3, w3⟩ := Go.put (o := .ins (T.ca cn) dx ((T.fl cn).zip (ws.set j y))) (c := .ins cn (vs.set j vy)) w2 ⟨_, hc⟩ (fun ps z => by cases z) ⟨dx, _, rfl, RepVs.set ry hr2, by rw [List.length_set]; exact hz⟩
    refine ⟨S2.io n, T.ca cn, dx, _, en, hob, cl', hno, hzl, ?_⟩
    rw [putF_old nd hfl (by rw [RepVs.length hr2]; exact hlt)]
    exact p2 _ σ g3 w3 rfl (er.go ((g1.trans g2).trans g3) w3)
  · split at p2 <;> try exact False.elim p2
    rename_i hjl
    have hjw : ws.length = j := by rw [RepVs.length hr2]; exact hjl.symm
    obtain ⟨g3, w3⟩ := Go.put (o := .ins (T.ca cn) dx ((T.fl cn).zip (ws ++ [y]))) (c := .ins cn (vs ++ [vy])) w2 ⟨_, hc⟩ (fun ps z => by cases z) ⟨dx, _, rfl, RepVs.append hr2 ⟨y, [], rfl, ry, rfl⟩, by
      rw [List.length_append, List.length_singleton, hjw]
      exact (List.getElem?_eq_some_iff.mp hfl).1⟩
    refine ⟨S2.io n, T.ca cn, dx, _, en, hob, cl', hno, hzl, ?_⟩
    rw [putF_new nd (by rw [hjw]; exact hfl)]
    exact p2 _ σ g3 w3 rfl (er.go ((g1.trans g2).trans g3) w3)

/-! ### a[i] = e -/
theorem sg_sub {o i : Expr} {io ii : E} {pos : Pos} (ho : PE X o (tE T P C q X.pn W io)) (hi : PE X i (tE T P C q X.pn W ii)) (ha : ∀ v, assign (.Subscript o i pos) X.env v = (do
      let ov ← holding [v] (eval o X.env)
      let iv ← holding [v, ov] (eval i X.env)
      standAt pos
      holding [v, ov, iv] (setItem ov iv v)
      release [v, ov, iv] []) := by intro _; rfl) : PG X (.Subscript o i pos) (gSub (tE T P C q X.pn W io) (tE T P C q X.pn W ii) rSetL) := pg_sub ho hi set_list ha
theorem setI_post {S : S8} {vx vz vy : Val} {x z y : V} {M4 : Store} {Q : Hp → Prop} (w : Wf T S) (rx : RepV T pn S vx x) (rz : RepV T pn S vz z) (ry : RepV T pn S vy y) (h : setI vx vz vy S.M = some M4) (p : ∀ S4, Go S S4 → Wf T S4 → S4.M = M4 → Q S4.H) : rSetL x z y S.H Q := by
  unfold setI at h
  split at h <;> try cases h
  rename_i n
  split at h <;> try cases h
  rename_i j
  split at h <;> try cases h
  rename_i xs hc
  split at h <;> try cases h
  rename_i jj hj
  split at h <;> try cases h
  rename_i hpl
  obtain ⟨en, hn⟩ := rx
  obtain ⟨hF, ob, hob, ws, eo, hr2⟩ := w.cell n _ hc
  subst eo
  have ez := rl_int (T := T) (F := S.F) rz
  obtain ⟨g4, w4⟩ := Go.put (o := .lst (ws.set jj y)) (c := .lst (xs.set jj vy)) w ⟨_, hc⟩ (fun ps z => by cases z) ⟨_, rfl, RepVs.set (RepV.plain hpl ry) hr2⟩
  exact ⟨S.io n, ws, j, jj, en, ez, hob, by rw [RepVs.length hr2]; exact hj, p { S with H := upd S.H (S.io n) (.lst (ws.set jj y)), M := S.M.set n (some (.lst (xs.set jj vy))) } g4 w4 rfl⟩
theorem ss_sub {o i e : Expr} {io ii ie : E} {tp pos : Pos} (hg : PG X (.Subscript o i tp) (gSub (tE T P C q X.pn W io) (tE T P C q X.pn W ii) rSetL)) (he : PE X e (tE T P C q X.pn W ie)) (hs : swapsWithSole [.Subscript o i tp] e pos.line X.env = pure false := by rfl) (hw : swappedStores [.Subscript o i tp] e X.env = pure none := by rfl)
    (h1 : (assignEach [.Subscript o i tp] X.env).map (·.2) = [assign (.Subscript o i tp) X.env] := by rfl) : PS X (.Assign [.Subscript o i tp] e pos) (tS T P C q X.pn W (.sub io ii ie)) := PS_imp (ps_asg he hg hs hw h1) fun D σ H h => by
  obtain ⟨S, r, rfl, w, er, p⟩ := h
  simp only [exS] at p
  refine ⟨S, r, rfl, w, er, Post.toA.mpr ((st_then (R1 := RepV T X.pn) er p).mono fun y H ⟨S1, vy, e1, g1, w1, r1, p1⟩ => ?_)⟩
  subst e1
  refine ⟨S1, r, rfl, w1, er.go g1 w1, Post.toA.mpr ((st_then (R1 := RepV T X.pn) (er.go g1 w1) p1).mono fun x H ⟨S2, vx, e2, g2, w2, r2, p2⟩ => ?_)⟩
  subst e2
  refine ⟨S2, r, rfl, w2, er.go (g1.trans g2) w2, Post.toA.mpr ((st_then (R1 := RepV T X.pn) (er.go (g1.trans g2) w2) p2).mono fun z H ⟨S3, vz, e3, g3, w3, r3, p3⟩ => ?_)⟩
  subst e3
  split at p3 <;> try exact False.elim p3
  rename_i M4 hM
  have r2' := RepV.go g3 w3 r2
  have ry' := RepV.go (g2.trans g3) w3 r1
  exact setI_post w3 r2' r3 ry' hM fun S4 g4 w4 e4 => p3 S4 σ g4 w4 e4 (er.go (((g1.trans g2).trans g3).trans g4) w4)
end
end BV

set_option Elab.async false
set_option maxRecDepth 100000
set_option maxHeartbeats 4000000
/-! BV20: for, while. -/
namespace BV
open PySem PySem.Spec PyProof.Rows
open L2 hiding St It

section
variable {X : Cx} {T : Ad} {P : Pg} {C : Caller} {q : Asker} {W : WX} {k : Nat} {pn : List (Addr × Obj)}

/-- the target of a loop -/
def gTg (K : PySem.W.Frag) (is : List Nat) (many : Bool) : TG := fun v σ H Q =>
  match many with
  | false => ∃ i, is = [i] ∧ gName i v σ H Q
  | true => gTup K is.length (gNs is) v σ H Q
theorem PG_imp {tg : Expr} {t t' : TG} (h : PG X tg t) (i : ∀ v σ H Q, t' v σ H Q → t v σ H Q) : PG X tg t' := ⟨fun pins s σ H v u Q I r hq => h.run pins s σ H v u Q I r (i v σ H Q hq)⟩
theorem sg_one {i : Nat} {x : Str} {pos : Pos} (hN : X.N.Nodup) (hi : X.N[i]? = some x) (hx : Loc X.env.scope x) (hf : X.fn x = true ∨ X.env.scope.names.lookup x = some .local := by first | exact .inl rfl | exact .inr rfl | assumption) : PG X (.Name x pos) (gTg X.K [i] false) :=
  PG_imp (pg_name hN hi hx hf) fun v σ H Q h => by
    obtain ⟨j, e, h⟩ := h
    cases e
    exact h
theorem sg_many (hc : X.calm = true) {is : List Nat} {es : List Expr} {kk : Nat} {pos : Pos} (hg : PGs X es (gNs is)) (hn : (assignEach es X.env).length = is.length := by rfl) (hst : (assignEach es X.env).findIdx? (·.1) = none := by rfl) : PG X (.Tuple es kk pos) (gTg X.K is true) := pg_tup hc hg hn hst
/-- the item is stored -/
theorem item_ok (hK : X.K = T.K) {S : S8} {many : Bool} {is : List Nat} {item : List Val} {x : V} {r r' : Env} {σ : L2.St} {Q : L2.St → Hp → Prop} (iv : ItV T pn S many item x) (hr : setAll is item r = some r') (er : EnvR T pn S r σ) (hm : many = (is.length != 1)) (hq : ∀ σ', EnvR T pn S r' σ' → Q σ' S.H) : gTg X.K is many x σ S.H Q := by
  cases many with
  | false =>
    have h1 : is.length = 1 := by
      have := hm.symm
      simpa using this
    obtain ⟨v, e, rv⟩ := iv
    subst e
    match is, h1 with
    | [i], _ =>
      simp only [setAll] at hr
      cases hr
      exact ⟨i, rfl, hq _ (er.set rv)⟩
  | true =>
    obtain ⟨a, xs, e, hx, rv⟩ := iv
    exact ⟨a, xs, e, hK ▸ hx, by rw [RepVs.length rv, setAll_len hr], setAll_ok hr rv er hq⟩

def bodyL (P : Pg) (C : Caller) (q : Asker) (is : List Nat) (b : Ss) : List Val → Env → Store → SR := fun item r M2 => match setAll is item r with
  | none => .no
  | some r' => exSs P C q b r' M2
theorem ss_for (hK : X.K = T.K) (hp : PassesOwn (model X.prog X.w) X.A X.env X.xe) (hc : X.calm = true) {tg iter : Expr} {body : List Stmt} {it : It} {is : List Nat} {b : Ss} {pos : Pos} (hi : PI X tg iter (tI T P C q X.pn W it (is.length != 1))) (hg : PG X tg (gTg X.K is (is.length != 1))) (hb : PSs X body (tSs T P C q X.pn W b))
    (hs : ∀ x, foldedSetIterable iter X.env x = pure x := by intro _; rfl) : PS X (.For tg iter body [] pos) (tS T P C q X.pn W (.for is it b)) := PS_imp (ps_for hp hc hi hg hb hs) fun D σ H h => by
  obtain ⟨S, r, rfl, w, er, p⟩ := h
  have p' : SPost T X.pn W ((evI P C q it (is.length != 1) r S.M).st r fun rd M1 => loop rd (bodyL P C q is b) (rdLen rd M1 + 1) 0 r M1) S D := p
  refine ⟨S, r, rfl, w, er, (st_then (R1 := fun S' rd J => ItR T [] (is.length != 1) S' rd J) er p').mono fun J H ⟨S1, rd, e1, g1, w1, hJ, p1⟩ => ?_⟩
  subst e1
  refine ⟨fun i m σ H => ∃ S r, S.H = H ∧ Go S1 S ∧ Wf T S ∧ EnvR T X.pn S r σ ∧ SPost T X.pn W (loop rd (bodyL P C q is b) m i r S.M) S D, ⟨_, S1, r, rfl, Go.refl _, w1, er.go g1 w1, p1⟩, ?_⟩
  rintro i m σ2 H2 ⟨S2, r2, rfl, g2, w2, er2, p2⟩
  cases m with
  | zero => exact False.elim p2
  | succ m =>
    simp only [loop] at p2
    cases hrd : rd S2.M with
    | none => rw [hrd] at p2; exact False.elim p2
    | some its =>
      rw [hrd] at p2
      obtain ⟨h1, h2⟩ := hJ S2 g2 w2 i its hrd
      dsimp only at p2
      cases hit : its[i]? with
      | none =>
        rw [hit] at p2
        exact .inl ⟨h1 hit, nx_ok w2 er2 p2⟩
      | some item =>
        rw [hit] at p2
        dsimp only at p2
        obtain ⟨hgo, hyld⟩ := h2 item hit
        refine .inr ⟨hgo, fun σ' H' => ∃ S r, S.H = H' ∧ Go S1 S ∧ Wf T S ∧ EnvR T X.pn S r σ' ∧ SPost T X.pn W (loop rd (bodyL P C q is b) m (i + 1) r S.M) S D, fun σ' H' hh => ⟨m, Nat.lt_succ_self m, hh⟩, fun x H' hy => ?_⟩
        obtain ⟨S3, e3, g3, w3, eM, iv⟩ := hyld x H' hy
        subst e3
        have er3 := er2.go g3 w3
        unfold bodyL at p2
        cases hr : setAll is item r2 with
        | none => rw [hr] at p2; exact False.elim p2
        | some r3 =>
          rw [hr] at p2
          dsimp only at p2
          refine item_ok (T := T) (pn := X.pn) hK (ItV.nilp iv) hr er3 rfl fun σ4 er4 => ⟨S3, r3, rfl, w3, er4, ?_⟩
          rw [eM]
          cases z : exSs P C q b r3 S2.M with
          | ok f M =>
            rw [z] at p2
            cases f with
            | nx r5 => exact fun S5 σ5 g5 w5 e5 er5 => ⟨S5, r5, rfl, (g2.trans g3).trans g5, w5, er5, by rw [e5]; exact SPost.from (g3.trans g5) p2⟩
            | ct r5 => exact fun S5 σ5 g5 w5 e5 er5 => ⟨S5, r5, rfl, (g2.trans g3).trans g5, w5, er5, by rw [e5]; exact SPost.from (g3.trans g5) p2⟩
            | bk r5 => exact fun S5 σ5 g5 w5 e5 er5 => p2 S5 σ5 (g3.trans g5) w5 e5 er5
            | rt v => exact fun S5 x5 g5 w5 e5 rx5 => p2 S5 x5 (g3.trans g5) w5 e5 rx5
          | ex c ds r5 M => rw [z] at p2; exact fun S5 cls d σ5 g5 w5 e5 er5 rx => p2 S5 cls d σ5 (g3.trans g5) w5 e5 er5 rx
          | no => rw [z] at p2; exact p2
theorem ss_whl (hp : PassesOwn (model X.prog X.w) X.A X.env X.xe) {c : Expr} {body : List Stmt} {ic : Te} {b : Ss} {fuel : Nat} {pos : Pos} (hc : PT X c (tT T P C q X.pn W ic)) (hb : PSs X body (tSs T P C q X.pn W b)) : PS X (.While c body [] pos) (tS T P C q X.pn W (.whl fuel ic b)) := PS_imp (ps_while hp hc hb) fun D σ H h => by
  obtain ⟨S, r, rfl, w, er, p⟩ := h
  simp only [exS] at p
  refine ⟨fun m σ H => ∃ S r, S.H = H ∧ Wf T S ∧ EnvR T X.pn S r σ ∧ SPost T X.pn W (wloop (fun r M => evT P C q ic r M) (fun r M => exSs P C q b r M) m r S.M) S D, ⟨fuel, S, r, rfl, w, er, p⟩, ?_⟩
  rintro m σ2 H2 ⟨S2, r2, rfl, w2, er2, p2⟩
  cases m with
  | zero => exact False.elim p2
  | succ m =>
    simp only [wloop] at p2
    refine ⟨S2, r2, rfl, w2, er2, ?_⟩
    cases z : evT P C q ic r2 S2.M with
    | ok x M1 =>
      rw [z] at p2
      intro S3 y g3 w3 e3 ey
      subst ey
      cases x with
      | false =>
        show D.nx σ2 S3.H
        exact p2 S3 σ2 g3 w3 e3 (er2.go g3 w3)
      | true =>
        refine ⟨fun σ' H' => ∃ S r, S.H = H' ∧ Wf T S ∧ EnvR T X.pn S r σ' ∧ SPost T X.pn W (wloop (fun r M => evT P C q ic r M) (fun r M => exSs P C q b r M) m r S.M) S D, fun σ' H' hh => ⟨m, Nat.lt_succ_self m, hh⟩, S3, r2, rfl, w3, er2.go g3 w3, ?_⟩
        rw [e3]
        dsimp only at p2
        cases z2 : exSs P C q b r2 M1 with
        | ok f M =>
          rw [z2] at p2
          cases f with
          | nx r5 => exact fun S5 σ5 g5 w5 e5 er5 => ⟨S5, r5, rfl, w5, er5, by rw [e5]; exact SPost.from (g3.trans g5) p2⟩
          | ct r5 => exact fun S5 σ5 g5 w5 e5 er5 => ⟨S5, r5, rfl, w5, er5, by rw [e5]; exact SPost.from (g3.trans g5) p2⟩
          | bk r5 => exact fun S5 σ5 g5 w5 e5 er5 => p2 S5 σ5 (g3.trans g5) w5 e5 er5
          | rt v => exact fun S5 x5 g5 w5 e5 rx5 => p2 S5 x5 (g3.trans g5) w5 e5 rx5
        | ex c ds r5 M => rw [z2] at p2; exact fun S5 cls d σ5 g5 w5 e5 er5 rx => p2 S5 cls d σ5 (g3.trans g5) w5 e5 er5 rx
        | no => rw [z2] at p2; exact p2
    | ex c ds M1 =>
      rw [z] at p2
      exact fun S3 cls d g3 w3 e3 rx => p2 S3 cls d σ2 g3 w3 e3 (er2.go g3 w3) rx
    | no => rw [z] at p2; exact p2
end
end BV

set_option Elab.async false
set_option maxRecDepth 100000
set_option maxHeartbeats 4000000
/-! BV21: list comprehensions. -/
namespace BV
open PySem PySem.Spec PyProof.Rows
open L2 hiding St It

section
variable {X : Cx} {T : Ad} {P : Pg} {C : Caller} {q : Asker} {W : WX} {k : Nat} {pn : List (Addr × Obj)}

/-- an object not told of, beside the state -/
def S8.with (S : S8) (D : Addr) (o : HO) : S8 := { S with H := upd S.H D o }
def S8.without (S : S8) (D : Addr) : S8 := { S with H := fun a => if a = D then none else S.H a }
theorem Go.withO {S : S8} {D : Addr} {o : HO} (w : Wf T S) (h : S.H D = none) (ho : ∀ ps, o ≠ .tbl ps) : Go S (S.with D o) ∧ Wf T (S.with D o) := Go.hid w h ho
theorem Go.unhid {S S4 : S8} {D : Addr} {o : HO} (w : Wf T S) (h : S.H D = none) (ho : ∀ ps, o ≠ .tbl ps) (hx : ∀ φ, o ≠ .ext φ) (g : Go (S.with D o) S4) (w4 : Wf T S4) :
    S4.H D = some o ∧ Go S (S4.without D) ∧ Wf T (S4.without D) ∧ ∀ o', upd (S4.without D).H D o' = upd S4.H D o' := by
  have hF : S.F D = none := by
    cases e : S.F D with
    | none => rfl
    | some u => rw [w.fh _ _ e] at h; cases h
  have hD1 : (S.with D o).H D = some o := upd_same
  have nc1 : NoCell (S.with D o) D := fun n hn e => by
    obtain ⟨c, hc⟩ := hn
    obtain ⟨_, u, hu, _⟩ := w.cell n c hc
    have e' : S.io n = D := e
    rw [e', h] at hu
    cases hu
  have h4 : S4.H D = some o := g.H D o hD1 nc1 ho
  have f4 : S4.F D = none := (g.Fn D (by rw [hD1]; exact Option.some_ne_none _) nc1).trans hF
  have nc4 : NoCell S4 D := g.noCell (by rw [hD1]; exact Option.some_ne_none _) nc1
  have ne : ∀ {a : Addr} {u : HO}, S.H a = some u → a ≠ D := fun e => ne_of_none e h
  have wo : ∀ {a : Addr}, a ≠ D → (S4.without D).H a = S4.H a := fun hne => if_neg hne
  have wi : ∀ {a : Addr}, a ≠ D → (S.with D o).H a = S.H a := fun hne => upd_ne hne
  have G : Go S (S4.without D) := by
    refine ⟨g.F, fun a u e nc nt => ?_, fun a e nc => ?_, fun a e => ?_, g.len, g.io, fun n hn => ?_⟩
    · rw [wo (ne e)]
      exact g.H a u (by rw [wi (ne e)]; exact e) nc nt
    · obtain ⟨u, hu⟩ := Option.ne_none_iff_exists'.mp e
      exact g.Fn a (by rw [wi (ne hu)]; exact e) nc
    · obtain ⟨u, hu⟩ := Option.ne_none_iff_exists'.mp e
      rw [wo (ne hu)]
      exact g.dom a (by rw [wi (ne hu)]; exact e)
    · rcases g.new n hn with z | ⟨z1, z2⟩
      · exact .inl z
      · refine .inr ⟨z1, ?_⟩
        have hne : S4.io n ≠ D := nc4 n hn
        rw [wi hne] at z2
        exact z2
  refine ⟨h4, G, ⟨fun a u e => ?_, fun n c hc => ?_, w4.inj, w4.ft, fun p hp => ?_, fun a ps e => ?_, fun S0 h => (w.amb S0 h).trans G⟩, fun o' => ?_⟩
  · have hne : a ≠ D := fun z => by
      rw [z] at e
      rw [show (S4.without D).F D = S4.F D from rfl, f4] at e
      cases e
    rw [wo hne]
    exact w4.fh a u e
  · obtain ⟨h1, u, hu, cr⟩ := w4.cell n c hc
    refine ⟨h1, u, ?_, CellR.up (S := S4) (S' := S4.without D) (fun _ _ e => e) (fun _ _ => rfl) (Nat.le_refl _) cr⟩
    exact (wo (nc4 n ⟨c, hc⟩)).trans hu
  · obtain ⟨ps, a1, a2, a3⟩ := w4.tabs p hp
    have hne : p.1 ≠ D := fun z => by
      rw [z, h4] at a1
      exact ho ps (Option.some.inj a1)
    refine ⟨ps, by rw [wo hne]; exact a1, a2, fun pos cv hcv => ?_⟩
    obtain ⟨c0, b1, b2⟩ := a3 pos cv hcv
    refine ⟨c0, b1, ?_⟩
    by_cases z : c0 = D
    · -- a code object is never that object
      rw [z] at b2
      rw [h4] at b2
      exact absurd (Option.some.inj b2) (hx _)
    · rw [wo z]
      exact b2
  · by_cases z : a = D
    · have e' : (if a = D then none else S4.H a) = some (.tbl ps) := e
      rw [if_pos z] at e'
      cases e'
    · have e' : (if a = D then none else S4.H a) = some (.tbl ps) := e
      rw [if_neg z] at e'
      exact w4.tin a ps e'
  · funext b
    by_cases z : b = D
    · rw [z, upd_same, upd_same]
    · rw [upd_ne z, upd_ne z]
      exact if_neg z

/-! ### the block -/
theorem EnvR.dropX {S : S8} {r : Env} {σ : L2.St} (h : EnvR T pn S r σ) : EnvR T [] S (dropX r) σ := by
  refine ⟨by unfold BV.dropX; rw [List.length_map]; exact h.1, fun i v e => ?_⟩
  unfold BV.dropX at e
  rw [List.getElem?_map] at e
  cases z : r[i]? with
  | none => rw [z] at e; cases e
  | some o =>
    rw [z] at e
    cases o with
    | none => cases e
    | some u =>
      obtain ⟨w, h1, h2⟩ := h.2 i u z
      cases u with
      | exn c ds => cases e
      | d x => cases e; exact ⟨w, h1, h2⟩
      | ref n => cases e; exact ⟨w, h1, h2⟩
      | lam => cases e; exact ⟨w, h1, h2.imp (fun z => z.elim) id⟩
theorem EnvR.wipe {S : S8} {r : Env} {σ : L2.St} (h : EnvR T pn S r σ) : ∀ is : List Nat, EnvR T pn S (wipeE is r) (L2.wipe σ is)
  | [] => h
  | i :: is => (EnvR.wipe h is).unset
/-- two states alike but at some slots -/
theorem wipe_of : ∀ {vs : List Nat} {σ τ : L2.St}, σ.length = τ.length → (∀ j, j ∉ vs → σ[j]? = τ[j]?) → L2.wipe σ vs = L2.wipe τ vs := by
  intro vs σ τ hl h
  have key : ∀ (vs : List Nat) (ρ : L2.St) (j : Nat), (L2.wipe ρ vs)[j]? = if j ∈ vs then (if j < ρ.length then some none else none) else ρ[j]? := by
    intro vs
    induction vs with
    | nil => intro ρ j; simp [L2.wipe]
    | cons v vs ih =>
      intro ρ j
      show ((L2.wipe ρ vs).set v none)[j]? = _
      rw [List.getElem?_set]
      by_cases e : v = j
      · subst e
        simp [wipe_length]
      · rw [if_neg e, ih]
        by_cases m : j ∈ vs
        · simp [m]
        · have : j ∉ v :: vs := fun z => by
            rcases List.mem_cons.mp z with z | z
            · exact e z.symm
            · exact m z
          rw [if_neg m, if_neg this]
  apply List.ext_getElem?
  intro j
  rw [key, key]
  by_cases m : j ∈ vs
  · rw [if_pos m, if_pos m, hl]
  · rw [if_neg m, if_neg m, h j m]
theorem setAll_ok2 {S : S8} {H : Hp} {Q : L2.St → Hp → Prop} : ∀ {is : List Nat} {vs : List Val} {xs : List V} {r r' : Env} {σ : L2.St}, setAll is vs r = some r' → RepVs T pn S vs xs → EnvR T pn S r σ →
    (∀ σ', EnvR T pn S r' σ' → σ'.length = σ.length → (∀ j, j ∉ is → σ'[j]? = σ[j]?) → Q σ' H) → gNs is xs σ H Q
  | [], vs, xs, r, r', σ, h, rv, er, hq => by
    cases vs with
    | nil =>
      simp only [setAll] at h
      cases h
      have e : xs = [] := rv
      exact ⟨e, hq σ er rfl fun _ _ => rfl⟩
    | cons v vs => simp [setAll] at h
  | i :: is, vs, xs, r, r', σ, h, rv, er, hq => by
    cases vs with
    | nil => simp [setAll] at h
    | cons v vs =>
      simp only [setAll] at h
      obtain ⟨y, ys, e, h1, h2⟩ := rv
      refine ⟨y, ys, e, setAll_ok2 h h2 (er.set h1) fun σ' er' hl hj => hq σ' er' (by rw [hl, List.length_set]) fun j m => ?_⟩
      rw [hj j (fun z => m (List.mem_cons_of_mem _ z)), List.getElem?_set_ne (fun z => m (by rw [z]; exact List.mem_cons_self))]
theorem item_ok2 (hK : X.K = T.K) {S : S8} {many : Bool} {is : List Nat} {item : List Val} {x : V} {r r' : Env} {σ : L2.St} {Q : L2.St → Hp → Prop} (iv : ItV T pn S many item x) (hr : setAll is item r = some r') (er : EnvR T pn S r σ) (hm : many = (is.length != 1))
    (hq : ∀ σ', EnvR T pn S r' σ' → σ'.length = σ.length → (∀ j, j ∉ is → σ'[j]? = σ[j]?) → Q σ' S.H) : gTg X.K is many x σ S.H Q := by
  cases many with
  | false =>
    have h1 : is.length = 1 := by
      have := hm.symm
      simpa using this
    obtain ⟨v, e, rv⟩ := iv
    subst e
    match is, h1 with
    | [i], _ =>
      simp only [setAll] at hr
      cases hr
      refine ⟨i, rfl, hq _ (er.set rv) (by rw [List.length_set]) fun j m => ?_⟩
      rw [List.getElem?_set_ne (fun z => m (by rw [z]; exact List.mem_cons_self))]
  | true =>
    obtain ⟨a, xs, e, hx, rv⟩ := iv
    exact ⟨a, xs, e, hK ▸ hx, by rw [RepVs.length rv, setAll_len hr], setAll_ok2 hr rv er hq⟩

abbrev W0 : WX := fun _ _ _ _ => False
/-- the tests of a block -/
def tTs (T : Ad) (P : Pg) (C : Caller) (q : Asker) (pn : List (Addr × Obj)) (W : WX) (il : Tes) : TT := fun s H Q => ∃ S r, S.H = H ∧ Wf T S ∧ EnvR T pn S r s ∧ PostA T (fun _ (a b : Bool) => a = b) (evTs P C q il r S.M) S Q (atW W s)
theorem sts_nil : PTs X [] (tTs T P C q X.pn W .nil) := ⟨fun pins s σ H Q I h => by
  obtain ⟨S, r, rfl, w, er, p⟩ := h
  exact pts_nil.run pins s σ S.H Q I (p S true (Go.refl S) w rfl rfl)⟩
theorem sts_one {c : Expr} {ic : Te} (h : PT X c (tT T P C q X.pn W ic)) : PTs X [c] (tTs T P C q X.pn W (.cons ic .nil)) := ⟨fun pins s σ H Q I hq => by
  refine (pts_one h).run pins s σ H Q I ?_
  obtain ⟨S, r, e, w, er, p⟩ := hq
  refine ⟨S, r, e, w, er, ?_⟩
  simp only [evTs] at p
  cases z : evT P C q ic r S.M with
  | ok b M =>
    rw [z] at p
    intro S' b' g w' e' eb
    subst eb
    cases b with
    | true => exact p S' true g w' e' rfl
    | false => exact p S' false g w' e' rfl
  | ex c ds M => rw [z] at p; exact p
  | no => rw [z] at p; exact p⟩
def bodyC (P : Pg) (C : Caller) (q : Asker) (tg : List Nat) (tests : Tes) (e : E) (r : Env) : List Val → Store → R (Option Val) := fun item M2 => match setAll tg item (wipeE tg (dropX r)) with
  | none => .no
  | some r' => (evTs P C q tests r' M2).bind fun b M3 => if b then (ev P C q e r' M3).bind fun v M4 => .ok (some v) M4 else .ok none M3

theorem cp_imp (hK : X.K = T.K) {own : List (Str × Nat)} {it : It} {is : List Nat} {tests : Tes} {ie : E} {mt : Bool} (ho : own.map (·.2) = is) {σ : L2.St} {H : Hp} {Q : VK} (h : tE T P C q X.pn W (.cp mt it is tests ie) σ H Q) :
    tLc (tI T P C q X.pn W it (is.length != 1)) (gTg X.K is (is.length != 1)) (tTs T P C q [] W0 tests) (tE T P C q [] W0 ie) (own.map (·.2)) σ H Q := by
    obtain ⟨S, r, rfl, w, er, p⟩ := h
    have p' : PostA T (RepV T X.pn) ((evI P C q it (is.length != 1) r S.M).bind fun rd M1 => (cloop rd (bodyC P C q is tests ie r) (rdLen rd M1 + 1) 0 [] M1).bind fun xs M5 => newL mt xs M5) S Q (atW W σ) := Post.toA.mp p
    refine ⟨S, r, rfl, w, er, (PostA.bind (R1 := fun S' rd J => ItR T [] (is.length != 1) S' rd J) p').mono fun J H1 ⟨S1, rd, e1, g1, w1, hJ, p1⟩ => ?_⟩
    subst e1
    intro D hD
    rw [ho]
    have er1 := er.go g1 w1
    refine ⟨fun i m H => ∃ (S2 : S8) (acc : List Val) (va : List V), H = upd S2.H D (.lst va) ∧ S2.H D = none ∧ Go S1 S2 ∧ Wf T S2 ∧ RepVs T [] S2 acc va ∧ Post T X.pn ((cloop rd (bodyC P C q is tests ie r) m i acc S2.M).bind fun xs M5 => newL mt xs M5) S2 Q (atW W σ),
      ⟨_, S1, [], [], rfl, hD, Go.refl _, w1, rfl, Post.toA.mpr p1⟩, ?_⟩
    rintro i m H2 ⟨S2, acc, va, rfl, hD2, g2, w2, ra, p2⟩
    cases m with
    | zero => exact False.elim p2
    | succ m =>
      obtain ⟨gD, wD⟩ := Go.withO (o := .lst va) w2 hD2 (fun ps z => by cases z)
      simp only [cloop] at p2
      cases hrd : rd S2.M with
      | none => rw [hrd] at p2; exact False.elim p2
      | some its =>
        rw [hrd] at p2
        obtain ⟨h1, h2⟩ := hJ (S2.with D (.lst va)) (g2.trans gD) wD i its hrd
        dsimp only at p2
        cases hit : its[i]? with
        | none =>
          rw [hit] at p2
          have p3 : Post T X.pn (newL mt acc S2.M) S2 Q (atW W σ) := p2
          obtain ⟨_, hq⟩ := newL_ok (pn' := []) w2 p3
          exact .inl ⟨h1 hit, hq D va hD2 ra⟩
        | some item =>
          rw [hit] at p2
          dsimp only at p2
          obtain ⟨hgo, hyld⟩ := h2 item hit
          refine .inr ⟨hgo, fun H' => ∃ (S2 : S8) (acc : List Val) (va : List V), H' = upd S2.H D (.lst va) ∧ S2.H D = none ∧ Go S1 S2 ∧ Wf T S2 ∧ RepVs T [] S2 acc va ∧ Post T X.pn ((cloop rd (bodyC P C q is tests ie r) m (i + 1) acc S2.M).bind fun xs M5 => newL mt xs M5) S2 Q (atW W σ), fun H' hh => ⟨m, Nat.lt_succ_self m, hh⟩, fun x H' hy => ?_⟩
          obtain ⟨S3, e3, g3, w3, eM, iv⟩ := hyld x H' hy
          subst e3
          have eM3 : S3.M = S2.M := eM
          have er3 : EnvR T [] S3 (wipeE is (dropX r)) (wipe σ is) := EnvR.wipe (EnvR.dropX (er1.go ((g2.trans gD).trans g3) w3)) is
          unfold bodyC at p2
          cases hr : setAll is item (wipeE is (dropX r)) with
          | none => rw [hr] at p2; exact False.elim p2
          | some r3 =>
            rw [hr] at p2
            dsimp only at p2
            refine item_ok2 (T := T) (pn := []) hK iv hr er3 rfl fun σ4 er4 hl4 hj4 => ⟨(wipe_of hl4 hj4).trans (wipe_of (wipe_length σ is) fun j m => wipe_out m), ⟨S3, r3, rfl, w3, er4, ?_⟩⟩
            rw [eM3]
            -- a state behind the block, without the new list
            have back : ∀ {S5 : S8}, Go S3 S5 → Wf T S5 → S5.H D = some (.lst va) ∧ Go S2 (S5.without D) ∧ Wf T (S5.without D) ∧ ∀ o', upd (S5.without D).H D o' = upd S5.H D o' := fun g5 w5 => Go.unhid w2 hD2 (fun ps z => by cases z) (fun φ z => by cases z) (g3.trans g5) w5
            cases zt : evTs P C q tests r3 S2.M with
            | no => rw [zt] at p2; exact False.elim p2
            | ex c ds M => rw [zt] at p2; exact False.elim p2
            | ok b M3 =>
              rw [zt] at p2
              intro S5 b' g5 w5 e5 eb
              subst eb
              cases b with
              | false =>
                obtain ⟨k1, k2, k3, k4⟩ := back g5 w5
                refine ⟨S5.without D, acc, va, ?_, if_pos rfl, g2.trans k2, k3, RepVs.go k2 k3 ra, ?_⟩
                · rw [k4]
                  funext a
                  by_cases z : a = D
                  · rw [z, upd_same]; exact k1
                  · rw [upd_ne z]
                · have e5' : (S5.without D).M = M3 := e5
                  rw [e5']
                  exact Post.from k2 p2
              | true =>
                refine ⟨S5, r3, rfl, w5, er4.go g5 w5, ?_⟩
                rw [e5]
                have p2 : Post T X.pn ((match (ev P C q ie r3 M3).bind fun v M4 => R.ok (some v) M4 with
                  | .ok (some v) M' => if acc.length < lim && plainV v then cloop rd (bodyC P C q is tests ie r) m (i + 1) (acc ++ [v]) M' else .no
                  | .ok none M' => cloop rd (bodyC P C q is tests ie r) m (i + 1) acc M'
                  | .ex _ _ _ => .no
                  | .no => .no).bind fun xs M5 => newL mt xs M5) S2 Q (atW W σ) := p2
                cases ze : ev P C q ie r3 M3 with
                | no => rw [ze] at p2; exact False.elim p2
                | ex c ds M => rw [ze] at p2; exact False.elim p2
                | ok v M4 =>
                  rw [ze] at p2
                  intro S6 y g6 w6 e6 r6
                  obtain ⟨k1, k2, k3, k4⟩ := back (g5.trans g6) w6
                  have p2 : Post T X.pn ((if (acc.length < lim && plainV v) = true then cloop rd (bodyC P C q is tests ie r) m (i + 1) (acc ++ [v]) M4 else .no).bind fun xs M5 => newL mt xs M5) S2 Q (atW W σ) := p2
                  by_cases hlp : (acc.length < lim && plainV v) = true
                  · rw [if_pos hlp] at p2
                    rw [Bool.and_eq_true] at hlp
                    have hla : va.length = acc.length := RepVs.length ra
                    refine ⟨va, k1, by rw [hla, ← lim_eq]; exact of_decide_eq_true hlp.1, S6.without D, acc ++ [v], va ++ [y], (k4 _).symm, if_pos rfl, g2.trans k2, k3, ?_, ?_⟩
                    · refine RepVs.append (RepVs.go k2 k3 ra) ⟨y, [], rfl, ?_, rfl⟩
                      have r6' := RepV.plain hlp.2 r6
                      cases v with
                      | d x => exact r6'
                      | ref n => exact r6'
                      | exn c ds => cases hlp.2
                      | lam => cases hlp.2
                    · have e6' : (S6.without D).M = M4 := e6
                      rw [e6']
                      exact Post.from k2 p2
                  · rw [if_neg hlp] at p2
                    exact False.elim p2
theorem se_cp (hK : X.K = T.K) (hc : X.calm = true) {elt tg iter : Expr} {ifs : List Expr} {scope : Scope} {own : List (Str × Nat)} {pos : Pos} {it : It} {is : List Nat} {tests : Tes} {ie : E} {mt : Bool} (hN : X.N.Nodup) (ho : own.map (·.2) = is) (hi : PI X tg iter (tI T P C q X.pn W it (is.length != 1))) (ok : BlkOk X.N X.env.scope scope own)
    (hg : ∀ (s : Shared) (H : Hp) (D : Addr) (cl : List (Str × Addr)) (fp : List Addr), PG (X.blk s H scope (compEnvC scope cl D X.env) fp) tg (gTg X.K is (is.length != 1)))
    (ht : ∀ (s : Shared) (H : Hp) (D : Addr) (cl : List (Str × Addr)) (fp : List Addr), PTs (X.blk s H scope (compEnvC scope cl D X.env) fp) ifs (tTs T P C q [] W0 tests))
    (he : ∀ (s : Shared) (H : Hp) (D : Addr) (cl : List (Str × Addr)) (fp : List Addr), PE (X.blk s H scope (compEnvC scope cl D X.env) fp) elt (tE T P C q [] W0 ie)) (hs : ∀ x, foldedSetIterable iter X.env x = pure x := by intro _; rfl) :
    PE X (.ListComp elt [⟨tg, iter, ifs, 0⟩] scope pos) (tE T P C q X.pn W (.cp mt it is tests ie)) :=
  PE_imp (pe_lc hc hN hi ok hg ht he hs) fun σ H Q h => cp_imp hK ho h
/-- x = [..], the new name stored within the block's end -/
theorem ss_asgC (hK : X.K = T.K) (hc : X.calm = true) {i : Nat} {y : Str} {py : Pos} {elt tg iter : Expr} {ifs : List Expr} {scope : Scope} {own : List (Str × Nat)} {pos spos : Pos} {it : It} {is : List Nat} {tests : Tes} {ie : E} {mt : Bool} (hN : X.N.Nodup) (ho : own.map (·.2) = is) (hi : PI X tg iter (tI T P C q X.pn W it (is.length != 1))) (ok : BlkOk X.N X.env.scope scope own)
    (hy : X.N[i]? = some y) (hyl : X.env.scope.names.lookup y = some .local) (hsw : swapsWith (.ListComp elt [⟨tg, iter, ifs, 0⟩] scope pos) (some (.Name y py)) spos.line X.env = pure true)
    (hg : ∀ (s : Shared) (H : Hp) (D : Addr) (cl : List (Str × Addr)) (fp : List Addr), PG (X.blk s H scope (compEnvC scope cl D X.env) fp) tg (gTg X.K is (is.length != 1)))
    (ht : ∀ (s : Shared) (H : Hp) (D : Addr) (cl : List (Str × Addr)) (fp : List Addr), PTs (X.blk s H scope (compEnvC scope cl D X.env) fp) ifs (tTs T P C q [] W0 tests))
    (he : ∀ (s : Shared) (H : Hp) (D : Addr) (cl : List (Str × Addr)) (fp : List Addr), PE (X.blk s H scope (compEnvC scope cl D X.env) fp) elt (tE T P C q [] W0 ie)) (hs : ∀ x, foldedSetIterable iter X.env x = pure x := by intro _; rfl) :
    PS X (.Assign [.Name y py] (.ListComp elt [⟨tg, iter, ifs, 0⟩] scope pos) spos) (tS T P C q X.pn W (.asg i (.cp mt it is tests ie))) :=
  PS_imp (ps_setLc hc hN hy hyl hsw hi ok hg ht he hs) fun D σ H h => by
    obtain ⟨S, r, rfl, w, er, p⟩ := h
    simp only [exS] at p
    refine cp_imp hK ho ⟨S, r, rfl, w, er, Post.toA.mpr ((st_then (R1 := RepV T X.pn) er p).mono fun y H ⟨S1, v, e1, g, w1, r1, p1⟩ => ?_)⟩
    subst e1
    exact nx_ok w1 ((er.go g w1).set r1) p1
end
end BV

set_option Elab.async false
set_option maxRecDepth 100000
set_option maxHeartbeats 4000000
/-! BV22: the operators of a place, together. -/
namespace BV
open PySem PySem.Spec PyProof.Rows
open L2 hiding St It

/-- the model's function of an operator -/
abbrev k2Fn : K2 → Value → Value → Sem Value
  | .add => binaryOp .Add | .addm => binaryOp .Add | .sub => binaryOp .Sub | .mul => binaryOp .Mult | .mulm => binaryOp .Mult
  | .fdiv => binaryOp .FloorDiv | .mod => binaryOp .Mod | .pow => binaryOp .Pow | .band => binaryOp .BitAnd | .bor => binaryOp .BitOr
  | .eq => compareOp .Eq | .ne => compareOp .NotEq | .lt => compareOp .Lt | .le => compareOp .LtE | .gt => compareOp .Gt | .ge => compareOp .GtE
  | .isn => compareOp .Is | .notn => compareOp .IsNot | .isb => compareOp .Is | .notb => compareOp .IsNot | .inn => compareOp .In | .nin => compareOp .NotIn | .get => fun _ _ => pure .none

section
variable {X : Cx} {T : Ad} {P : Pg} {C : Caller} {q : Asker} {W : WX} {k : Nat} {pn : List (Addr × Obj)}

/-- no class of the text has the operator -/
def NoOwn (P : Pg) (k : K2) : Prop :=
  match k with
  | .ne => True
  | k => ∀ c, P.meth c k.dn = none
theorem ownOp_no {k2 : K2} (h : NoOwn P k2) (a b : Val) (M : Store) : ownOp P C k2 a b M = .no := by
  have hm : ∀ (v : Val) m, (∀ c, P.meth c m = none) → methOf P M v m = none := fun v m hh => by
    simp only [methOf]
    split
    · exact hh _
    · rfl
  have hl : ∀ (k3 : K2) m, (∀ c, P.meth c m = none) → ownL P C k3 m a b M = .no := fun k3 m hh => by
    unfold ownL
    split
    · rw [hh]
    · rfl
  cases k2 <;> simp only [ownOp] <;> first | done | (rw [hm _ 13 h]) | (rw [hm _ 14 h]) | (rw [hl _ _ h])
theorem ops_f2 {k2 : K2} {f : Value → Value → Sem Value} (hg : k2 ≠ .get) (h : NoOwn P k2) (hd : OpS X T W (datF k2) f) : OpS X T W (f2 P C k2) f := by
  intro pins s σ S a b x y v u Q I w rx ry r1 r2 p
  unfold f2 at p
  split at p
  · rw [ownOp_no h] at p
    exact False.elim p
  · refine hd pins s σ S a b x y v u Q I w rx ry r1 r2 ?_
    cases k2 <;> first | exact absurd rfl hg | exact p
theorem ix_f2 (c : Cok X T C k W) (g : Prg T P) : IxS X T W (f2 P C .get) := by
  intro value slice pins s σ S a b x y v u Q I w rx ry r1 r2 p hs hs2
  have hK := c.K
  unfold f2 at p
  split at p
  · simp only [ownOp] at p
    split at p <;> try exact False.elim p
    rename_i f hm
    simp only [methOf] at hm
    split at hm <;> try cases hm
    rename_i cn vs hi
    have hmeth : P.meth cn 14 = some f := hm
    obtain ⟨ad, dx, ws, ex, hx, rws, hlen⟩ := RepV.ins w hi r1
    subst ex
    cases rx
    obtain ⟨hfz, Mt, hq, hn⟩ := g.meth _ _ _ hmeth
    have hgi := g.gi _ _ hmeth
    rw [← hK] at Mt hgi
    obtain ⟨mA, J, _⟩ := ins_get I.hok hx
    obtain ⟨od, J, _⟩ := J.look
    obtain ⟨m, hF⟩ := I.fr
    have pl := c.rf f [a, b] S.M
    rcases pl with pl | pl
    · have ra : RepVs T [] S [a, b] [V.ref ad, y] := by
        have pa : plainV a = true ∧ plainV b = true := by simpa [List.all_cons] using pl
        exact ⟨_, _, rfl, RepV.plain pa.1 r1, _, _, rfl, RepV.plain pa.2 r2, rfl⟩
      exact PySem.W.sub_K hF I.ok.mod.kin J Mt.at_ hgi Mt.fn (run_bv (us := [.ref ad, u]) c.tk c.calls (Room.in1 c.room) (.inl hq) I.env0.in1 I w ra (.cons rfl (.cons ry .nil)) (Post.nil p)) hs2
    · rw [pl] at p
      exact False.elim p
  · exact ixs_get hK value slice pins s σ S a b x y v u Q I w rx ry r1 r2 p hs hs2
theorem cmpBack {pins : List (Addr × Obj)} {σ : L2.St} {Q : VK} {v : Value} {s' : Shared} (h : EP X pins σ Q v s') : PySem.W.CmpBack (EP X pins σ Q) v s' := by
  cases v <;> first
    | exact h
    | (obtain ⟨x, H', I, r, q⟩ := h; cases x <;> simp [L2.RelV] at r)
/-- the type of a flat datum -/
theorem flat_ty {M : PySem.Model} {h : Heap} {F : Hp} {b : D} {y : V} {u : Value} (hf : flatD b = true) (r : RepD T F b y) (ry : L2.RelV y u) : ∃ n ∈ ["NoneType", "bool", "int", "str", "list", "tuple", "dict"], typeOf u = pure (.type n) := by
  cases b with
  | non =>
    simp only [RepD] at r
    subst r
    cases ry
    exact ⟨"NoneType", by simp, rfl⟩
  | bl b =>
    simp only [RepD] at r
    subst r
    cases ry
    exact ⟨"bool", by simp, rfl⟩
  | int i =>
    simp only [RepD] at r
    subst r
    obtain ⟨t, rfl⟩ := ry
    exact ⟨"int", by simp, rfl⟩
  | str x =>
    simp only [RepD] at r
    subst r
    obtain ⟨t, rfl⟩ := ry
    exact ⟨"str", by simp, rfl⟩
  | _ => cases hf
theorem looks_of {M : PySem.Model} {s : Shared} {u : Value} {n : String} (h : s.TypeIs u n) : PySem.W.Looks M s.heap (typeOf u) (.type n) := by
  cases u <;> first
    | exact PySem.W.Looks.of_pure h
    | (obtain ⟨o, ho, hc⟩ := h; exact fun A Q E s' k q => wpAny_typeOf_ref (k _ _ ho) (hc ▸ q))
/-- the side of an own comparison -/
theorem argT {c : Nat} {k2 : K2} {b : Val} {pins : List (Addr × Obj)} {s : Shared} {σ : L2.St} {S : S8} {y : V} {u : Value} (I : L2.Inv X pins σ S.H s) (w : Wf T S) (o : OwnF T P c) (hK : X.K = T.K) (h : argK P k2 c b = true) (r : RepV T X.pn S b y) (ry : L2.RelV y u) :
    ∃ tb, PySem.W.Looks (model X.prog X.w) s.heap (typeOf u) tb ∧ PySem.W.notFirst X.K (T.ca c) tb = true ∧ (tb = .ref (T.ca c) ∨ (∃ n ∈ ["NoneType", "bool", "int", "str", "list", "tuple", "dict"], tb = .type n ∧ typeOf u = pure (.type n)) ∨ k2.isCmp = true) := by
  have fl : ∀ (d : D), b = .d d → flatD d = true → ∃ tb, PySem.W.Looks (model X.prog X.w) s.heap (typeOf u) tb ∧ PySem.W.notFirst X.K (T.ca c) tb = true ∧ (tb = .ref (T.ca c) ∨ (∃ n ∈ ["NoneType", "bool", "int", "str", "list", "tuple", "dict"], tb = .type n ∧ typeOf u = pure (.type n)) ∨ k2.isCmp = true) := by
    intro d e hf
    subst e
    obtain ⟨n, hn, e⟩ := flat_ty (T := T) (M := model X.prog X.w) (h := s.heap) hf (show RepD T S.F d y from r) ry
    refine ⟨.type n, PySem.W.Looks.of_pure e, ?_, .inr (.inl ⟨n, hn, rfl, e⟩)⟩
    unfold PySem.W.notFirst
    rw [hK, o.sub n hn]
    simp
  have big : ∀ n ∈ ["NoneType", "bool", "int", "str", "list", "tuple", "dict"], s.TypeIs u n → k2.isCmp = true → ∃ tb, PySem.W.Looks (model X.prog X.w) s.heap (typeOf u) tb ∧ PySem.W.notFirst X.K (T.ca c) tb = true ∧ (tb = .ref (T.ca c) ∨ (∃ n ∈ ["NoneType", "bool", "int", "str", "list", "tuple", "dict"], tb = .type n ∧ typeOf u = pure (.type n)) ∨ k2.isCmp = true) := by
    intro n hn ht hk
    refine ⟨.type n, looks_of ht, ?_, .inr (.inr hk)⟩
    unfold PySem.W.notFirst
    rw [hK, o.sub n hn]
    simp
  cases b with
  | d d =>
    cases d with
    | non => exact fl _ rfl rfl
    | bl => exact fl _ rfl rfl
    | int => exact fl _ rfl rfl
    | str => exact fl _ rfl rfl
    | tup l =>
      obtain ⟨a, xs, ex, hx, _⟩ := rl_tup (T := T) (F := S.F) r
      subst ex
      exact big "tuple" (by simp) (L2.TyB.is I ry (.tup (hK ▸ sqT_mono w.fh hx))) h
    | lst l =>
      obtain ⟨a, xs, ex, hx, _⟩ := rl_lst (T := T) (F := S.F) r
      subst ex
      exact big "list" (by simp) (L2.TyB.is I ry (.lst (L2.SqL.of (w.fh _ _ hx)))) h
    | dic ks vs =>
      obtain ⟨a, kvs, ex, hx, _⟩ := (show ∃ (a : Addr) (kvs : List (Key × V)), y = .ref a ∧ S.F a = some (.dK kvs) ∧ _ by simpa only [RepV, RepD] using r)
      subst ex
      exact big "dict" (by simp) (L2.TyB.is I ry (.dK (w.fh _ _ hx))) h
    | ins c' ds =>
      obtain ⟨ad, dx, ws, ex, hx, rws, hlen⟩ := RepV.ins w (show insOf S.M (.d (.ins c' ds)) = some (c', ds.map Val.d) from rfl) r
      subst ex
      cases ry
      obtain ⟨mA, J, _⟩ := ins_get I.hok hx
      obtain ⟨od, J, _⟩ := J.look
      refine ⟨.ref (T.ca c'), J.type, ?_, ?_⟩
      · simp only [argK] at h
        split at h
        · rw [hK]
          exact o.subo c' h
        · rw [eq_of_beq h]
          unfold PySem.W.notFirst
          simp
      · simp only [argK] at h
        split at h
        · rename_i z
          exact .inr (.inr z)
        · rw [eq_of_beq h]
          exact .inl rfl
    | _ => cases h
  | _ => cases h
theorem cmp_own (c : Cok X T C k W) (g : Prg T P) (hu : X.A.units < cLine) {k2 : K2} {op : CmpOp} (hn : T.nm k2.dn = (cmpInfo op).2.1) (hd : 1 ≤ k2.dn ∧ k2.dn ≤ 12) {pins : List (Addr × Obj)} {s : Shared} {σ : L2.St} {S : S8} {a b : Val} {x y : V} {v u : Value} {Q : VK}
    (I : L2.Inv X pins σ S.H s) (w : Wf T S) (rx : L2.RelV x v) (ry : L2.RelV y u) (r1 : RepV T X.pn S a x) (r2 : RepV T X.pn S b y) (p : Post T X.pn (ownL P C k2 k2.dn a b S.M) S Q (atW W σ)) :
    wpAny (model X.prog X.w) X.A (richCompare op v u) (EP X pins σ Q) X.xe s := by
  have hK := c.K
  unfold ownL at p
  split at p <;> try exact False.elim p
  rename_i cn vs hi
  split at p <;> try exact False.elim p
  rename_i f hmeth
  split at p <;> try exact False.elim p
  rename_i hab
  obtain ⟨ad, dx, ws, ex, hx, rws, hlen⟩ := RepV.ins w hi r1
  subst ex
  cases rx
  obtain ⟨hfz, Mt, hq, _⟩ := g.meth _ _ _ hmeth
  have ow := g.own _ _ _ hmeth hd.1 hd.2
  rw [← hK, hn] at Mt
  obtain ⟨mA, J, _⟩ := ins_get I.hok hx
  obtain ⟨od, J, _⟩ := J.look
  obtain ⟨m, hF⟩ := I.fr
  obtain ⟨tb, hb, hnf, _⟩ := argT I w ow hK hab r2 ry
  rcases c.rf f [a, b] S.M with pl | pl
  · have ra : RepVs T [] S [a, b] [V.ref ad, y] := by
      have pa : plainV a = true ∧ plainV b = true := by simpa [List.all_cons] using pl
      exact ⟨_, _, rfl, RepV.plain pa.1 r1, _, _, rfl, RepV.plain pa.2 r2, rfl⟩
    exact PySem.W.cmp_K hu hF I.ok.mod.kin J hb hnf Mt.at_ Mt.fn (wpAny_mono (run_bv (us := [.ref ad, u]) c.tk c.calls (c.room.mono (by omega)) (.inl hq) I.env0 I w ra (.cons rfl (.cons ry .nil)) (Post.nil p)) (fun _ _ z => cmpBack z) fun _ _ z => z)
  · rw [pl] at p
    exact False.elim p
theorem bin_own (c : Cok X T C k W) (g : Prg T P) {k2 : K2} {op : Operator} (ho : op ∈ binL) (hc : k2.isCmp = false) (hn : T.nm k2.dn = PySem.dunder op.info.2) (hd : 1 ≤ k2.dn ∧ k2.dn ≤ 12) {pins : List (Addr × Obj)} {s : Shared} {σ : L2.St} {S : S8} {a b : Val} {x y : V} {v u : Value} {Q : VK}
    (I : L2.Inv X pins σ S.H s) (w : Wf T S) (rx : L2.RelV x v) (ry : L2.RelV y u) (r1 : RepV T X.pn S a x) (r2 : RepV T X.pn S b y) (p : Post T X.pn (ownL P C k2 k2.dn a b S.M) S Q (atW W σ)) :
    wpAny (model X.prog X.w) X.A (binaryOp op v u) (EP X pins σ Q) X.xe s := by
  have hK := c.K
  unfold ownL at p
  split at p <;> try exact False.elim p
  rename_i cn vs hi
  split at p <;> try exact False.elim p
  rename_i f hmeth
  split at p <;> try exact False.elim p
  rename_i hab
  obtain ⟨ad, dx, ws, ex, hx, rws, hlen⟩ := RepV.ins w hi r1
  subst ex
  cases rx
  obtain ⟨hfz, Mt, hq, _⟩ := g.meth _ _ _ hmeth
  have ow := g.own _ _ _ hmeth hd.1 hd.2
  rw [← hK, hn] at Mt
  obtain ⟨mA, J, _⟩ := ins_get I.hok hx
  obtain ⟨od, J, _⟩ := J.look
  obtain ⟨m, hF⟩ := I.fr
  obtain ⟨tb, hb, hnf, hty⟩ := argT I w ow hK hab r2 ry
  have fst := ow.first
  obtain ⟨⟨rc, q1, q2⟩, ⟨fo, q3⟩, ⟨ro, q4⟩⟩ := ow.bin op ho
  have hs := ow.sub "int" (by simp)
  rw [← hK] at fst q1 q3 q4 hs
  rcases c.rf f [a, b] S.M with pl | pl
  · have ra : RepVs T [] S [a, b] [V.ref ad, y] := by
      have pa : plainV a = true ∧ plainV b = true := by simpa [List.all_cons] using pl
      exact ⟨_, _, rfl, RepV.plain pa.1 r1, _, _, rfl, RepV.plain pa.2 r2, rfl⟩
    have run := wpAny_mono (run_bv (us := [.ref ad, u]) c.tk c.calls (c.room.mono (by omega)) (.inl hq) I.env0 I w ra (.cons rfl (.cons ry .nil)) (Post.nil p)) (fun _ _ z => cmpBack z) fun _ _ z => z
    rcases hty with e | ⟨n, hn', e, et⟩ | e
    · subst e
      exact PySem.W.binop_K hF I.ok.mod.kin J hb fst Mt.at_ Mt.fn run
    · cases b with
      | d d =>
        cases d with
        | int i =>
          have et' : typeOf u = pure (.type "int") := by
            have r2' : RepD T S.F (.int i) y := r2
            simp only [RepD] at r2'
            subst r2'
            obtain ⟨t, rfl⟩ := ry
            rfl
          exact PySem.W.ksp_binT hF I.ok.mod.kin J et' fst Mt.at_ Mt.fn q1 q2 q3 q4 hs run
        | ins c' ds =>
          obtain ⟨ad', dx', ws', ex', hx', _, _⟩ := RepV.ins w (show insOf S.M (.d (.ins c' ds)) = some (c', ds.map Val.d) from rfl) r2
          subst ex'
          cases ry
          obtain ⟨mA', J', _⟩ := ins_get I.hok hx'
          obtain ⟨od', J', _⟩ := J'.look
          simp only [argK, hc, Bool.false_eq_true, if_false] at hab
          have ec := eq_of_beq hab
          subst ec
          exact PySem.W.binop_K hF I.ok.mod.kin J J'.type fst Mt.at_ Mt.fn run
        | non => simp only [argK, hc] at hab; cases hab
        | bl => simp only [argK, hc] at hab; cases hab
        | str => simp only [argK, hc] at hab; cases hab
        | tup => simp only [argK, hc] at hab; cases hab
        | lst => simp only [argK, hc] at hab; cases hab
        | dic => simp only [argK, hc] at hab; cases hab
        | _ => cases hab
      | _ => cases hab
    · rw [hc] at e
      cases e
  · rw [pl] at p
    exact False.elim p
/-- own operators that are covered -/
def ownK : K2 → Bool
  | .add => true | .addm => true | .sub => true | .mul => true | .mulm => true | .fdiv => true | .mod => true | .band => true | .bor => true
  | .eq => true | .lt => true | .le => true | .gt => true | .ge => true
  | _ => false
theorem nm_dn (i : Nat) (h : i < 30) : T.nm i = dunNm i := if_pos h
theorem dat_no {k2 : K2} (h : k2 = .band ∨ k2 = .bor) {f : Value → Value → Sem Value} : OpS X T W (datF k2) f := by
  intro pins s σ S a b x y v u Q I w rx ry r1 r2 p
  have z : datF k2 a b S.M = .no := by
    unfold datF
    rcases h with rfl | rfl <;> (split <;> rfl)
  rw [z] at p
  exact False.elim p
theorem ops_own (c : Cok X T C k W) (g : Prg T P) (hu : X.A.units < cLine) {k2 : K2} (h : ownK k2 = true) (hd : OpS X T W (datF k2) (k2Fn k2)) : OpS X T W (f2 P C k2) (k2Fn k2) := by
  intro pins s σ S a b x y v u Q I w rx ry r1 r2 p
  unfold f2 at p
  split at p
  · cases k2 <;> try cases h
    all_goals (simp only [ownOp] at p)
    · exact bin_own c g (k2 := .add) (op := .Add) (by decide) rfl ((nm_dn _ (by decide)).trans (by decide)) (by decide) I w rx ry r1 r2 p
    · exact bin_own c g (k2 := .addm) (op := .Add) (by decide) rfl ((nm_dn _ (by decide)).trans (by decide)) (by decide) I w rx ry r1 r2 p
    · exact bin_own c g (k2 := .sub) (op := .Sub) (by decide) rfl ((nm_dn _ (by decide)).trans (by decide)) (by decide) I w rx ry r1 r2 p
    · exact bin_own c g (k2 := .mul) (op := .Mult) (by decide) rfl ((nm_dn _ (by decide)).trans (by decide)) (by decide) I w rx ry r1 r2 p
    · exact bin_own c g (k2 := .mulm) (op := .Mult) (by decide) rfl ((nm_dn _ (by decide)).trans (by decide)) (by decide) I w rx ry r1 r2 p
    · exact bin_own c g (k2 := .fdiv) (op := .FloorDiv) (by decide) rfl ((nm_dn _ (by decide)).trans (by decide)) (by decide) I w rx ry r1 r2 p
    · exact bin_own c g (k2 := .mod) (op := .Mod) (by decide) rfl ((nm_dn _ (by decide)).trans (by decide)) (by decide) I w rx ry r1 r2 p
    · exact bin_own c g (k2 := .band) (op := .BitAnd) (by decide) rfl ((nm_dn _ (by decide)).trans (by decide)) (by decide) I w rx ry r1 r2 p
    · exact bin_own c g (k2 := .bor) (op := .BitOr) (by decide) rfl ((nm_dn _ (by decide)).trans (by decide)) (by decide) I w rx ry r1 r2 p
    · exact cmp_own c g hu (k2 := .eq) (op := .Eq) (nm_dn _ (by decide)) (by decide) I w rx ry r1 r2 p
    · exact cmp_own c g hu (k2 := .lt) (op := .Lt) (nm_dn _ (by decide)) (by decide) I w rx ry r1 r2 p
    · exact cmp_own c g hu (k2 := .le) (op := .LtE) (nm_dn _ (by decide)) (by decide) I w rx ry r1 r2 p
    · exact cmp_own c g hu (k2 := .gt) (op := .Gt) (nm_dn _ (by decide)) (by decide) I w rx ry r1 r2 p
    · exact cmp_own c g hu (k2 := .ge) (op := .GtE) (nm_dn _ (by decide)) (by decide) I w rx ry r1 r2 p
  · refine hd pins s σ S a b x y v u Q I w rx ry r1 r2 ?_
    cases k2 <;> first | (cases h; done) | exact p
theorem ds_isb : OpS X T W (datF .isb) (compareOp .Is) := dat_of L2.op_isBl fun σ S a b x y Q w r1 r2 p => by
  have p' : Post T X.pn (datIsB false a b S.M) S Q (atW W σ) := p
  unfold datIsB at p'
  split at p' <;> try exact False.elim p'
  rename_i u v
  exact ⟨u, v, rt_bl r1, rt_bl r2, by simpa using post_d w p' rp_bl⟩
theorem ds_notb : OpS X T W (datF .notb) (compareOp .IsNot) := dat_of L2.op_notBl fun σ S a b x y Q w r1 r2 p => by
  have p' : Post T X.pn (datIsB true a b S.M) S Q (atW W σ) := p
  unfold datIsB at p'
  split at p' <;> try exact False.elim p'
  rename_i u v
  exact ⟨u, v, rt_bl r1, rt_bl r2, by simpa using post_d w p' rp_bl⟩
/-- all operators but own ones -/
theorem ops_dat (hK : X.K = T.K) (hr : Room (k + 1) X.A) : ∀ k2 : K2, k2 ≠ .get → k2 ≠ .band → k2 ≠ .bor → OpS X T W (datF k2) (k2Fn k2)
  | .add, _, _, _ => ds_add (mt := false) fun _ _ _ => rfl
  | .addm, _, _, _ => ds_add (mt := true) fun _ _ _ => rfl
  | .sub, _, _, _ => ds_sub
  | .mul, _, _, _ => ds_mul (mt := false) fun _ _ _ => rfl
  | .mulm, _, _, _ => ds_mul (mt := true) fun _ _ _ => rfl
  | .fdiv, _, _, _ => ds_fdiv
  | .mod, _, _, _ => ds_mod
  | .pow, _, _, _ => ds_pow
  | .eq, _, _, _ => ds_eq hK hr
  | .ne, _, _, _ => ds_ne hK hr
  | .lt, _, _, _ => ds_lt
  | .le, _, _, _ => ds_le
  | .gt, _, _, _ => ds_gt
  | .ge, _, _, _ => ds_ge
  | .isn, _, _, _ => ds_isn
  | .notn, _, _, _ => ds_notn
  | .isb, _, _, _ => ds_isb
  | .notb, _, _, _ => ds_notb
  | .inn, _, _, _ => ds_in hK
  | .nin, _, _, _ => ds_nin hK
  | .get, h, _, _ => absurd rfl h
  | .band, _, h, _ => absurd rfl h
  | .bor, _, _, h => absurd rfl h
end
end BV

set_option Elab.async false
set_option maxRecDepth 100000
set_option maxHeartbeats 4000000
/-! BV23: try with clauses, some of them with a name. -/
namespace BV
open PySem PySem.Spec PyProof.Rows
open L2 hiding St It

/-- a clause: the class, the name's slot, the suite's reading -/
structure Cl where
  c : Value
  i : Option Nat
  ts : Addr → Value → Option Addr → TS
def endsOff (i : Option Nat) (D : Ends) : Ends := match i with
  | none => D
  | some i => { nx := fun σ' H' => D.nx (σ'.set i none) H', rt := D.rt, bk := fun σ' H' => D.bk (σ'.set i none) H', ct := fun σ' H' => D.ct (σ'.set i none) H' }
def slotOn (i : Option Nat) (a : Addr) (σ : L2.St) : L2.St := match i with
  | none => σ
  | some i => σ.set i (some (.ref a))
/-- what the clauses want of an error of the body -/
def wMix (K : PySem.W.Frag) (Wo : WX) (D : Ends) : List Cl → WX
  | [] => Wo
  | k :: r => fun cls d σ H => ∃ b, PySem.W.exmOne K cls k.c = some b ∧ (b = true → ∀ a, H a = none → k.ts a cls d (endsOff k.i D) (slotOn k.i a σ) H) ∧ (b = false → wMix K Wo D r cls d σ H)
/-- the clauses, suite by suite -/
inductive ClsOk (X : Cx) : List ExceptHandler → List Cl → Prop
  | nil : ClsOk X [] []
  | plain {x : Str} {k : Cl} {st : Stmt} {sts : List Stmt} {p1 p2 : Pos} {hds : List ExceptHandler} {l : List Cl} (hn : Names X x k.c) (hi : k.i = none)
      (hs : ∀ (a : Addr) (oe : Obj) (cls : Value) (d : Option Addr) (pn : List (Addr × Obj)), Zc cls d oe → (∃ vs, oe.data = .fields vs) → PSs (X.suite a ((a, oe) :: pn)) (st :: sts) (k.ts a cls d)) (r : ClsOk X hds l) : ClsOk X (.ExceptHandler (some (.Name x p1)) none (st :: sts) p2 :: hds) (k :: l)
  | named {x n : Str} {i : Nat} {k : Cl} {st : Stmt} {sts : List Stmt} {p1 p2 : Pos} {hds : List ExceptHandler} {l : List Cl} (hn : Names X x k.c) (hi : k.i = some i) (hN : X.N[i]? = some n) (hl : X.env.kindOf n = some .local)
      (hs : ∀ (a : Addr) (oe : Obj) (cls : Value) (d : Option Addr) (pn : List (Addr × Obj)), Zc cls d oe → (∃ vs, oe.data = .fields vs) → PSs (X.suite a ((a, oe) :: pn)) (st :: sts) (k.ts a cls d)) (r : ClsOk X hds l) : ClsOk X (.ExceptHandler (some (.Name x p1)) (some n) (st :: sts) p2 :: hds) (k :: l)

section
variable {X : Cx} {T : Ad} {P : Pg} {C : Caller} {q : Asker} {W : WX} {k : Nat}
theorem try_mix (hst : X.stack = X.env :: X.outer) (hfr : X.env.frame = some X.env.locals) (nd : X.N.Nodup) {Wo : WX} (tk : Takes X Wo) {body : List Stmt} {h0 : ExceptHandler} {hds : List ExceptHandler} {l : List Cl} {pos : Pos} {tb : WX → TS}
    (hbody : ∀ (V : WX) (pn : List (Addr × Obj)) (xe : Value → Shared → Prop), Takes (X.tr pn xe) V → PassesOwn (model X.prog X.w) X.A X.env xe → PSs (X.tr pn xe) body (tb V)) (hcl : ClsOk X (h0 :: hds) l) :
    PS X (.Try body (h0 :: hds) [] [] pos) (fun D σ H => tb (wMix X.K Wo D l) D σ H) := by
  refine ⟨fun pins s σ H D I hq => ?_⟩
  have okX := I.ok
  have frA : X.A.frames = some (X.env :: X.outer) := okX.frames.trans (by rw [hst])
  refine wpAny_Try_except ?_
  have runB := (hbody (wMix X.K Wo D l) (X.pn ++ pins) (fun e t => wpAny (model X.prog X.w) X.A (noteFrame e X.env) (fun _ t2 => wpAny (model X.prog X.w) X.A (setFlight e none) (fun _ t3 =>
    wpAny (model X.prog X.w) X.A (handleBy e X.env (h0 :: hds)) (SP X pins D) X.xe t3) X.xe t2) X.xe t) (fun u s1 ⟨a, B, sI, p1, σ1, H1, cls, d, eu, J0, nb, up, sky, na, os, bg, wm⟩ => ?_) PassesOwn.looking).run [] s σ H D (I.toTry _) hq
  · refine wpAny_mono runB (fun f s1 hf => ?_) (fun _ _ z => z)
    cases f with
    | next => exact wpAny_execs_nil (let ⟨σ1, H1, J, z⟩ := hf; ⟨σ1, H1, J.ofTry okX, z⟩)
    | brk => exact (let ⟨σ1, H1, J, z⟩ := hf; ⟨σ1, H1, J.ofTry okX, z⟩)
    | cont => exact (let ⟨σ1, H1, J, z⟩ := hf; ⟨σ1, H1, J.ofTry okX, z⟩)
    | ret u => exact (let ⟨v, σ1, H1, J, rv, z⟩ := hf; ⟨v, σ1, H1, J.ofTry okX, rv, z⟩)
  · subst eu
    have J : Inv X pins σ1 H1 sI := J0.ofTry okX
    have sky1 : Sky B (X.env :: X.outer) a (Zc cls d) X.env.locals s1.heap := hst ▸ sky
    refine Sky.land Zc.steady frA hfr sky1 fun g3 fly upg => ?_
    have K3 : Inv X pins σ1 H1 { s1 with heap := g3 } := J.landed nb fly.1 (up.trans upg) os bg
    obtain ⟨ob, fs, hob, hz, hdat⟩ := fly.there
    have notF : a ∉ frs (X.env :: X.outer) := fun hm => by
      obtain ⟨_, o2, e2, hnf⟩ := fly.2.2.1.mem hm
      rw [hob] at e2
      cases e2
      exact hnf _ hdat
    have aL : a ≠ X.env.locals := fun z => notF (List.mem_filterMap.mpr ⟨X.env, List.mem_cons_self, by rw [hfr, z]⟩)
    have aF : a ∉ X.fs := fun hm => by
      obtain ⟨e, he, z⟩ := List.mem_filterMap.mp hm
      exact notF (List.mem_filterMap.mpr ⟨e, List.mem_cons_of_mem _ he, z⟩)
    have S3 := K3.suite hob hdat na aL aF
    have typ : PySem.W.Looks (model X.prog X.w) g3 (typeOf (.ref a)) cls := fun A Q E t kp z => wpAny_typeOf_ref (kp _ _ hob) (by rw [hz.1]; exact z)
    have named : ∀ {x : Str} {c : Value} {np : Pos} {Q : Value → Shared → Prop} {E : Value → Shared → Prop}, Names X x c → Q c { s1 with heap := g3 } → wpAny (model X.prog X.w) (X.A.mark (some (.ref a))) (eval (.Name x np) X.env) Q E { s1 with heap := g3 } := fun hn z => by
      obtain ⟨hg, hdb, hm | ⟨hm, hv, hnn⟩⟩ := hn
      · exact ld_glob (X := X.suite a ((a, ob) :: (X.pn ++ pins))) S3 hg hm z hdb
      · exact ld_blt (X := X.suite a ((a, ob) :: (X.pn ++ pins))) S3 hg hm hv z hnn hdb
    have main : ∀ {hs' : List ExceptHandler} {l' : List Cl}, ClsOk X hs' l' → wMix X.K Wo D l' cls d σ1 H1 → wpAny (model X.prog X.w) X.A (handleBy (.ref a) X.env hs') (SP X pins D) X.xe { s1 with heap := g3 } := by
      intro hs' l' hk
      induction hk with
      | nil =>
        intro wo
        refine wpAny_handleBy_nil ?_
        obtain ⟨y1, y2, y3, oe, vs, tb0, oT, ts0, he, hz', hd, h1, hr⟩ := id fly
        unfold PySem.passOn
        refine wpAny_bind (wpAny_field he hd h1 ?_)
        rw [if_neg (by simp)]
        have last : wpAny (model X.prog X.w) X.A (setFlight (.ref a) X.env.frame) (fun _ t => wpAny (model X.prog X.w) X.A (throw (.ref a) : Sem Flow) (SP X pins D) X.xe t) X.xe { s1 with heap := g3 } := by
          rw [hfr]
          exact HandSPX.setFlight_upZ fly fun g4 air up4 => wpAny_throw (tk _ _ ⟨a, B, sI, pins, σ1, H1, cls, d, rfl, J, nb, (up.trans upg).trans up4, .inr (.inr (by rw [hst]; exact air)), na, os, bg, wo⟩)
        first
          | exact wpAny_bind (wpAny_pure (wpAny_bind last))
          | exact wpAny_bind last
      | @plain x kl st sts p1 p2 hs2 l2 hn hi hsu r ih =>
        intro wo
        obtain ⟨b, hb1, yes, no⟩ := wo
        refine wpAny_handleBy_cons (codeAny_handlers_test ?_) (by intro z; cases z)
        refine named hn ((PySem.W.exm_one (M := model X.prog X.w) K3.kIn typ hb1).here ?_)
        cases b with
        | false => exact ih (no rfl)
        | true =>
          refine codeAny_handlers_suite ?_
          refine HandSPX.lands_againZ fly fun g4 fly4 up4 => ?_
          have K4 : Inv X pins σ1 H1 { s1 with heap := g4 } := J.landed nb fly4.1 ((up.trans upg).trans up4) os bg
          obtain ⟨ob4, fs4, hob4, hz4, hdat4⟩ := fly4.there
          have S4 := K4.suite hob4 hdat4 na aL aF
          have wish := yes rfl a na
          rw [hi] at wish
          refine wpAny_mono ((hsu a ob4 cls d (X.pn ++ pins) hz4 ⟨_, hdat4⟩).run [] _ _ H1 _ S4 wish) (fun f t hf => ?_) (fun _ _ z => z.elim)
          cases f with
          | next => exact (let ⟨σ6, H6, S6, z⟩ := hf; ⟨σ6, H6, S6.unsuite okX, z⟩)
          | brk => exact (let ⟨σ6, H6, S6, z⟩ := hf; ⟨σ6, H6, S6.unsuite okX, z⟩)
          | cont => exact (let ⟨σ6, H6, S6, z⟩ := hf; ⟨σ6, H6, S6.unsuite okX, z⟩)
          | ret u => exact (let ⟨v, σ6, H6, S6, rv, z⟩ := hf; ⟨v, σ6, H6, S6.unsuite okX, rv, z⟩)
      | @named x n i kl st sts p1 p2 hs2 l2 hn hi hN hl hsu r ih =>
        intro wo
        obtain ⟨b, hb1, yes, no⟩ := wo
        refine wpAny_handleBy_cons (codeAny_handlers_test ?_) (by intro z; cases z)
        refine named hn ((PySem.W.exm_one (M := model X.prog X.w) K3.kIn typ hb1).here ?_)
        cases b with
        | false => exact ih (no rfl)
        | true =>
          refine codeAny_handlers_suite_as ?_
          refine HandSPX.lands_againZ fly fun g4 fly4 up4 => ?_
          have K4 : Inv X pins σ1 H1 { s1 with heap := g4 } := J.landed nb fly4.1 ((up.trans upg).trans up4) os bg
          obtain ⟨ob4, fs4, hob4, hz4, hdat4⟩ := fly4.there
          have S4 := K4.suite hob4 hdat4 na aL aF
          have wish := yes rfl a na
          rw [hi] at wish
          refine store_ok (X := X.suite a ((a, ob4) :: (X.pn ++ pins))) (v := .ref a) S4 nd hN (.inl hl) rfl (fun t S5 => ?_) (.inr hl)
          refine wpAny_mono ((hsu a ob4 cls d (X.pn ++ pins) hz4 ⟨_, hdat4⟩).run [] t _ H1 _ S5 wish) (fun f t6 hf => ?_) (fun _ _ z => z.elim)
          have fin : ∀ {σ6 : L2.St} {H6 : Hp} {Q : Shared → Prop}, Inv (X.suite a ((a, ob4) :: (X.pn ++ pins))) [] σ6 H6 t6 → (∀ t7, Inv X pins (σ6.set i none) H6 t7 → Q t7) →
              wpAny (model X.prog X.w) X.A (do bindName X.env n .none; unbindBehindTheSuite X.env n p2) (fun _ t7 => Q t7) X.xe t6 := fun S6 z => gone_ok (S6.unsuite okX) nd hN hl z
          cases f with
          | next => exact (let ⟨σ6, H6, S6, z⟩ := hf; fin S6 fun t7 K7 => ⟨_, _, K7, z⟩)
          | brk => exact (let ⟨σ6, H6, S6, z⟩ := hf; fin S6 fun t7 K7 => ⟨_, _, K7, z⟩)
          | cont => exact (let ⟨σ6, H6, S6, z⟩ := hf; fin S6 fun t7 K7 => ⟨_, _, K7, z⟩)
          | ret u => exact (let ⟨v, σ6, H6, S6, rv, z⟩ := hf; fin S6 fun t7 K7 => ⟨_, _, _, K7, rv, z⟩)
    exact main hcl wm
end
end BV

set_option Elab.async false
set_option maxRecDepth 100000
set_option maxHeartbeats 4000000
/-! BV24: try, read off the small language. -/
namespace BV
open PySem PySem.Spec PyProof.Rows
open L2 hiding St It

/-- behind a try's body: caught errors are forgotten -/
def dropR : SR → SR
  | .ok (.nx r) M => .ok (.nx (dropX r)) M
  | .ok (.bk r) M => .ok (.bk (dropX r)) M
  | .ok (.ct r) M => .ok (.ct (dropX r)) M
  | .ok (.rt v) M => if plainV v then .ok (.rt v) M else .no
  | .ex c ds r M => .ex c ds (dropX r) M
  | .no => .no
/-- .. a suite, from which no error goes on -/
def dropH : SR → SR
  | .ex _ _ _ _ => .no
  | x => dropR x
def setX (i : Option Nat) (c : Nat) (ds : List D) (r : Env) : Env := match i with
  | none => r
  | some i => r.set i (some (.exn c ds))

section
variable (T : Ad) (P : Pg) (C : Caller) (q : Asker)
/-- a try's body -/
def tTry (b : Ss) (V : WX) : TS := fun D σ H => ∃ S r, S.H = H ∧ Wf T S ∧ EnvR T [] S r σ ∧ SPost T [] V (dropR (exSs P C q b r S.M)) S D
/-- a suite -/
def tSuite (i : Option Nat) (b : Ss) : Addr → Value → Option Addr → TS := fun a cls d D σ H => ∃ S r σ0 c ds, S.H = H ∧ Wf T S ∧ EnvR T [] S r σ0 ∧ σ = slotOn i a σ0 ∧ RepX T S c ds cls d ∧ SPost T [] W0 (dropH (exSs P C q b (setX i c ds r) S.M)) S D
def clOf (hs : Hs) : List Cl := match hs with
  | .nil => []
  | .cons hc i b t => ⟨.ref (T.ca hc), i, tSuite T P C q i b⟩ :: clOf t
end

section
variable {X : Cx} {T : Ad} {P : Pg} {C : Caller} {q : Asker} {W V : WX} {k : Nat} {pn : List (Addr × Obj)}

theorem EnvR.nil {S : S8} {r : Env} {σ : L2.St} (h : EnvR T [] S r σ) : EnvR T pn S r σ := ⟨h.1, fun i v e => let ⟨w, a, b⟩ := h.2 i v e; ⟨w, a, b.imp RepV.nil id⟩⟩
theorem SPost.undrop {x : SR} {S : S8} {D : Ends} (p : SPost T [] V (dropR x) S D) : SPost T pn V x S D := by
  cases x with
  | ok f M =>
    cases f with
    | nx r => exact fun S' σ' g w e er => p S' σ' g w e (EnvR.dropX er)
    | bk r => exact fun S' σ' g w e er => p S' σ' g w e (EnvR.dropX er)
    | ct r => exact fun S' σ' g w e er => p S' σ' g w e (EnvR.dropX er)
    | rt v =>
      have p' : SPost T [] V (if plainV v then .ok (.rt v) M else .no) S D := p
      split at p'
      · rename_i h
        exact fun S' x g w e rx => p' S' x g w e (RepV.plain h rx)
      · exact False.elim p'
  | ex c ds r M => exact fun S' cls d σ' g w e er rx => p S' cls d σ' g w e (EnvR.dropX er) rx
  | no => exact p
theorem sb_try {body : List Stmt} {b : Ss} (h : PSs X body (tSs T P C q X.pn W b)) : PSs X body (tTry T P C q b W) := PSs_imp h fun D σ H ⟨S, r, e, w, er, p⟩ => ⟨S, r, e, w, EnvR.nil er, SPost.undrop p⟩
theorem sb_suite {a : Addr} {oe : Obj} {cls : Value} {d : Option Addr} {pn : List (Addr × Obj)} {i : Option Nat} {b : Ss} {sts : List Stmt} (hz : Zc cls d oe) (hd : ∃ vs, oe.data = .fields vs)
    (h : PSs (X.suite a ((a, oe) :: pn)) sts (tSs T P C q ((a, oe) :: pn) W0 b)) : PSs (X.suite a ((a, oe) :: pn)) sts (tSuite T P C q i b a cls d) := PSs_imp h fun D σ H ⟨S, r, σ0, c, ds, e, w, er, es, rx, p⟩ => by
  refine ⟨S, setX i c ds r, e, w, ?_, ?_⟩
  · rw [es]
    have er' : EnvR T ((a, oe) :: pn) S r σ0 := EnvR.nil er
    cases i with
    | none => exact er'
    | some i =>
      refine er'.set (v := .exn c ds) (w := .ref a) ?_
      obtain ⟨ec, rx⟩ := rx
      subst ec
      refine ⟨a, oe, d, rfl, List.mem_cons_self, hz, hd, ?_⟩
      rcases rx with rx | ⟨dx, xs, h1, h2, h3, h4⟩
      · exact .inl rx
      · exact .inr ⟨dx, xs, h1, w.fh _ _ h2, h2, h3, h4⟩
  · refine SPost.undrop ?_
    cases z : exSs P C q b (setX i c ds r) S.M with
    | ok f M => rw [z] at p; exact p
    | ex c2 ds2 r2 M => rw [z] at p; exact False.elim p
    | no => rw [z] at p; exact p

theorem RepX.go {S S' : S8} (g : Go S S') {c : Nat} {ds : List D} {cls : Value} {d : Option Addr} (h : RepX T S c ds cls d) : RepX T S' c ds cls d := by
  refine ⟨h.1, ?_⟩
  rcases h.2 with e | ⟨dx, xs, e1, e2, e3, e4⟩
  · exact .inl e
  · exact .inr ⟨dx, xs, e1, g.F _ _ e2, RepL.mono g.F _ _ e3, e4⟩
/-- the clauses, one after another -/
theorem wMix_ok (hK : X.K = T.K) (g0 : Prg T P) : ∀ (hs : Hs) {S : S8} {r : Env} {σ : L2.St} {c : Nat} {ds : List D} {cls : Value} {d : Option Addr} {D : Ends}, Wf T S → EnvR T [] S r σ → RepX T S c ds cls d → SPost T X.pn W (exH P C q hs c ds r S.M) S D → wMix X.K W D (clOf T P C q hs) cls d σ S.H
  | .nil, S, r, σ, c, ds, cls, d, D, w, er, rx, p => by
    simp only [exH] at p
    exact p S cls d σ (Go.refl S) w rfl (EnvR.nil er) rx
  | .cons hc i b t, S, r, σ, c, ds, cls, d, D, w, er, rx, p => by
    simp only [exH] at p
    split at p <;> try exact False.elim p
    rename_i hx
    have hx' : (P.exc c).isSome = true ∧ (P.exc hc).isSome = true := by
      cases e : ((P.exc c).isSome && (P.exc hc).isSome) with
      | false => rw [e] at hx; exact absurd rfl hx
      | true => exact Bool.and_eq_true_iff.mp e
    have hm := g0.exm c hc hx'.1 hx'.2
    refine ⟨P.sub c hc, by rw [rx.1, hK]; exact hm, fun hb a na => ?_, fun hb => ?_⟩
    · rw [if_pos hb] at p
      have pp : SPost T X.pn W (match exSs P C q b (setX i c ds r) S.M with
        | .ok (.nx r') M1 => .ok (.nx (unset i (dropX r'))) M1
        | .ok (.bk r') M1 => .ok (.bk (unset i (dropX r'))) M1
        | .ok (.ct r') M1 => .ok (.ct (unset i (dropX r'))) M1
        | .ok (.rt v) M1 => if plainV v then .ok (.rt v) M1 else .no
        | .ex _ _ _ _ => .no
        | .no => .no) S D := p
      refine ⟨S, r, σ, c, ds, rfl, w, er, rfl, rx, ?_⟩
      have off : ∀ {S' : S8} {r' : Env} {σ' : L2.St}, EnvR T [] S' (dropX r') σ' → EnvR T X.pn S' (unset i (dropX r')) (match i with | none => σ' | some i => σ'.set i none) := fun er' => by
        cases i with
        | none => exact EnvR.nil er'
        | some i => exact (EnvR.nil er').unset
      cases z : exSs P C q b (setX i c ds r) S.M with
      | ok f M =>
        rw [z] at pp
        cases f with
        | nx r' =>
          intro S' σ' g w' e er'
          have z2 := pp S' _ g w' e (off er')
          show (endsOff i D).nx σ' S'.H
          cases i <;> exact z2
        | bk r' =>
          intro S' σ' g w' e er'
          have z2 := pp S' _ g w' e (off er')
          show (endsOff i D).bk σ' S'.H
          cases i <;> exact z2
        | ct r' =>
          intro S' σ' g w' e er'
          have z2 := pp S' _ g w' e (off er')
          show (endsOff i D).ct σ' S'.H
          cases i <;> exact z2
        | rt v =>
          have pp' : SPost T X.pn W (if plainV v then .ok (.rt v) M else .no) S D := pp
          show SPost T [] W0 (if plainV v then .ok (.rt v) M else .no) S (endsOff i D)
          split at pp'
          · rename_i hv
            rw [if_pos hv]
            intro S' x g w' e rx'
            have z2 := pp' S' x g w' e (RepV.nil rx')
            show (endsOff i D).rt x S'.H
            cases i <;> exact z2
          · exact False.elim pp'
      | ex c2 ds2 r2 M => rw [z] at pp; exact pp
      | no => rw [z] at pp; exact pp
    · rw [if_neg (by rw [hb]; decide)] at p
      exact wMix_ok hK g0 t w er rx p

theorem ss_try (hK : X.K = T.K) (g0 : Prg T P) (hst : X.stack = X.env :: X.outer) (hfr : X.env.frame = some X.env.locals) (nd : X.N.Nodup) (tk : Takes X W) {body : List Stmt} {h0 : ExceptHandler} {hds : List ExceptHandler} {b : Ss} {hs : Hs} {pos : Pos}
    (hbody : ∀ (V : WX) (pn : List (Addr × Obj)) (xe : Value → Shared → Prop), Takes (X.tr pn xe) V → PassesOwn (model X.prog X.w) X.A X.env xe → PSs (X.tr pn xe) body (tSs T P C q pn V b)) (hcl : ClsOk X (h0 :: hds) (clOf T P C q hs)) :
    PS X (.Try body (h0 :: hds) [] [] pos) (tS T P C q X.pn W (.try b hs)) := PS_imp (try_mix hst hfr nd tk (tb := tTry T P C q b) (fun V pn xe tk' hp => sb_try (X := X.tr pn xe) (hbody V pn xe tk' hp)) hcl) fun D σ H h => by
  obtain ⟨S, r, rfl, w, er, p⟩ := h
  simp only [exS] at p
  refine ⟨S, dropX r, rfl, w, EnvR.dropX er, ?_⟩
  cases z : exSs P C q b (dropX r) S.M with
  | ok f M =>
    rw [z] at p
    cases f with
    | nx r' => exact fun S' σ' g w' e er' => p S' σ' g w' e (EnvR.nil er')
    | bk r' => exact fun S' σ' g w' e er' => p S' σ' g w' e (EnvR.nil er')
    | ct r' => exact fun S' σ' g w' e er' => p S' σ' g w' e (EnvR.nil er')
    | rt v =>
      have pp' : SPost T X.pn W (if plainV v then .ok (.rt v) M else .no) S D := p
      show SPost T [] _ (if plainV v then .ok (.rt v) M else .no) S D
      split at pp'
      · rename_i hv
        rw [if_pos hv]
        exact fun S' x g w' e rx => pp' S' x g w' e (RepV.nil rx)
      · exact False.elim pp'
  | ex c ds r' M =>
    rw [z] at p
    intro S' cls d σ' g w' e er' rx
    have pp2 : SPost T X.pn W (exH P C q hs c ds (dropX r') S'.M) S' D := by rw [e]; exact SPost.from g p
    exact wMix_ok hK g0 hs w' er' rx pp2
  | no => rw [z] at p; exact p
end
end BV

set_option Elab.async false
set_option maxRecDepth 100000
set_option maxHeartbeats 4000000
namespace BVS
open PySem PySem.Spec PyProof.Rows
open L2 hiding St It
open PySem.W (ksEnv ksFn)

/-- the scope of an error's own init: all its names are params, super is read from afar -/
structure SupScope (ps : List Str) (sc : Scope) : Prop where
  kind : sc.kind = .function
  co : sc.isCoroutine = false
  gen : sc.isGenerator = false
  nd : ps.Nodup
  par : ∀ x ∈ ps, sc.names.lookup x = some .local
  noc : ∀ x ∈ sc.names, x.2 ≠ .cell
  one : ∀ x, sc.names.lookup x = some .free → x = "__class__"
  sup : sc.names.lookup ("super" : Str) = some .globalImplicit
  kls : sc.names.lookup ("__class__" : Str) = some .free

/-- the context of such a body -/
def cxS (CX : CXT) (P : Program) (w : World) (K : PySem.W.Frag) (mg : Str → Option Value) (base : Heap) (N : List Str) (qual : Str) (scope : Scope) (f : Addr) (cd : Value) (cc : Addr) (A : Around) (outer : List PySem.Env) (s : Shared) (H : Hp) (E : XK) : Cx where
  prog := P
  w := w
  K := K
  mg := mg
  base := base
  A := A.deeper (ksEnv qual scope s.heap.objs.size f cd cc)
  N := N
  s_0 := s
  H_0 := H
  env := ksEnv qual scope s.heap.objs.size f cd cc
  outer := outer
  stack := ksEnv qual scope s.heap.objs.size f cd cc :: outer
  ex := []
  calm := true
  fn := fun _ => false
  pn := []
  xe := fun e s' => wpAny (model P w) (A.deeper (ksEnv qual scope s.heap.objs.size f cd cc)) (leaving (ksEnv qual scope s.heap.objs.size f cd cc) e) (fun _ s'' => CX outer H s E e s'') (fun e' s'' => CX outer H s E e' s'') s'

theorem zip_nd : ∀ {ps : List Str} {us : List Value}, ps.Nodup → ((ps.zip us).map (·.1)).Nodup
  | [], _, _ => by simp
  | _ :: _, [], _ => by simp
  | p :: ps, u :: us, nd => by
    have n := List.nodup_cons.mp nd
    show (p :: (ps.zip us).map (·.1)).Nodup
    refine List.nodup_cons.mpr ⟨fun h => ?_, zip_nd n.2⟩
    obtain ⟨⟨a, b⟩, h1, h2⟩ := List.mem_map.mp h
    exact n.1 (by have := (List.of_mem_zip h1).1; rw [← h2]; exact this)
theorem zip_look {x : Str} {u : Value} : ∀ {ps : List Str} {us : List Value} {i : Nat}, ps.Nodup → ps[i]? = some x → us[i]? = some u → (ps.zip us).reverse.lookup x = some u := by
  intro ps us i nd h1 h2
  have q : ∀ {l : List (Str × Value)}, (l.map (·.1)).Nodup → (x, u) ∈ l → l.lookup x = some u := by
    intro l
    induction l with
    | nil => intro _ h; cases h
    | cons p l ih =>
      obtain ⟨y, v⟩ := p
      intro nd h
      rw [List.map_cons, List.nodup_cons] at nd
      rcases List.mem_cons.mp h with e | h
      · cases e; simp [List.lookup]
      · have ne : x ≠ y := fun e => nd.1 (by rw [← e]; exact List.mem_map_of_mem (f := (·.1)) h)
        have e : (x == y) = false := by simpa using ne
        simp only [List.lookup, e]
        exact ih nd.2 h
  refine q ?_ ?_
  · rw [List.map_reverse]
    have n1 : ((ps.zip us).map (·.1)).Nodup := by
      exact zip_nd nd
    exact (List.pairwise_reverse).mpr (n1.imp fun h => Ne.symm h)
  · rw [List.mem_reverse]
    have hz : (ps.zip us)[i]? = some (x, u) := by rw [List.getElem?_zip_eq_some]; exact ⟨h1, h2⟩
    exact List.mem_of_getElem? hz

theorem inv_sup {CX : CXT} {P : Program} {w : World} {K : PySem.W.Frag} {mg : Str → Option Value} {base : Heap} {ps : List Str} {qual : Str} {scope : Scope} {f cc : Addr} {D : Addr} {cd : Value} {A : Around} {outer : List PySem.Env} {s : Shared} {h1 : Heap} {tk : Nat} {H : Hp} {E : XK} {us : List Value} {vs : List V}
    {cl : Value} {cld : Option Addr} {csl : Array (Option Value)}
    (S : SupScope ps scope) (hd : A.handled = none) (e0 : Env0 P w K mg base A outer s H) (hl : vs.length = ps.length) (r : Vals vs us) (hcell : K.lookup cc = some ⟨cl, cld, .cell (some (.ref D)), csl⟩)
    (hns : h1.Ns s.heap.objs.size (fun x => (ps.zip us).reverse.lookup x)) (hk : ∀ b o, s.heap.get? b = some o → h1.get? b = some o) :
    Inv (cxS CX P w K mg base ps qual scope f cd cc A outer s H E) [] (L2.start ps vs) H { s with heap := h1, toks := tk } := by
  have noA : ∀ b : Addr, b ∉ (cxS CX P w K mg base ps qual scope f cd cc A outer s H E).ex := fun b z => absurd (show b ∈ ([] : List Addr) from z) (by simp)
  have one : ∀ {x c}, (ksEnv qual scope s.heap.objs.size f cd cc).cells.lookup x = some c → x = "__class__" ∧ c = cc := by
    intro x c h
    have h : ([(("__class__" : Str), cc)] : List (Str × Addr)).lookup x = some c := h
    by_cases e : x = ("__class__" : Str)
    · subst e
      simp [List.lookup] at h
      exact ⟨rfl, h.symm⟩
    · have e' : (x == ("__class__" : Str)) = false := by simpa using e
      simp [List.lookup, e'] at h
  have hbc : base.get? cc = some ⟨cl, cld, .cell (some (.ref D)), csl⟩ := e0.mod.kin _ _ hcell
  refine ⟨⟨e0.mod, S.kind, rfl, rfl, Nat.le_refl _, fun y z c h1 h2 => ?_, fun y hy => ?_, fun y c z => ?_, fun _ => hd, Around.frames_deeper e0.frames, .inr ⟨rfl, rfl⟩, fun b z => absurd z (noA b), e0.bs, e0.bsz, fun b _ _ => noA b, fun b z => absurd z (noA b), e0.funs, e0.frf⟩,
    rfl, e0.bare, Un.kept hk, ⟨_, hns, fun i y v h1 h2 h3 => ?_⟩, fun y c h => ?_, e0.hok.fresh (Nat.le_refl _), fun y c h => ?_, fun p hp => absurd (show p ∈ ([] : List (Addr × Obj)) from hp) (by simp), e0.hok.kept hk, ?_⟩
  · rw [(one h1).1, (one h2).1]
  · refine ⟨cc, ?_⟩
    have e : y = "__class__" := by
      rcases hy with hy | hy
      · exact absurd rfl (S.noc _ (PySem.mem_of_lookup (show scope.names.lookup y = some .cell from hy)))
      · exact S.one y hy
    rw [e]
    show ([(("__class__" : Str), cc)] : List (Str × Addr)).lookup _ = _
    simp [List.lookup]
  · exact absurd (show false = true from z) (by simp)
  · have hi : i < vs.length := by
      unfold L2.start at h2
      by_cases hi : i < vs.length
      · exact hi
      · rw [List.getElem?_append_right (by simpa using hi)] at h2
        rw [List.getElem?_replicate] at h2
        split at h2 <;> cases h2
    have ha : vs[i]? = some v := by
      unfold L2.start at h2
      rw [List.getElem?_append_left (by simpa using hi), List.getElem?_map] at h2
      cases e : vs[i]? with
      | none => rw [e] at h2; cases h2
      | some a => rw [e] at h2; cases h2; rfl
    obtain ⟨u, hu, rv⟩ := r.get ha
    exact ⟨u, rv, .inl ⟨S.par y (List.mem_of_getElem? h1), zip_look S.nd h1 hu⟩⟩
  · obtain ⟨_, rfl⟩ := one h
    exact ⟨_, _, hk _ _ (e0.bs _ _ hbc).1, rfl⟩
  · obtain ⟨_, rfl⟩ := one h
    exact (e0.bs _ _ hbc).2
  · unfold L2.start
    show _ = ps.length
    rw [List.length_append, List.length_map, List.length_replicate]
    omega
end BVS

set_option Elab.async false
set_option maxRecDepth 100000
set_option maxHeartbeats 4000000
namespace BVS
open PySem PySem.Spec PyProof.Rows
open L2 hiding St It
open PySem.W (ksEnv ksFn kxs_mw)

/-- what the written part holds of the super of an error's init -/
structure SupC (P : Program) (K : PySem.W.Frag) (mg : Str → Option Value) (C cda cc : Addr) : Prop where
  oex : OexC K C
  vE : PySem.W.subIn K (.ref C) (.type "ValueError") = some true
  self : PySem.W.mroIn K C (.ref C) = some true
  cell : ∃ cl cld csl, K.lookup cc = some ⟨cl, cld, .cell (some (.ref C)), csl⟩
  code : ∃ ccl cdd vs ccs file tf, K.lookup cda = some ⟨ccl, cdd, .fields vs, ccs⟩ ∧ vs[2]? = some (.str file tf) ∧ ((P.main.file : Str) == file) = true
  sup : PySem.W.ks_superIn K C C "__init__" = some (some (.builtin "ValueError.__init__"))
  any : PySem.W.nsIn K cStatics "thirdparty.any" = some none
  mgS : mg "super" = none
  top : (P.main.scope.names.lookup ("super" : Str)).isSome = false

section
variable {X : Cx} {pins : List (Addr × Obj)} {σ : L2.St} {H : Hp} {s : Shared} {a C : Addr}
/-- the built-in init, bound to the error, is called -/
theorem call_mw {u : Addr} {us : List Value} {Q : Value → Shared → Prop} {E : Value → Shared → Prop} {A : Around} (T : OexC X.K C) (I : Inv X pins σ H s) (e : H a = some (exo a C none)) (hu : s.heap.get? u = some (kxs_mw "ValueError.__init__" a)) (hl : us.length ≤ sizeLine)
    (h : ∀ s', Inv X pins σ H s' → Q .none s') : wpAny (model X.prog X.w) A (call (.ref u) us) Q E s := by
  obtain ⟨nm, q, N, bs, bm, sn, sub, ab, col, dd, k0, k1, k2, k3, k5, hC, hbm⟩ := T.cls
  obtain ⟨t1, ho⟩ := exo_at I.hok e
  have hCh := I.kIn _ _ hC
  obtain ⟨hp, g, d, t, os⟩ := s
  have FB := F.excBase_ValueError
  refine wpAny_call (codeAny_of_tree ?_)
  show wpAny _ A.in1 (callAny (.ref u) ⟨us, []⟩) _ _ _
  simp only [callAny]
  refine wpAny_bind (wpAny_load hu ?_)
  simp only [kxs_mw, show (Value.type "method-wrapper" == Value.type "method" || Value.type "method-wrapper" == Value.type "builtin_function_or_method" || Value.type "method-wrapper" == Value.type "method-wrapper") = true by decide, if_true]
  refine PySem.W.KFB.if_so (by decide) ?_
  refine wpAny_bind (PySem.W.check_bound_init FB.toExcCallFacts hCh ho rfl ?_)
  refine wpAny_bind (wpAny_pure (wpAny_pure ?_))
  refine ⟨plainId_quiet FB.init.plain _, codeAny_builtin FB.initEntry ?_⟩
  rw [Around.under_plainId FB.init.plain _]
  refine PySem.W.exc_init_tree (cls := .ref C) (t0 := t1) (dv := none) (c2 := .none) (c3 := .none) (b4 := .bool false) ho hl fun h' k hx _ => ?_
  have J := I.write (t' := t) (x := a) (e := a) (o := exo a C none) (by rw [e]; exact True.intro) (.inl rfl) k ⟨_, hx⟩ (exo_ok hx)
  have eu : upd H a (exo a C none) = H := by
    funext b
    by_cases hb : b = a
    · rw [hb, upd_same, e]
    · rw [upd_ne hb]
  rw [eu] at J
  exact h _ J
end

section
variable {CX : CXT} {P : Program} {w : World} {K : PySem.W.Frag} {mg : Str → Option Value} {base : Heap} {k : Nat} {f C cda cc : Addr} {name qual : Str} {params : Arguments} {tl : List Stmt} {scope : Scope} {dV kV doc pm ct oc : Value} {an od : Option Addr}
    {osl : Array (Option Value)} {ps : List Str} {sp : Sp} {p0 p1 p2 p3 p4 : Pos} {ex0 : Expr} {es : List Expr} {ar : Arg}
/-- the promise of an error's own init: super's init, then the rest of its body -/
theorem fn_sup (T : SupC P K mg C cda cc) (lk : K.lookup f = some ⟨oc, od, .func (ksFn name qual params (.Expr (.Call (.Attribute (.Call (.Name "super" p0) [] [] p1) "__init__" p2) (ex0 :: es) [] p3) p4 :: tl) scope dV kV doc pm an (.ref cda) ct cc), osl⟩)
    (hcd : PySem.W.codeIn K (.ref cda) qual = true) (S : SupScope ps scope) (hp : (params.posonlyargs ++ params.args).head? = some ar) (hp0 : ps[0]? = some ar.arg)
    (len : ∀ vs H Q E, sp vs H Q E → vs.length = ps.length)
    (hpl : ∀ env, (backTo p3 (starEach es env)).any (·.1) = false)
    (hev : ∀ env : PySem.Env, ∃ pl, eval (.Call (.Attribute (.Call (.Name "super" p0) [] [] p1) "__init__" p2) (ex0 :: es) [] p3) env = (do
      let ov ← attributeBase (.Call (.Name "super" p0) [] [] p1) "__init__" env (eval (.Call (.Name "super" p0) [] [] p1) env)
      standAt p2.atName
      let (f, first) ← holding [ov] (getMethod ov "__init__" pl)
      callWith p3 f first (backTo p3 (starEach (ex0 :: es) env)) []))
    (hst : ∀ env, starEach (ex0 :: es) env = (false, eval ex0 env) :: starEach es env)
    (hbody : ∀ (A : Around) (outer : List PySem.Env) (s : Shared) (H : Hp) (vs : List V) (Q : VK) (E : XK), sp vs H Q E →
      ∃ (a : Addr) (ys : List V) (ta : TA) (t : TS), vs = .ref a :: ys ∧ H a = some (exo a C none) ∧ PA (cxS CX P w K mg base ps qual scope f (.ref cda) cc A outer s H E) (ex0 :: es) ta ∧ PSs (cxS CX P w K mg base ps qual scope f (.ref cda) cc A outer s H E) tl t ∧
        ta (L2.start ps vs) H (fun ws H1 => H1 = H ∧ ws.length ≤ 1000 ∧ t { nx := fun _ H' => Q .non H', rt := Q } (L2.start ps vs) H)) :
    FnOk P w K mg base CX (k + 1) f (ksFn name qual params (.Expr (.Call (.Attribute (.Call (.Name "super" p0) [] [] p1) "__init__" p2) (ex0 :: es) [] p3) p4 :: tl) scope dV kV doc pm an (.ref cda) ct cc) ps sp := by
  refine ⟨len, fun A outer s H args us vs Q E hr e0 hb r hsp => ?_⟩
  have hl := len _ _ _ _ hsp
  have KX : K.In s.heap := e0.mod.kin.keeps fun b o e => (e0.bs b o e).1
  have lim : s.heap.NoLimit := e0.mod.nolimit.keeps fun b o e => (e0.bs b o e).1
  obtain ⟨cl, cld, csl, hcell⟩ := T.cell
  obtain ⟨ccl, cdd, cvs, ccs, file, tf, hcode, hcv, hfile⟩ := T.code
  refine ks_codeAny_call_defAt hr.depth (KX _ _ lk) rfl lim (PySem.W.codeRec_of KX hcd) rfl (hb) S.noc (fun y hy => S.par _ (List.of_mem_zip hy).1) (fun h1 hns hk1 => ?_) S.co S.gen S.kind
  obtain ⟨a, ys, ta, t, rfl, ea, hta, htl, hq⟩ := hbody A outer s H vs Q E hsp
  have I : Inv (cxS CX P w K mg base ps qual scope f (.ref cda) cc A outer s H E) [] (L2.start ps (.ref a :: ys)) H { s with heap := h1, toks := s.toks + (ps.zip us).length } :=
    inv_sup S hr.hd e0 hl r hcell hns hk1
  refine ks_wpAt_mono (Q := SP (cxS CX P w K mg base ps qual scope f (.ref cda) cc A outer s H E) [] { nx := fun _ H' => Q .non H', rt := Q }) (E := (cxS CX P w K mg base ps qual scope f (.ref cda) cc A outer s H E).xe) ?_ (fun fl s' hs => ?_) fun e s' hs => hs
  · have hin : interactive (ksEnv qual scope s.heap.objs.size f (.ref cda) cc) = false := by
      unfold interactive
      show (scope.kind == .module && _) = false
      rw [S.kind]
      rfl
    obtain ⟨pl, hev'⟩ := hev (ksEnv qual scope s.heap.objs.size f (.ref cda) cc)
    refine ks_wpAt_execs_cons (ks_wpAt_Expr_any (ks_wpAt_MethodCall (pl := pl) ?_ hev') hin)
    obtain ⟨nm, q, N, bs, bm, sn, sub, ab, col, dd, k0, k1, k2, k3, k5, hC, hbm⟩ := T.oex.cls
    have hclI : PySem.W.clsIn K C = some { name := nm, bases := bs, mro := .ref C :: bm, ns := N, qualname := q, hasDict := true, slotNames := sn, subclasses := sub, abstract := ab, collection := col, hasDel := false } := by unfold PySem.W.clsIn; rw [hC] <;> rfl
    obtain ⟨m, hm, hloc⟩ := id I.loc
    have hself : m ar.arg = some (.ref a) := by
      obtain ⟨u, ru, hu⟩ := hloc 0 ar.arg (.ref a) hp0 rfl (.inl (S.par _ (List.mem_of_getElem? hp0)))
      obtain rfl : u = .ref a := ru
      rcases hu with ⟨_, hu⟩ | ⟨hu, _⟩
      · exact hu
      · have hu : scope.names.lookup ar.arg = some .cell ∨ scope.names.lookup ar.arg = some .free := hu
        rw [S.par _ (List.mem_of_getElem? hp0)] at hu
        rcases hu with hu | hu <;> cases hu
    obtain ⟨t1, hx⟩ := exo_at I.hok ea
    have hCh := I.kIn _ _ hC
    obtain ⟨mb, hb1, hb2⟩ := I.mod.blt
    refine ks_wpAt_super_base (env := ksEnv qual scope s.heap.objs.size f (.ref cda) cc) S.sup S.kls (by decide) rfl (I.kIn _ _ lk) rfl hp rfl (I.kIn _ _ hcode) rfl hcv hfile T.top ?_
    refine PySem.W.ks_loadName_global S.kind S.sup (PySem.Calls.loadGlobal_builtin (env := ksEnv qual scope s.heap.objs.size f (.ref cda) cc) (I.mod.glob.keeps I.bk) T.mgS (hb1.keeps I.bk) ((hb2 _ (by decide)).trans (by decide +kernel)) ⟨rfl, ?_⟩)
    refine wpAny_loadName_free S.kind S.kls rfl ⟨_, I.kIn _ _ hcell, rfl⟩ ?_
    refine wpAny_loadName_local S.kind (S.par _ (List.mem_of_getElem? hp0)) hm hself ?_
    refine ks_wpAny_isType_cls hCh rfl ⟨rfl, ?_⟩
    refine ks_wpAny_call_super hCh rfl hx rfl (fun c e => by cases e) (PySem.W.looks_mroIn I.kIn T.self) (fun h2 so2 k2 => ?_)
    have I2 := I.kept (t' := s.toks + (ps.zip us).length) (h' := h2) k2
    refine PySem.W.kxs_getMethod PySem.W.kxs_ValueError so2 (PySem.W.looks_opaque I2.kIn T.any) (fun A Q E s k q => wpAny_bind ((PySem.W.looks_clsIn I2.kIn hclI) A _ E s k (wpAny_pure q))) rfl I2.kIn ?_ ?_ ?_ (by decide) ?_
    · have e := T.sup
      unfold PySem.W.ks_superIn at e
      rw [hclI] at e
      exact e
    · have IA : PySem.W.InstAt h2 a { cls := .ref C, dict := none, data := .fields #[.ref t1, .none, .none, .none, .bool false, .none] } C none := ⟨k2 _ _ hx, rfl, rfl, trivial⟩
      exact IA.type.andThen (PySem.W.looks_subIn I2.kIn T.vE)
    · intro z
      rw [z, hCh] at hx
      cases hx
    have kk : ∀ b o, h2.get? b = some o → (h2.push (kxs_mw "ValueError.__init__" a)).get? b = some o := fun b o e => Heap.get?_push_of_some _ e
    have I3 := I2.kept (t' := s.toks + (ps.zip us).length + 1) (h' := h2.push (kxs_mw "ValueError.__init__" a)) kk
    have I4 := I3.pins_of (pins' := [(h2.objs.size, kxs_mw "ValueError.__init__" a)]) (fun p hp => by
      obtain rfl : p = (h2.objs.size, kxs_mw "ValueError.__init__" a) := by simpa using hp
      exact ⟨Heap.get?_push_at rfl rfl, I2.hok.fresh (Nat.le_refl _), Nat.ne_of_gt I2.lt, I2.nofs (Nat.le_refl _), fun v e => by cases e⟩)
    show wpAny _ _ (callWith p3 (.ref h2.objs.size) [] (backTo p3 (starEach (ex0 :: es) (ksEnv qual scope s.heap.objs.size f (.ref cda) cc))) []) _ _ _
    have run := hta.run p3 _ _ _ _ _ I4 hq
    rw [show starEach (ex0 :: es) (cxS CX P w K mg base ps qual scope f (.ref cda) cc A outer s H E).env = _ from hst _] at run
    rw [hst]
    refine PySem.W.kxs_callWith (i := "ValueError.__init__") (x := a) (by show (false || (backTo p3 (starEach es _)).any (·.1)) = false; rw [hpl]; rfl) ?_
    refine PySem.Calls.evalArgs_plain (thn run fun us2 s2 h5 => ?_)
    obtain ⟨vs2, H2, I5, r5, rfl, hl5, q5⟩ := h5
    have hu5 := (I5.pin _ (List.mem_append_right _ (List.mem_singleton.mpr rfl))).1
    refine ⟨hu5, ?_⟩
    refine call_mw T.oex I5 ea hu5 (by show us2.length ≤ _; rw [← Paired.length r5, sizeLine_eq]; omega) fun s6 I6 => ?_
    refine PySem.wpAt_of_wpAny ?_
    exact thn (htl.run [] s6 _ _ _ (I6.pins_of (pins' := []) fun p hp => by cases hp) q5) fun fl s7 h7 => h7
  · have fin : ∀ {σ' : L2.St} {H' : Hp} {v : V} {u : Value}, Inv (cxS CX P w K mg base ps qual scope f (.ref cda) cc A outer s H E) [] σ' H' s' → RelV v u → Q v H' → CE outer P w H s Q u s' :=
      fun {σ' H' v u} J rv q => ⟨v, H', J.os, J.bare, J.base, J.hok, rv, q⟩
    cases fl with
    | ret u =>
      obtain ⟨v, σ', H', J, rv, q⟩ := hs
      exact fin J rv q
    | next =>
      obtain ⟨σ', H', J, q⟩ := hs
      exact fin (v := V.non) (u := Value.none) J rfl q
    | brk =>
      obtain ⟨_, _, _, q⟩ := hs
      exact False.elim q
    | cont =>
      obtain ⟨_, _, _, q⟩ := hs
      exact False.elim q
end
end BVS

set_option Elab.async false
set_option maxRecDepth 100000
set_option maxHeartbeats 4000000
/-! BV27: an error's own init with one field, with two. -/
namespace BVS
open PySem PySem.Spec PyProof.Rows
open L2 hiding St It
open PySem.W (ksEnv ksFn kxs_mw)

def NmOk (ps : List Str) : Prop := ∀ x ∈ ps, (x == ("__debug__" : Str)) = false ∧ (x == ("__classdict__" : Str)) = false
/-- the eval of super().__init__(..) -/
def EvS (p0 p1 p2 p3 : Pos) (es : List Expr) : Prop := ∀ env : PySem.Env, ∃ pl, eval (.Call (.Attribute (.Call (.Name "super" p0) [] [] p1) "__init__" p2) es [] p3) env = (do
      let ov ← attributeBase (.Call (.Name "super" p0) [] [] p1) "__init__" env (eval (.Call (.Name "super" p0) [] [] p1) env)
      standAt p2.atName
      let (f, first) ← holding [ov] (getMethod ov "__init__" pl)
      callWith p3 f first (backTo p3 (starEach es env)) [])
def sp1 (C : Addr) (f1 : Str) : Sp := fun vs H Q _ => ∃ (a : Addr) (y1 : V), vs = [.ref a, y1] ∧ H a = some (exo a C none) ∧
  ∀ dx, H dx = none → dx ≠ a → Q .non (upd (upd H dx (exd dx [(f1, y1)])) a (exo a C (some dx)))
def sp2 (C : Addr) (f1 f2 : Str) : Sp := fun vs H Q _ => ∃ (a : Addr) (y1 y2 : V), vs = [.ref a, y1, y2] ∧ H a = some (exo a C none) ∧
  ∀ dx, H dx = none → dx ≠ a → Q .non (upd (upd H dx (exd dx [(f1, y1), (f2, y2)])) a (exo a C (some dx)))

theorem exd_swap {dx : Addr} {f1 f2 : Str} {y1 y2 : V} (h : f1 ≠ f2) : exd dx [(f2, y2), (f1, y1)] = exd dx [(f1, y1), (f2, y2)] := by
  have e : ∀ f, ([(f2, y2), (f1, y1)] : List (Str × V)).lookup f = ([(f1, y1), (f2, y2)] : List (Str × V)).lookup f := fun f => by
    simp only [lookup_put]
    by_cases a : f = f2
    · have b : f ≠ f1 := fun z => h (z.symm.trans a)
      simp [a]
      intro z
      exact absurd z (Ne.symm h)
    · simp [a]
  unfold exd
  congr 1
  funext hh
  simp only [e]
theorem upd3 {H : Hp} {dx a : Addr} {o1 o2 u : HO} (h : dx ≠ a) : upd (upd (upd H dx o1) a u) dx o2 = upd (upd H dx o2) a u := by
  funext b
  unfold upd
  by_cases e : b = dx
  · subst e; simp [h]
  · by_cases e2 : b = a
    · simp [e2, Ne.symm h]
    · simp [e, e2]

section
variable {CX : CXT} {P : Program} {w : World} {K : PySem.W.Frag} {mg : Str → Option Value} {base : Heap} {k : Nat} {f C cda cc : Addr} {name qual sf n1 n2 f1 f2 : Str} {params : Arguments} {scope : Scope} {dV kV doc pm ct oc : Value} {an od : Option Addr}
    {osl : Array (Option Value)} {p0 p1 p2 p3 p4 q0 q1 q2 q3 q4 q5 q6 q7 q8 q9 : Pos} {ar : Arg}
abbrev body1 (sf n1 f1 : Str) (p0 p1 p2 p3 p4 q0 q1 q2 q3 q4 : Pos) : List Stmt := [.Expr (.Call (.Attribute (.Call (.Name "super" p0) [] [] p1) "__init__" p2) [.Name n1 q0] [] p3) p4, .Assign [.Attribute (.Name sf q1) f1 q2] (.Name n1 q3) q4]
abbrev body2 (sf n1 n2 f1 f2 : Str) (p0 p1 p2 p3 p4 q0 q1 q2 q3 q4 q5 q6 q7 q8 q9 : Pos) : List Stmt := [.Expr (.Call (.Attribute (.Call (.Name "super" p0) [] [] p1) "__init__" p2) [.Name n1 q0, .Name n2 q5] [] p3) p4,
  .Assign [.Attribute (.Name sf q1) f1 q2] (.Name n1 q3) q4, .Assign [.Attribute (.Name sf q6) f2 q7] (.Name n2 q8) q9]

theorem init1 (T : SupC P K mg C cda cc) (lk : K.lookup f = some ⟨oc, od, .func (ksFn name qual params (body1 sf n1 f1 p0 p1 p2 p3 p4 q0 q1 q2 q3 q4) scope dV kV doc pm an (.ref cda) ct cc), osl⟩)
    (hcd : PySem.W.codeIn K (.ref cda) qual = true) (S : SupScope [sf, n1] scope) (hp : (params.posonlyargs ++ params.args).head? = some ar) (hp0 : sf = ar.arg) (nm : NmOk [sf, n1]) (hno : PySem.W.findIn K (.ref C) f1 = some none) (hev : EvS p0 p1 p2 p3 [.Name n1 q0]) :
    FnOk P w K mg base CX (k + 1) f (ksFn name qual params (body1 sf n1 f1 p0 p1 p2 p3 p4 q0 q1 q2 q3 q4) scope dV kV doc pm an (.ref cda) ct cc) [sf, n1] (sp1 C f1) := by
  refine fn_sup T lk hcd S hp (by rw [hp0]; rfl) (fun vs H Q E h => by obtain ⟨a, y, rfl, _⟩ := h; rfl) (fun env => rfl) (fun env => hev env) (fun env => rfl) fun A outer s H vs Q E h => ?_
  obtain ⟨a, y1, rfl, ea, q⟩ := h
  let X := cxS CX P w K mg base [sf, n1] qual scope f (.ref cda) cc A outer s H E
  have e0 : PE X (.Name sf q1) (tVar 0) := pe_var (i := 0) rfl (.inl (S.par _ (by simp))) (nm _ (by simp)).1 (nm _ (by simp)).2
  have e1 : ∀ p, PE X (.Name n1 p) (tVar 1) := fun p => pe_var (i := 1) rfl (.inl (S.par _ (by simp))) (nm _ (by simp)).1 (nm _ (by simp)).2
  refine ⟨a, [y1], _, _, rfl, ea, pa_cons (e1 q0) pa_nil, pss_cons (ps_ost e0 (e1 q3)) pss_nil, ?_⟩
  refine ⟨y1, rfl, rfl, by simp, y1, rfl, .ref a, rfl, a, C, rfl, T.oex, hno, .inl ⟨ea, fun dx n ne => q dx n ne⟩⟩

theorem init2 (T : SupC P K mg C cda cc) (lk : K.lookup f = some ⟨oc, od, .func (ksFn name qual params (body2 sf n1 n2 f1 f2 p0 p1 p2 p3 p4 q0 q1 q2 q3 q4 q5 q6 q7 q8 q9) scope dV kV doc pm an (.ref cda) ct cc), osl⟩)
    (hcd : PySem.W.codeIn K (.ref cda) qual = true) (S : SupScope [sf, n1, n2] scope) (hp : (params.posonlyargs ++ params.args).head? = some ar) (hp0 : sf = ar.arg) (nm : NmOk [sf, n1, n2]) (hne : f1 ≠ f2)
    (hno : PySem.W.findIn K (.ref C) f1 = some none) (hno2 : PySem.W.findIn K (.ref C) f2 = some none) (hev : EvS p0 p1 p2 p3 [.Name n1 q0, .Name n2 q5]) :
    FnOk P w K mg base CX (k + 1) f (ksFn name qual params (body2 sf n1 n2 f1 f2 p0 p1 p2 p3 p4 q0 q1 q2 q3 q4 q5 q6 q7 q8 q9) scope dV kV doc pm an (.ref cda) ct cc) [sf, n1, n2] (sp2 C f1 f2) := by
  refine fn_sup T lk hcd S hp (by rw [hp0]; rfl) (fun vs H Q E h => by obtain ⟨a, y, z, rfl, _⟩ := h; rfl) (fun env => rfl) (fun env => hev env) (fun env => rfl) fun A outer s H vs Q E h => ?_
  obtain ⟨a, y1, y2, rfl, ea, q⟩ := h
  let X := cxS CX P w K mg base [sf, n1, n2] qual scope f (.ref cda) cc A outer s H E
  have e0 : ∀ p, PE X (.Name sf p) (tVar 0) := fun p => pe_var (i := 0) rfl (.inl (S.par _ (by simp))) (nm _ (by simp)).1 (nm _ (by simp)).2
  have e1 : ∀ p, PE X (.Name n1 p) (tVar 1) := fun p => pe_var (i := 1) rfl (.inl (S.par _ (by simp))) (nm _ (by simp)).1 (nm _ (by simp)).2
  have e2 : ∀ p, PE X (.Name n2 p) (tVar 2) := fun p => pe_var (i := 2) rfl (.inl (S.par _ (by simp))) (nm _ (by simp)).1 (nm _ (by simp)).2
  refine ⟨a, [y1, y2], _, _, rfl, ea, pa_cons (e1 q0) (pa_cons (e2 q5) pa_nil), pss_cons (ps_ost (e0 q1) (e1 q3)) (pss_cons (ps_ost (e0 q6) (e2 q8)) pss_nil), ?_⟩
  refine ⟨y1, rfl, y2, rfl, rfl, by simp, y1, rfl, .ref a, rfl, a, C, rfl, T.oex, hno, .inl ⟨ea, fun dx n ne => ?_⟩⟩
  refine ⟨y2, rfl, .ref a, rfl, a, C, rfl, T.oex, hno2, .inr ⟨dx, [(f1, y1)], upd_same, by rw [upd_ne ne, upd_same], by simp, ?_⟩⟩
  have z := q dx n ne
  rw [← exd_swap hne] at z
  show Q .non _
  rw [upd3 ne]
  exact z
end
end BVS

set_option Elab.async false
set_option maxRecDepth 100000
set_option maxHeartbeats 4000000
/-! BV28: raise, read off the small language. -/
namespace BV
open PySem PySem.Spec PyProof.Rows BVS
open L2 hiding St It

/-- the promise of an error's own init -/
def SpX (C : Addr) (fl : List Str) : Sp := fun vs H Q _ => ∃ (a : Addr) (ys : List V), vs = .ref a :: ys ∧ ys.length = fl.length ∧ H a = some (exo a C none) ∧
  ∀ dx, H dx = none → dx ≠ a → Q .non (upd (upd H dx (exd dx (fl.zip ys))) a (exo a C (some dx)))
theorem SpX.one {C : Addr} {f1 : Str} : ∀ vs H Q E, SpX C [f1] vs H Q E → sp1 C f1 vs H Q E := fun vs H Q E h => by
  obtain ⟨a, ys, rfl, l, e, q⟩ := h
  match ys, l with
  | [y], _ => exact ⟨a, y, rfl, e, q⟩
theorem SpX.two {C : Addr} {f1 f2 : Str} : ∀ vs H Q E, SpX C [f1, f2] vs H Q E → sp2 C f1 f2 vs H Q E := fun vs H Q E h => by
  obtain ⟨a, ys, rfl, l, e, q⟩ := h
  match ys, l with
  | [y, z], _ => exact ⟨a, y, z, rfl, e, q⟩
/-- what is known of an error's class, at a place -/
structure ErrC (P : Program) (w : World) (K : PySem.W.Frag) (mg : Str → Option Value) (base : Heap) (T : Ad) (c n : Nat) : Prop where
  oex : OexC K (T.ca c)
  fl : (T.fl c).length = n ∧ n ≤ 100
  fn : ∃ fI fd ps, PySem.W.findIn K (.ref (T.ca c)) "__init__" = some (some (.ref fI)) ∧ PySem.W.typeIn K (.ref fI) = some (.type "function") ∧ Binds K fd ps [] ∧ FnOk P w K mg base (L2.CX P w) 1 fI fd ps (SpX (T.ca c) (T.fl c))

section
variable {X : Cx} {T : Ad} {P : Pg} {C : Caller} {q : Asker} {W : WX} {k : Nat}
theorem upd_xd {H1 : Hp} {a dx : Addr} {u1 u2 u3 o : HO} (na : H1 a = none) (ne : dx ≠ a) : upd (del (upd (upd (upd H1 a u1) dx u2) a u3) a) dx o = upd H1 dx o := by
  funext b
  by_cases e : b = dx
  · rw [e, upd_same, upd_same]
  · rw [upd_ne e, upd_ne e]
    by_cases e2 : b = a
    · rw [e2, del_same, na]
    · rw [del_ne e2, upd_ne e2, upd_ne e, upd_ne e2]
theorem ss_raise (c : Cok X T C k W) (hk : 1 ≤ k) {x : Str} {cn n : Nat} {e : Expr} {es : List Expr} {ias : As} {p pos pos' : Pos} (he : P.exc cn = some n) (E : ErrC X.prog X.w X.K X.mg X.base T cn n) (hg : Gl X x) (hm : X.mg x = some (.ref (T.ca cn)))
    (ha : PA X (e :: es) (tA T P C q X.pn W ias)) (hdb : (x == ("__debug__" : Str)) = false := by decide) (hs : starEach (e :: es) X.env = (false, eval e X.env) :: starEach es X.env := by rfl) (hpl : (backTo pos (starEach es X.env)).any (·.1) = false := by rfl) :
    PS X (.Raise (some (.Call (.Name x p) (e :: es) [] pos)) none pos') (tS T P C q X.pn W (.raise cn ias)) := by
  obtain ⟨fI, fd, ps, iC, tI, hb, F1⟩ := E.fn
  have hx : Passes (L2.CX X.prog X.w) X (fun _ _ _ => False) := fun pins σ H s e s' I cx => c.tk e s' (XE.of_call (W := W) I (fun _ _ _ z => z.elim) cx)
  refine PS_imp (ps_raise c.calm c.tk (pmk_oex (ds := []) (dvs := []) E.oex iC tI (F1.mono hk) c.room hb .nil hx hg hm ha hdb hs hpl)) fun D σ H h => ?_
  obtain ⟨S, r, rfl, w, er, p⟩ := h
  simp only [exS] at p
  refine ⟨S, r, rfl, w, er, ((st_then (R1 := RepVs T X.pn) er p).mono fun vs H1 ⟨S1, xs, e1, g1, w1, r1, p1⟩ => ?_)⟩
  subst e1
  split at p1 <;> try exact False.elim p1
  rename_i ds n' hd hn
  rw [he] at hn
  cases hn
  split at p1 <;> try exact False.elim p1
  rename_i hl
  have rl := RepVs.toL hd r1
  have hlv : vs.length = (T.fl cn).length := by rw [RepL.length rl, hl, E.fl.1]
  refine ⟨by rw [hlv, E.fl.1]; have := E.fl.2; omega, fun a na => ?_⟩
  rw [List.append_nil]
  refine ⟨a, vs, rfl, hlv, upd_same, fun dx nd ne => ?_⟩
  have nd1 : S1.H dx = none := by rw [upd_ne ne] at nd; exact nd
  refine ⟨rfl, dx, _, upd_same, by rw [upd_ne ne, upd_same], nd1, ?_⟩
  rw [upd_xd na ne]
  obtain ⟨g2, w2⟩ := Go.alloc (o := .xd ((T.fl cn).zip vs)) w1 nd1 (fun ps z => by cases z)
  exact p1 _ (.ref (T.ca cn)) (some dx) σ g2 w2 rfl ((er.go g1 w1).go g2 w2) ⟨rfl, .inr ⟨dx, vs, rfl, upd_same, RepL.mono g2.F _ _ rl, Nat.le_of_eq hlv⟩⟩
end
end BV

set_option Elab.async false
set_option maxRecDepth 100000
set_option maxHeartbeats 4000000
/-! BV29: a lambda is made; what the states gain. -/
namespace BV
open PySem PySem.Spec PyProof.Rows
open L2 hiding St It
open LamX (CodeO TabS Tabs ExtN TabB LamS lamEnv lamCx)
open PySem.W (kla_obj)

/-- the heap behind the making of a lambda: nothing is new, or a row of the table and a code object -/
def Laid1 (H H1 : Hp) (Pt c' : Addr) (q : Str) : Prop := H1 = H ∨ ∃ ps ps', H Pt = some (.tbl ps) ∧ H c' = none ∧ H1 = upd (upd H Pt (.tbl ps')) c' (CodeO c' q)

section
variable {X : Cx} {pins : List (Addr × Obj)} {σ : L2.St} {H : Hp} {s : Shared}
theorem lam_mk {tb : List (Addr × Str)} {c Pt : Addr} {params : Arguments} {body : Expr} {scope : Scope} {pos : Pos} {E : Value → Shared → Prop} {Q : Value → Shared → Prop} (I : Inv X pins σ H s) (B : TabB X.base X.mg c Pt) (hcode : X.env.code = .ref c)
    (hin : (Pt, X.env.qual ++ "<lambda>") ∈ tb) (hone : ∀ p ∈ tb, p.1 = Pt → p.2 = X.env.qual ++ "<lambda>") (ht : Tabs tb H) (hdef : defaultsOf params X.env = ([], [])) (hfree : ∀ y ∈ scope.names, y.2 = .free → ∃ c, X.env.cells.lookup y.1 = some c)
    (k : ∀ (f c' : Addr) (pm ctv : Value) (H1 : Hp) (s' : Shared), Inv X pins σ H1 s' → Tabs tb H1 → Laid1 H H1 Pt c' (X.env.qual ++ "<lambda>") →
      s'.heap.get? f = some (kla_obj "<lambda>" (X.env.qual ++ "<lambda>") params body scope (cloFrom X.env.cells scope.names []) pm c' ctv) → H1 f = none → f ∉ frs X.stack → H1 c' = some (CodeO c' (X.env.qual ++ "<lambda>")) → Q (.ref f) s') :
    wpAny (model X.prog X.w) X.A (eval (.Lambda params body scope pos) X.env) Q E s := by
  obtain ⟨rows, eP, tri, amg⟩ := ht _ hin
  have oP : s.heap.get? Pt = some { cls := .none, data := .fields rows } := I.hok Pt _ eP
  have bP : s.heap.BuiltinsAt X.mg Pt := B.bm.keeps I.bk
  have out : ∀ f, s.heap.objs.size ≤ f → f ∉ frs X.stack := fun f big z => (List.mem_cons.mp (I.stkSub f z)).elim (fun e => absurd (Nat.lt_of_lt_of_le I.lt big) (by rw [e]; exact Nat.lt_irrefl _)) (I.nofs big)
  refine PySem.W.kla_eval hdef ?_
  cases hit : codeAmong pos rows.toList with
  | some cv =>
    obtain ⟨c', rfl, hco⟩ := amg pos cv hit
    refine PySem.W.kla_makeFunctionHit (c := c) (P := Pt) (mg := X.mg) (ps := rows) (L2.closure_ok hfree) I.ok.glob (I.mod.glob.keeps I.bk) hcode (B.code.keeps I.bk) oP tri hit bP fun ctv h2 tk2 kp big => ?_
    have J : Inv X pins σ H { s with heap := h2.push (kla_obj "<lambda>" (X.env.qual ++ "<lambda>") params body scope (cloFrom X.env.cells scope.names []) ((X.mg "__name__").getD .none) c' ctv), toks := tk2 } := I.kept fun b o e => Heap.get?_push_of_some _ (kp b o e)
    exact k _ c' _ ctv H _ J ht (.inl rfl) (Heap.get?_push_size _ rfl) (I.hok.fresh big) (out _ big) hco
  | none =>
    refine PySem.W.kla_makeFunction (c := c) (P := Pt) (mg := X.mg) (ps := rows) (L2.closure_ok hfree) I.ok.glob (I.mod.glob.keeps I.bk) hcode (B.code.keeps I.bk) oP tri hit B.gP bP fun c' ctv h2 tk2 xb big lt2 rec2 tab2 => ?_
    obtain ⟨c2, oc, vs, tt, ec2, goc, gd, gv⟩ := rec2
    cases ec2
    have fresh : H c' = none := I.hok.fresh big
    have big2 : s.heap.objs.size ≤ h2.objs.size := Nat.le_of_lt (Nat.lt_of_le_of_lt big lt2)
    have neP : Pt ≠ c' := ne_of_none eP fresh
    let row : Array Value := #[rawInt pos.line, rawInt pos.col, .ref c']
    have J := LamX.inv_table (t' := tk2) (more := row) (h' := h2.push (kla_obj "<lambda>" (X.env.qual ++ "<lambda>") params body scope (cloFrom X.env.cells scope.names []) ((X.mg "__name__").getD .none) c' ctv)) I eP
      (fun b o nb eb => Heap.get?_push_of_some _ (xb b o nb eb)) (Heap.get?_push_of_some _ tab2) big ⟨oc, vs, tt, Heap.get?_push_of_some _ goc, gd, gv⟩
    have old : ∀ b o, H b = some o → b ≠ Pt → upd (upd H Pt (.tbl (rows ++ row))) c' (CodeO c' (X.env.qual ++ "<lambda>")) b = some o := fun b o eb nb => by
      rw [upd_ne (ne_of_none eb fresh), upd_ne nb, eb]
    have neO : ∀ {c0 : Addr}, H c0 = some (CodeO c0 (X.env.qual ++ "<lambda>")) → c0 ≠ Pt := fun e z => by
      rw [z, eP] at e
      cases e
    have lst : (rows ++ row).toList = rows.toList ++ [rawInt pos.line, rawInt pos.col, .ref c'] := by simp [row]
    refine k _ c' _ ctv _ _ J (fun p hp => ?_) (.inr ⟨rows, _, eP, fresh, rfl⟩) (Heap.get?_push_size _ rfl) ?_ (out _ big2) upd_same
    · by_cases z : p.1 = Pt
      · rw [hone p hp z, z]
        refine ⟨rows ++ row, by rw [upd_ne neP, upd_same], by rw [lst]; exact PySem.TriplesOk_snoc _ _ _ _ tri, fun p2 v2 h3 => ?_⟩
        rw [lst] at h3
        rcases LamX.among_app _ tri h3 with h4 | h4
        · obtain ⟨c0, e1, e2⟩ := amg p2 v2 h4
          exact ⟨c0, e1, old _ _ e2 (neO e2)⟩
        · exact ⟨c', h4, upd_same⟩
      · obtain ⟨rs, a1, a2, a3⟩ := ht p hp
        refine ⟨rs, old _ _ a1 z, a2, fun p2 v2 h3 => ?_⟩
        obtain ⟨c0, e1, e2⟩ := a3 p2 v2 h3
        refine ⟨c0, e1, old _ _ e2 fun z2 => ?_⟩
        rw [z2, eP] at e2
        cases e2
    · rw [upd_ne (Nat.ne_of_gt lt2), upd_ne (Nat.ne_of_gt (Nat.lt_of_lt_of_le (Heap.lt_size oP) big2))]
      exact I.hok.fresh big2
end
end BV

set_option Elab.async false
set_option maxRecDepth 100000
set_option maxHeartbeats 4000000
/-! BV30: a heard def: the lambda is called in it. -/
namespace BV
open PySem PySem.Spec PyProof.Rows
open L2 hiding St It
open LamX (CodeO TabS Tabs ExtN TabB LamS lamEnv lamCx)
open PySem.W (kla_obj)
section
variable {T : Ad}
theorem Go.laid1 {S : S8} {H1 : Hp} {Pt c' : Addr} {q : Str} (w : Wf T S) (hin : (Pt, q) ∈ T.tb) (l : Laid1 S.H H1 Pt c' q) (t : Tabs T.tb H1) : Go S { S with H := H1 } ∧ Wf T { S with H := H1 } := by
  rcases l with e | ⟨ps, ps', eP, fr, e⟩
  · subst e
    exact ⟨Go.refl S, w⟩
  · subst e
    have keep : ∀ b o, S.H b = some o → (∀ p, o ≠ .tbl p) → upd (upd S.H Pt (.tbl ps')) c' (CodeO c' q) b = some o := fun b o eb nt => by
      have n1 : b ≠ Pt := fun z => by
        rw [z, eP] at eb
        exact nt ps (Option.some.inj eb).symm
      rw [upd_ne (ne_of_none eb fr), upd_ne n1, eb]
    have g : Go S { S with H := upd (upd S.H Pt (.tbl ps')) c' (CodeO c' q) } := by
      refine ⟨fun a u e => e, fun a u e _ nt => keep a u e nt, fun a _ _ => rfl, fun a e => ?_, Nat.le_refl _, fun _ _ => rfl, fun n h => .inl h⟩
      obtain ⟨u, hu⟩ := Option.ne_none_iff_exists'.mp e
      show upd (upd S.H Pt (.tbl ps')) c' (CodeO c' q) a ≠ none
      rw [upd_ne (ne_of_none hu fr)]
      by_cases z : a = Pt
      · rw [z, upd_same]
        exact Option.some_ne_none _
      · rw [upd_ne z]
        exact e
    refine ⟨g, fun a u e => ?_, fun n c hc => ?_, w.inj, w.ft, t, fun a rs e => ?_, fun S0 h => (w.amb S0 h).trans g⟩
    · exact keep a u (w.fh a u e) fun p z => w.ft a p (by rw [← z]; exact e)
    · obtain ⟨h1, u, hu, cr⟩ := w.cell n c hc
      refine ⟨h1, u, keep _ _ hu fun p z => ?_, CellR.up g.F g.io g.len cr⟩
      subst z
      cases c with
      | lst xs =>
        obtain ⟨vs, e, _⟩ := cr
        cases e
      | ins c xs =>
        obtain ⟨dx, vs, e, _⟩ := cr
        cases e
    · have e' : upd (upd S.H Pt (.tbl ps')) c' (CodeO c' q) a = some (.tbl rs) := e
      by_cases z : a = c'
      · rw [z, upd_same] at e'
        exact absurd (Option.some.inj e') (LamX.codeO_ne rs)
      · rw [upd_ne z] at e'
        by_cases z2 : a = Pt
        · exact trivial
        · rw [upd_ne z2] at e'
          exact w.tin a rs e'
/-- the place where a lambda has been handed over: the state at the entry is kept in mind -/
def Ad.at (T : Ad) (S0 : S8) (f : Addr) : Ad := { T with am := fun S => S = S0, sl := some (.ref f) }
/-- two lists of addresses alike -/
structure SameA (T T' : Ad) : Prop where
  K : T'.K = T.K
  ca : T'.ca = T.ca
  fa : T'.fa = T.fa
  fl : T'.fl = T.fl
end
section
variable {T T' : Ad}
mutual
theorem RepD.same (A : SameA T T') {F : Hp} : ∀ (d : D) (v : V), RepD T F d v → RepD T' F d v
  | .non, v, h => by simpa [RepD] using h
  | .bl b, v, h => by simpa [RepD] using h
  | .int i, v, h => by simpa [RepD] using h
  | .str x, v, h => by simpa [RepD] using h
  | .tup l, v, h => by
    simp only [RepD] at h ⊢
    obtain ⟨a, xs, e, m, r⟩ := h
    rw [A.K]
    exact ⟨a, xs, e, m, RepL.same A l xs r⟩
  | .lst l, v, h => by
    simp only [RepD] at h ⊢
    obtain ⟨a, xs, e, m, r⟩ := h
    exact ⟨a, xs, e, m, RepL.same A l xs r⟩
  | .scr l, v, h => by
    simp only [RepD] at h ⊢
    obtain ⟨a, xs, e, m, r⟩ := h
    rw [A.K]
    exact ⟨a, xs, e, m, RepL.same A l xs r⟩
  | .dic ks vs, v, h => by
    simp only [RepD] at h ⊢
    obtain ⟨a, kvs, h1, h2, h3, h4⟩ := h
    exact ⟨a, kvs, h1, h2, h3, RepL.same A vs _ h4⟩
  | .ins c ds, v, h => by
    simp only [RepD] at h ⊢
    obtain ⟨a, dx, xs, e, m, r, z⟩ := h
    rw [A.ca, A.fl]
    exact ⟨a, dx, xs, e, m, RepL.same A ds xs r, z⟩
  | .fn f, v, h => by simpa [RepD, A.fa] using h
  | .cls c, v, h => by simpa [RepD, A.ca] using h
  | .ty s, v, h => by simpa [RepD] using h
theorem RepL.same (A : SameA T T') {F : Hp} : ∀ (ds : List D) (vs : List V), RepL T F ds vs → RepL T' F ds vs
  | [], vs, h => by simpa [RepL] using h
  | d :: ds, vs, h => by
    simp only [RepL] at h ⊢
    obtain ⟨x, xs, e, r1, r2⟩ := h
    exact ⟨x, xs, e, RepD.same A d x r1, RepL.same A ds xs r2⟩
end
variable (A : SameA T T')
include A
theorem RepV.same {pn : List (Addr × Obj)} {S : S8} : ∀ {v : Val} {w : V}, RepV T pn S v w → RepV T' pn S v w
  | .d x, w, h => RepD.same A x w h
  | .ref n, w, h => h
  | .exn c ds, w, h => by
    obtain ⟨a, oe, d, h1, h2, h3, h4, h5⟩ := h
    refine ⟨a, oe, d, h1, h2, by rw [A.ca]; exact h3, h4, ?_⟩
    rw [A.fl]
    exact h5.imp id fun ⟨dx, xs, e1, e2, e3, e4, e5⟩ => ⟨dx, xs, e1, e2, e3, RepL.same A _ _ e4, e5⟩
  | .lam, w, h => h
theorem RepVs.same {pn : List (Addr × Obj)} {S : S8} : ∀ {v : List Val} {w : List V}, RepVs T pn S v w → RepVs T' pn S v w
  | [], w, h => h
  | _ :: _, w, h => by
    obtain ⟨x, xs, e, h1, h2⟩ := h
    exact ⟨x, xs, e, RepV.same A h1, RepVs.same h2⟩
theorem CellR.same {S : S8} {c : Cell} {o : HO} (h : CellR T S c o) : CellR T' S c o := by
  cases c with
  | lst xs =>
    obtain ⟨vs, e, r⟩ := h
    exact ⟨vs, e, RepVs.same A r⟩
  | ins c xs =>
    obtain ⟨dx, vs, e, r, z⟩ := h
    exact ⟨dx, vs, by rw [A.ca, A.fl]; exact e, RepVs.same A r, by rw [A.fl]; exact z⟩
theorem RepX.same {S : S8} {c : Nat} {ds : List D} {cls : Value} {d : Option Addr} (h : RepX T S c ds cls d) : RepX T' S c ds cls d := by
  obtain ⟨h1, h2⟩ := h
  refine ⟨by rw [A.ca]; exact h1, ?_⟩
  rw [A.fl]
  exact h2.imp id fun ⟨dx, xs, e1, e2, e3, e4⟩ => ⟨dx, xs, e1, e2, RepL.same A _ _ e3, e4⟩
theorem Wf.same {S : S8} (ht : T'.tb = T.tb) (ha : ∀ S0, T'.am S0 → Go S0 S) (w : Wf T S) : Wf T' S :=
  ⟨w.fh, fun n c hc => let ⟨h1, o, h2, h3⟩ := w.cell n c hc; ⟨h1, o, h2, CellR.same A h3⟩, w.inj, w.ft, by rw [ht]; exact w.tabs, fun a ps e => trivial, ha⟩
end
section
variable {T : Ad}
theorem sameAt (S0 : S8) (f : Addr) : SameA T (T.at S0 f) := ⟨rfl, rfl, rfl, rfl⟩
theorem sameAtR (S0 : S8) (f : Addr) : SameA (T.at S0 f) T := ⟨rfl, rfl, rfl, rfl⟩
/-- to the heard def's place .. -/
theorem Wf.toAt {S0 S : S8} {f : Addr} (w : Wf T S) (g : Go S0 S) : Wf (T.at S0 f) S := w.same (sameAt S0 f) rfl fun S1 e => by
  have e : S1 = S0 := e
  rw [e]
  exact g
/-- .. and back -/
theorem Wf.ofAt {S0 S : S8} {f : Addr} (ha : ∀ S1, ¬ T.am S1) (w : Wf (T.at S0 f) S) : Wf T S := w.same (sameAtR S0 f) rfl fun S1 e => absurd e (ha S1)
theorem Wf.anchor {S0 S : S8} {f : Addr} (w : Wf (T.at S0 f) S) : Go S0 S := w.amb S0 rfl
theorem PostA.toAt {a b : Type} {S0 S : S8} {f : Addr} {R1 R2 : S8 → a → b → Prop} {r : R a} {Q : b → Hp → Prop} {E : Value → Option Addr → Hp → Prop} (ha : ∀ S1, ¬ T.am S1) (hR : ∀ S v w, R2 S v w → R1 S v w) (p : PostA T R1 r S Q E) : PostA (T.at S0 f) R2 r S Q E := by
  cases r with
  | ok v M => exact fun S' w g w' e h => p S' w g (w'.ofAt ha) e (hR _ _ _ h)
  | ex c ds M => exact fun S' cls d g w' e h => p S' cls d g (w'.ofAt ha) e (RepX.same (sameAtR S0 f) h)
  | no => exact p
theorem PostA.ofAt {a b : Type} {S0 S : S8} {f : Addr} {R1 R2 : S8 → a → b → Prop} {r : R a} {Q : b → Hp → Prop} {E : Value → Option Addr → Hp → Prop} (hR : ∀ S v w, R2 S v w → R1 S v w) (g0 : Go S0 S) (p : PostA (T.at S0 f) R1 r S Q E) : PostA T R2 r S Q E := by
  cases r with
  | ok v M => exact fun S' w g w' e h => p S' w g (w'.toAt (g0.trans g)) e (hR _ _ _ h)
  | ex c ds M => exact fun S' cls d g w' e h => p S' cls d g (w'.toAt (g0.trans g)) e (RepX.same (sameAt S0 f) h)
  | no => exact p
end
end BV

set_option Elab.async false
set_option maxRecDepth 100000
set_option maxHeartbeats 4000000
/-! BV31: handing a lambda over; asking it. -/
namespace BV
open PySem PySem.Spec PyProof.Rows
open L2 hiding St It
open LamX (CodeO TabS Tabs ExtN TabB LamS lamEnv lamCx)
open PySem.W (kla_obj)

/-- a call of f, at any state behind S0, is told by g -/
structure Asks (P : Program) (w : World) (K : PySem.W.Frag) (mg : Str → Option Value) (base : Heap) (T : Ad) (outer0 : List PySem.Env) (S0 : S8) (s0 : Shared) (f : Addr) (k : Nat) (g : Store → R Val) : Prop where
  fn : PySem.W.FnAt f s0.heap
  no : S0.H f = none
  fr : f ∉ frs outer0
  run : ∀ (A : Around) (outer : List PySem.Env) (s1 : Shared) (S1 : S8) (Q : VK) (E : XK), Room k A → Env0 P w K mg base A outer s1 S1.H → Un (frs outer0) [] S0.H S1.H s0.heap s1.heap → Wf (T.at S0 f) S1 → Post T [] (g S1.M) S1 Q E →
    codeAny (model P w) A (.call (.ref f) ⟨[], []⟩) (CR (L2.CX P w) outer P w S1.H s1 Q E) s1
/-- a def that is handed a lambda keeps its promise -/
def HearOk (X : Cx) (T : Ad) (C : Caller) (k : Nat) : Prop :=
  ∀ (n : Nat) (A : Around) (outer : List PySem.Env) (s : Shared) (S : S8) (f : Addr) (g : Store → R Val) (Q : VK) (E : XK), Room (k + 3) A → Plain T A n → Env0 X.prog X.w X.K X.mg X.base A outer s S.H → Wf T S →
    Asks X.prog X.w X.K X.mg X.base T outer S s f (k + 2) g → Post T [] (C n (some g) [] S.M) S Q E →
    codeAny (model X.prog X.w) A (.call (.ref (T.fa n)) ⟨[.ref f], []⟩) (CR (L2.CX X.prog X.w) outer X.prog X.w S.H s Q E) s

section
variable {X : Cx} {T : Ad} {P : Pg} {C : Caller} {q : Asker} {W : WX} {k : Nat}
/-- a(), in the def that got the lambda -/
theorem se_ask {S0 : S8} {f : Addr} {g : Store → R Val} {a : Str} {p1 p2 : Pos} (hN : X.N[0]? = some a) (hv : Vis X.env.scope a) (tk : Takes X W) (hr : Room k X.A) (hex : X.ex = []) (h0 : X.H_0 = S0.H)
    (as : Asks X.prog X.w X.K X.mg X.base T X.outer S0 X.s_0 f k g) (ha : ∀ S1, ¬ T.am S1) (hd : (a == ("__debug__" : Str)) = false := by decide) (hcd : (a == ("__classdict__" : Str)) = false := by decide) :
    PE X (.Call (.Name a p1) [] [] p2) (tE (T.at S0 f) P C (some g) X.pn W .ask) := by
  refine ⟨fun pins s σ H Q I h => ?_⟩
  obtain ⟨S, r, rfl, w, er, p⟩ := h
  simp only [ev] at p
  split at p <;> try exact False.elim p
  rename_i hl
  obtain ⟨u, e1, e2⟩ := er.2 0 .lam hl
  have e3 : u = .ref f := by
    rcases e2 with e2 | ⟨_, e2⟩
    · exact False.elim e2
    · exact (Option.some.inj e2).symm
  subst e3
  refine wpAny_Call_Name_kw (thn ((pe_var (pos := p1) (i := 0) hN hv hd hcd).run pins s σ S.H (fun v H1 => v = .ref f ∧ H1 = S.H) I ⟨.ref f, e1, rfl, rfl⟩) fun u s1 ⟨v, H1, I1, r1, q1⟩ => ?_)
  obtain ⟨ev, eH⟩ := q1
  subst ev
  rw [eH] at I1
  obtain rfl : u = Value.ref f := r1
  have un : Un (frs X.outer) [] S0.H S.H X.s_0.heap s1.heap := by
    have b := I1.base
    rw [hex, h0] at b
    exact b
  have fn1 : PySem.W.FnAt f s1.heap := by
    obtain ⟨oc, od, fd, sl, of⟩ := as.fn
    exact ⟨oc, od, fd, sl, un.keep f _ of as.no as.fr (by simp)⟩
  refine PySem.W.callWith_F0 fn1 ?_
  have pp : Post T [] (g S.M) S Q (atW W σ) := Post.nil (Post.toA.mpr (PostA.ofAt (R1 := RepV (T.at S0 f) X.pn) (R2 := RepV T X.pn) (fun S v w h => RepV.same (sameAt S0 f) h) w.anchor (Post.toA.mp p)))
  refine wpAny_call (codeAny_mono (as.run X.A X.stack s1 S Q (atW W σ) hr I1.env0 un w pp) fun r s' hq => ?_)
  cases r with
  | error e => exact tk _ _ (XE.of_call I1 (fun cls d H' z => z) hq)
  | ok fl =>
    cases fl with
    | ret u => exact I1.after hq
    | next => exact False.elim hq
    | brk => exact False.elim hq
    | cont => exact False.elim hq

theorem cell_noCode {S : S8} {a : Addr} {n : Str} (w : Wf T S) (h : S.H a = some (CodeO a n)) : NoCell S a := fun m ⟨c, hc⟩ e => by
  obtain ⟨_, o, ho, cr⟩ := w.cell m c hc
  rw [e, h] at ho
  cases ho
  cases c with
  | lst xs =>
    obtain ⟨vs, e, _⟩ := cr
    unfold CodeO at e
    cases e
  | ins c xs =>
    obtain ⟨dx, vs, e, _⟩ := cr
    unfold CodeO at e
    cases e
/-- g(lambda: e) -/
theorem se_hear (c : Cok X T C k W) (hh : HearOk X T C k) (hr3 : Room (k + 3) X.A) {x : Str} {n : Nat} {cd Pt : Addr} {params : Arguments} {body : Expr} {scope : Scope} {ie : E} {p lpos pos : Pos} (ha : ∀ S1, ¬ T.am S1) (hp : Plain T X.A n) (hg : Gl X x) (hm : X.mg x = some (.ref (T.fa n)))
    (hk : PySem.W.keepIn X.K (.ref (T.fa n)) = true) (B : TabB X.base X.mg cd Pt) (hcode : X.env.code = .ref cd) (hin : (Pt, X.env.qual ++ "<lambda>") ∈ T.tb) (hone : ∀ p ∈ T.tb, p.1 = Pt → p.2 = X.env.qual ++ "<lambda>") (L : LamS X.env.scope scope)
    (hdef : defaultsOf params X.env = ([], [])) (hbind : ∀ (q : Str) (cl : List (Str × Addr)) (pm cv ctv : Value), bindArgs (PySem.W.kla_fn "<lambda>" q params body scope cl pm cv ctv) ⟨[], []⟩ = pure [])
    (hbody : ∀ (A : Around) (outer : List PySem.Env) (s : Shared) (H : Hp) (E : XK) (f c' : Addr), Room (k + 1) (A.deeper (lamEnv X scope s.heap.objs.size f c')) → Takes (lamCx X A outer s H E scope f c') (fun cls d _ H' => E cls d H') →
      PE (lamCx X A outer s H E scope f c') body (tE T P C q [] (fun cls d _ H' => E cls d H') ie))
    (hdb : (x == ("__debug__" : Str)) = false := by decide) : PE X (.Call (.Name x p) [.Lambda params body scope lpos] [] pos) (tE T P C q X.pn W (.hear n ie)) := by
  refine ⟨fun pins s σ H Q I h => ?_⟩
  obtain ⟨S, r, rfl, w, er, p⟩ := h
  simp only [ev] at p
  refine wpAny_Call_Name_kw (ld_glob I hg hm ?_ hdb)
  refine PySem.W.callWith_K (h₀ := X.base) I.ok.mod.kin hk ?_ (by rfl) (by rfl)
  show wpAny _ _ (spliced ((false, eval (.Lambda params body scope lpos) X.env) :: backTo pos (starEach [] X.env))) _ _ s
  refine Calls.spliced_cons (lam_mk I B hcode hin hone w.tabs hdef (L.has I.ok) fun f c' pm ctv H1 s' I1 T1 l1 of nf fr hco => ?_)
  refine Calls.spliced_nil ⟨I1.kIn, ?_⟩
  obtain ⟨g1, w1⟩ := Go.laid1 w hin l1 T1
  have p1 : Post T [] (C n (some fun M1 => ev P C q ie (dropX r) M1) [] S.M) { S with H := H1 } Q (atW W σ) := Post.from g1 (Post.nil p)
  have er1 : EnvR T [] { S with H := H1 } (dropX r) σ := EnvR.dropX (er.go g1 w1)
  have as : Asks X.prog X.w X.K X.mg X.base T X.stack { S with H := H1 } s' f (k + 2) (fun M1 => ev P C q ie (dropX r) M1) := by
    refine ⟨⟨_, _, _, _, of⟩, nf, fr, fun A outer s1 S1 Q1 E1 hr e0 un w2 post => ?_⟩
    have of1 := un.keep f _ of nf fr (by simp)
    have hco1 : S1.H c' = some (CodeO c' (X.env.qual ++ "<lambda>")) := w2.anchor.H c' _ hco (cell_noCode w1 hco) LamX.codeO_ne
    obtain ⟨⟨oc, vs, t, hoc, hdc, hvc⟩, _, _⟩ := e0.hok c' _ hco1
    have lim : s1.heap.NoLimit := e0.mod.nolimit.keeps fun b o e => (e0.bs b o e).1
    refine PySem.W.kla_callFunE hr.depth of1 rfl L.co L.gen rfl ⟨c', oc, vs, t, rfl, hoc, hdc, hvc⟩ ?_
    rw [hbind]
    refine wpAny_pure (wpAny_newFunctionEnv (fun y hy => (L.own y hy).2) (fun y hy => absurd hy (by simp)) (fun h₁ hns hsb => ⟨lim.fresh _ hsb, ?_⟩) L.kind)
    have kp : ∀ b o, s1.heap.get? b = some o → h₁.get? b = some o := fun b o e => hsb.extBut b o (Nat.ne_of_lt (Heap.lt_size e)) (Heap.get?_push_of_some _ e)
    have J : Inv (lamCx X A outer s1 S1.H E1 scope f c') [] σ S1.H { s1 with heap := h₁, toks := s1.toks + ([] : List (Str × Value)).length } := LamX.lam_start2 I1 L e0 hr.hd un hns kp
    have tk2 : Takes (lamCx X A outer s1 S1.H E1 scope f c') (fun cls d _ H' => E1 cls d H') := takes_of (X := lamCx X A outer s1 S1.H E1 scope f c') rfl rfl rfl rfl
    have w2' := w2.ofAt ha
    refine PySem.W.kla_codeExpr (wpAny_mono ((hbody A outer s1 S1.H E1 f c' (hr.deeper _) tk2).run [] _ σ S1.H Q1 J ⟨S1, dropX r, rfl, w2', er1.go w2.anchor w2', post⟩) (fun v s2 hq => ?_) fun e s2 hq => hq)
    obtain ⟨w', H', J', rv, q⟩ := hq
    exact ⟨w', H', J'.os, J'.bare, J'.base, J'.hok, rv, q⟩
  refine wpAny_call (codeAny_mono (hh n X.A X.stack s' { S with H := H1 } f _ Q (atW W σ) hr3 hp I1.env0 w1 as p1) fun r s2 hq => ?_)
  cases r with
  | error e => exact c.tk _ _ (XE.of_call I1 (fun cls d H' z => z) hq)
  | ok fl =>
    cases fl with
    | ret u => exact I1.after hq
    | next => exact False.elim hq
    | brk => exact False.elim hq
    | cont => exact False.elim hq
end
end BV

set_option Elab.async false
set_option maxRecDepth 100000
set_option maxHeartbeats 4000000
/-! BV32: a def is entered, with the store or with a store of its own. -/
namespace BV
open PySem PySem.Spec PyProof.Rows
open L2 hiding St It

section
variable {T : Ad}
theorem retOf_post {pn : List (Addr × Obj)} {r : SR} {S : S8} {Q : VK} {E : XK} (p : Post T pn (retOf r) S Q E) : SPost T pn (fun cls d _ H => E cls d H) r S { nx := fun _ H' => Q .non H', rt := Q } := by
  cases r with
  | ok f M =>
    cases f with
    | nx r' =>
      intro S' σ' g w e er
      exact p S' .non g w e (rp_non (T := T) (F := S'.F))
    | rt v =>
      have p' : Post T pn (if plainV v then .ok v M else .no) S Q E := p
      split at p'
      · exact p'
      · exact p'.elim
    | bk r' => exact p.elim
    | ct r' => exact p.elim
  | ex c ds r' M => exact fun S' cls d σ' g w e er rx => p S' cls d g w e rx
  | no => exact p.elim
theorem repVs_get {pn : List (Addr × Obj)} {S : S8} : ∀ {l : List Val} {vs : List V} {i : Nat} {v : Val}, RepVs T pn S l vs → l[i]? = some v → ∃ w, vs[i]? = some w ∧ RepV T pn S v w
  | [], vs, i, v, h, e => by simp at e
  | x :: xs, vs, i, v, h, e => by
    obtain ⟨y, ys, e1, h1, h2⟩ := h
    subst e1
    cases i with
    | zero =>
      simp at e
      subst e
      exact ⟨y, rfl, h1⟩
    | succ i => exact repVs_get (i := i) h2 (by simpa using e)
/-- the slots at the entry -/
theorem startE_ok {pn : List (Addr × Obj)} {S : S8} {N : List Str} {ns : Nat} {as : List Val} {vs : List V} (hN : N.length = ns) (r : RepVs T pn S as vs) : EnvR T pn S (startE ns as) (L2.start N vs) := by
  have hl : vs.length = as.length := RepVs.length r
  refine ⟨by unfold startE L2.start; simp only [List.length_append, List.length_map, List.length_replicate]; omega, fun i v e => ?_⟩
  unfold startE at e
  by_cases hi : i < as.length
  · rw [List.getElem?_append_left (by simpa using hi), List.getElem?_map] at e
    cases z : as[i]? with
    | none => rw [z] at e; cases e
    | some u =>
      rw [z] at e
      cases e
      obtain ⟨w, e1, e2⟩ := repVs_get r z
      refine ⟨w, ?_, .inl e2⟩
      unfold L2.start
      rw [List.getElem?_append_left (by simp; omega), List.getElem?_map, e1]
      rfl
  · rw [List.getElem?_append_right (by simpa using hi), List.getElem?_replicate] at e
    split at e <;> cases e

/-! ### a store of its own -/
def S8.bare (S : S8) : S8 := { S with M := [] }
theorem bare_wf {S : S8} (ha : ∀ S0, ¬ T.am S0) (w : Wf T S) : Wf T S.bare :=
  ⟨w.fh, fun n c h => by simp [S8.bare] at h, fun n m ⟨c, h⟩ => by simp [S8.bare] at h, w.ft, w.tabs, w.tin, fun S0 h => absurd h (ha S0)⟩
theorem bare_noCell (S : S8) (a : Addr) : NoCell S.bare a := fun n ⟨c, h⟩ => by simp [S8.bare] at h
def S8.back (S S' : S8) : S8 := { F := S'.F, H := S'.H, io := S.io, M := S.M }
theorem back_ok {S S' : S8} (ha : ∀ S0, ¬ T.am S0) (w : Wf T S) (g : Go S.bare S') (w' : Wf T S') : Go S (S.back S') ∧ Wf T (S.back S') := by
  have keepC : ∀ {n c}, S.M[n]? = some (some c) → ∃ o, S.H (S.io n) = some o ∧ S'.H (S.io n) = some o ∧ CellR T S c o := fun {n c} hc => by
    obtain ⟨_, o, ho, cr⟩ := w.cell n c hc
    refine ⟨o, ho, g.H _ _ ho (bare_noCell S _) (fun ps z => ?_), cr⟩
    subst z
    cases c with
    | lst xs =>
      obtain ⟨vs, e, _⟩ := cr
      cases e
    | ins c xs =>
      obtain ⟨dx, vs, e, _⟩ := cr
      cases e
  have G : Go S (S.back S') := ⟨g.F, fun a o h _ nt => g.H a o h (bare_noCell S a) nt, fun a h _ => g.Fn a h (bare_noCell S a), g.dom, Nat.le_refl _, fun _ _ => rfl, fun n h => .inl h⟩
  refine ⟨G, w'.fh, fun n c hc => ?_, w.inj, w'.ft, w'.tabs, w'.tin, fun S0 h => absurd h (ha S0)⟩
  obtain ⟨o, ho, ho', cr⟩ := keepC hc
  refine ⟨?_, o, ho', CellR.up (S := S) (S' := S.back S') g.F (fun _ _ => rfl) (Nat.le_refl _) cr⟩
  exact (g.Fn (S.io n) (by show S.H (S.io n) ≠ none; rw [ho]; exact Option.some_ne_none _) (bare_noCell S _)).trans (w.cell n c hc).1
theorem repVs_bare {S : S8} : ∀ {l : List Val} {vs : List V} {ds : List D}, allD l = some ds → RepVs T [] S l vs → RepVs T [] S.bare l vs
  | [], vs, ds, _, h => h
  | .d x :: xs, vs, ds, e, h => by
    obtain ⟨y, ys, e1, h1, h2⟩ := h
    simp only [allD] at e
    split at e
    · rename_i z
      exact ⟨y, ys, e1, h1, repVs_bare z h2⟩
    · cases e
  | .ref n :: xs, vs, ds, e, h => by simp [allD] at e
  | .exn c es :: xs, vs, ds, e, h => by simp [allD] at e
  | .lam :: xs, vs, ds, e, h => by simp [allD] at e
def pureR (r : R Val) (M : Store) : R Val := match r with
  | .ok (.d x) _ => .ok (.d x) M
  | .ok _ _ => .no
  | .ex c ds _ => .ex c ds M
  | .no => .no
theorem pure_post {S : S8} {r : R Val} {Q : VK} {E : XK} (ha : ∀ S0, ¬ T.am S0) (w : Wf T S) (p : Post T [] (pureR r S.M) S Q E) : Post T [] r S.bare Q E := by
  cases r with
  | ok v M =>
    cases v with
    | d x =>
      intro S' u g w' e h
      obtain ⟨G, W⟩ := back_ok ha w g w'
      exact p (S.back S') u G W rfl h
    | ref n => exact p.elim
    | exn c ds => exact p.elim
    | lam => exact p.elim
  | ex c ds M =>
    intro S' cls d g w' e rx
    obtain ⟨G, W⟩ := back_ok ha w g w'
    exact p (S.back S') cls d G W rfl rx
  | no => exact p.elim
end
end BV

set_option Elab.async false
set_option maxRecDepth 100000
set_option maxHeartbeats 4000000
/-! BV33: all defs keep their promises, level by level. -/
namespace BV
open PySem PySem.Spec PyProof.Rows
open L2 hiding St It

section
variable (Pr : Program) (w : World) (mg : Str → Option Value) (base : Heap) (T : Ad) (P : Pg)
/-- the place of a def's body -/
abbrev plc (N : List Str) (qual : Str) (scope : Scope) (fa : Addr) (cdv : Value) (A : Around) (outer : List PySem.Env) (s : Shared) (H : Hp) (E : XK) : Cx :=
  cxOf (L2.CX Pr w) Pr w T.K mg base N qual scope fa cdv A outer s H E
def CallP (C : Caller) (k : Nat) : Prop :=
  ∀ (f : Nat) (A : Around) (outer : List PySem.Env) (s : Shared) (S : S8) (as : List Val) (us : List Value) (vs : List V) (Q : VK) (E : XK), Room k A → Plain T A f → Env0 Pr w T.K mg base A outer s S.H → Vals vs us →
    Wf T S → RepVs T [] S as vs → Post T [] (C f none as S.M) S Q E →
    codeAny (model Pr w) A (.call (.ref (T.fa f)) ⟨us, []⟩) (CR (L2.CX Pr w) outer Pr w S.H s Q E) s
def HearP (C : Caller) (k : Nat) : Prop :=
  ∀ (n : Nat) (A : Around) (outer : List PySem.Env) (s : Shared) (S : S8) (f : Addr) (g : Store → R Val) (Q : VK) (E : XK), Room (k + 3) A → Plain T A n → Env0 Pr w T.K mg base A outer s S.H → Wf T S →
    Asks Pr w T.K mg base T outer S s f (k + 2) g → Post T [] (C n (some g) [] S.M) S Q E →
    codeAny (model Pr w) A (.call (.ref (T.fa n)) ⟨[.ref f], []⟩) (CR (L2.CX Pr w) outer Pr w S.H s Q E) s
/-- a call with any arguments that bind to the parameters ps -/
def KwP (C : Caller) (k : Nat) : Prop :=
  ∀ (f : Nat) (oc : Value) (od : Option Addr) (fd : FuncData) (osl : Array (Option Value)) (A : Around) (outer : List PySem.Env) (s : Shared) (S : S8) (args : Args) (as : List Val) (us : List Value) (vs : List V) (Q : VK) (E : XK), T.K.lookup (T.fa f) = some ⟨oc, od, .func fd, osl⟩ → (∀ I, P.fn f = some I → I.star = false) →
    Room k A → Plain T A f → Env0 Pr w T.K mg base A outer s S.H → BindsTo s fd args ((fd.params.args.map (·.arg)).zip us) → Vals vs us → us.length = (fd.params.args.map (·.arg)).length → Wf T S → RepVs T [] S as vs → Post T [] (C f none as S.M) S Q E →
    codeAny (model Pr w) A (.call (.ref (T.fa f)) args) (CR (L2.CX Pr w) outer Pr w S.H s Q E) s
/-- what a body may lean on -/
structure Pls (X : Cx) (T : Ad) (P : Pg) (C : Caller) (k : Nat) (W : WX) : Prop where
  cok : Cok X T C k W
  one : 1 ≤ k
  hear : HearOk X T C k
  room : Room (k + 3) X.A
  kw : KwP X.prog X.w X.mg X.base T P C k
/-- binding: positional arguments, as the small language binds -/
def BindX (fd : FuncData) (ps : List Str) (I : FnI) : Prop :=
  ∀ (A : Around) (outer : List PySem.Env) (s : Shared) (S : S8) (as as' : List Val) (us : List Value) (vs : List V) (E : XK), Env0 Pr w T.K mg base A outer s S.H → Wf T S → Vals vs us → RepVs T [] S as vs → bindUp I as = some as' →
    StX.Bnd (L2.CX Pr w) Pr w T.K mg base fd ⟨us, []⟩ ps A outer s S.H E (fun vs2 H2 => ∃ S2, S2.H = H2 ∧ Go S S2 ∧ Wf T S2 ∧ S2.M = S.M ∧ RepVs T [] S2 as' vs2)
def BodyX (f : Nat) (N : List Str) (qual : Str) (scope : Scope) (cdv : Value) (I : FnI) (body : List Stmt) : Prop :=
  ∀ (C : Caller) (k : Nat) (A : Around) (outer : List PySem.Env) (s : Shared) (H : Hp) (E : XK), Plain T A f → Pls (plc Pr w mg base T N qual scope (T.fa f) cdv A outer s H E) T P C k (fun cls d _ H' => E cls d H') →
    PSs (plc Pr w mg base T N qual scope (T.fa f) cdv A outer s H E) body (tSs T P C none [] (fun cls d _ H' => E cls d H') I.body)
def BodyH (f : Nat) (N : List Str) (qual : Str) (scope : Scope) (cdv : Value) (I : FnI) (body : List Stmt) : Prop :=
  ∀ (C : Caller) (k : Nat) (A : Around) (outer : List PySem.Env) (s : Shared) (S : S8) (E : XK) (f0 : Addr) (g : Store → R Val), Plain T A f → Cok (plc Pr w mg base T N qual scope (T.fa f) cdv A outer s S.H E) (T.at S f0) C k (fun cls d _ H' => E cls d H') → 1 ≤ k → Room (k + 6) (plc Pr w mg base T N qual scope (T.fa f) cdv A outer s S.H E).A →
    (∀ S1, ¬ T.am S1) → Asks Pr w T.K mg base T outer S s f0 (k + 6) g →
    PSs (plc Pr w mg base T N qual scope (T.fa f) cdv A outer s S.H E) body (tSs (T.at S f0) P C (some g) [] (fun cls d _ H' => E cls d H') I.body)
structure DefX (f : Nat) (I : FnI) : Prop where
  ex : ∃ (name qual : Str) (params : Arguments) (body : List Stmt) (scope : Scope) (dV kV doc pm cdv ct oc : Value) (an od : Option Addr) (osl : Array (Option Value)) (N ps : List Str),
    T.K.lookup (T.fa f) = some ⟨oc, od, .func (PySem.W.fnOf name qual params body scope dV kV doc pm an cdv ct), osl⟩ ∧ PySem.W.codeIn T.K cdv qual = true ∧ FnScope N ps scope ∧ N.length = I.ns ∧
    (I.hr = false → (I.star = false → ps = params.args.map (·.arg) ∧ ps.length = I.np) ∧ BindX Pr w mg base T (PySem.W.fnOf name qual params body scope dV kV doc pm an cdv ct) ps I ∧ BodyX Pr w mg base T P f N qual scope cdv I body) ∧
    (I.hr = true → (∃ a, ps = [a]) ∧ L2.Binds T.K (PySem.W.fnOf name qual params body scope dV kV doc pm an cdv ct) ps [] ∧ BodyH Pr w mg base T P f N qual scope cdv I body)
end
section
variable {Pr : Program} {w : World} {mg : Str → Option Value} {base : Heap} {T : Ad} {P : Pg}
theorem callF_rf (n : Nat) : ∀ f as M, as.all plainV = true ∨ callF P n f none as M = .no := fun f as M => by
  cases h : as.all plainV with
  | true => exact .inl rfl
  | false =>
    refine .inr ?_
    cases n with
    | zero => rfl
    | succ n =>
      unfold callF
      cases P.fn f with
      | none => rfl
      | some I =>
        have e : bindUp I as = none := by
          unfold bindUp
          rw [if_pos h]
        simp only [e]
        split <;> rfl
/-- promises at a heard def's place -/
theorem CallP.at {C : Caller} {k : Nat} (ha : ∀ S1, ¬ T.am S1) (c : CallP Pr w mg base T C k) (S0 : S8) (f0 : Addr) : CallP Pr w mg base (T.at S0 f0) C k := fun f A outer s S as us vs Q E hr hp e0 rv ws ra p =>
  c f A outer s S as us vs Q E hr hp e0 rv (ws.ofAt ha) (RepVs.same (sameAtR S0 f0) ra) (Post.toA.mpr (PostA.ofAt (R1 := RepV (T.at S0 f0) []) (fun S v w h => RepV.same (sameAt S0 f0) h) ws.anchor (Post.toA.mp p)))
theorem pureF_eq {C : Caller} {I : FnI} {vs : List Val} {M : Store} {S : S8} {Q : VK} {E : XK} (p : Post T [] (pureF P C I vs M) S Q E) : ∃ ds, allD vs = some ds ∧ Post T [] (pureR (bodyF P C none I vs []) M) S Q E := by
  unfold pureF at p
  cases z : allD vs with
  | none => rw [z] at p; exact p.elim
  | some ds =>
    rw [z] at p
    refine ⟨ds, rfl, ?_⟩
    unfold pureR
    exact p
theorem step_call {n k : Nat} (ha : ∀ S1, ¬ T.am S1) (hk : 1 ≤ k) (hd : ∀ f I, P.fn f = some I → DefX Pr w mg base T P f I) (hc : CallP Pr w mg base T (callF P n) k) (hh : HearP Pr w mg base T (callF P n) k) (hkw : KwP Pr w mg base T P (callF P n) k) : CallP Pr w mg base T (callF P (n + 1)) (k + 4) := by
  intro f A outer s S as us vs Q E hr hp e0 rv ws ra p
  unfold callF at p
  split at p
  · exact p.elim
  rename_i I hI
  split at p
  · exact p.elim
  rename_i hH
  split at p
  · exact p.elim
  rename_i as' hb
  obtain ⟨name, qual, params, body, scope, dV, kV, doc, pm, cdv, ct, oc, an, od, osl, N, ps, lk, hcd, FS, hN, h1, h2⟩ := (hd f I hI).ex
  have noH : I.hr = false := by
    cases z : I.hr with
    | false => rfl
    | true => exact absurd z hH
  obtain ⟨_, bx, bo⟩ := h1 noH
  refine StX.run_bnd lk hcd FS hr e0 (bx A outer s S as as' us vs E e0 ws rv ra hb) fun s2 H2 vs2 ⟨S2, eH, g2, w2, eM, r2⟩ hr' => ?_
  subst eH
  have X := plc Pr w mg base T N qual scope (T.fa f) cdv A outer s2 S2.H E
  have pl : Pls (plc Pr w mg base T N qual scope (T.fa f) cdv A outer s2 S2.H E) T P (callF P n) k (fun cls d _ H' => E cls d H') :=
    ⟨⟨rfl, takes_of rfl rfl rfl rfl, hr'.mono (by omega), hc, rfl, callF_rf n⟩, hk, hh, hr', hkw⟩
  refine ⟨_, bo (callF P n) k A outer s2 S2.H E hp pl, ?_⟩
  have p2 := Post.from g2 p
  split at p2
  · obtain ⟨ds, hds, p3⟩ := pureF_eq p2
    rw [← eM] at p3
    exact ⟨S2.bare, startE I.ns as', rfl, bare_wf ha w2, startE_ok hN (repVs_bare hds r2), retOf_post (pure_post ha w2 p3)⟩
  · rw [← eM] at p2
    exact ⟨S2, startE I.ns as', rfl, w2, startE_ok hN r2, retOf_post p2⟩
end
end BV

set_option Elab.async false
set_option maxRecDepth 100000
set_option maxHeartbeats 4000000
/-! BV34: .. and a heard def; all levels. -/
namespace BV
open PySem PySem.Spec PyProof.Rows
open L2 hiding St It

section
variable {Pr : Program} {w : World} {mg : Str → Option Value} {base : Heap} {T : Ad} {P : Pg}
theorem startL_ok {S S0 : S8} {f : Addr} {N : List Str} {ns : Nat} (hN : N.length = ns) : EnvR (T.at S0 f) [] S (startE ns [.lam]) (L2.start N [.ref f]) := by
  refine ⟨by unfold startE L2.start; simp only [List.length_append, List.length_map, List.length_replicate]; rw [hN]; rfl, fun i v e => ?_⟩
  unfold startE at e
  cases i with
  | zero =>
    have e1 : v = .lam := by
      simp at e
      exact e.symm
    exact ⟨.ref f, rfl, .inr ⟨e1, rfl⟩⟩
  | succ i =>
    rw [List.getElem?_append_right (by simp), List.getElem?_replicate] at e
    split at e <;> cases e
theorem step_hear {n k : Nat} (ha : ∀ S1, ¬ T.am S1) (hk : 1 ≤ k) (hd : ∀ f I, P.fn f = some I → DefX Pr w mg base T P f I) (hc : CallP Pr w mg base T (callF P n) k) : HearP Pr w mg base T (callF P (n + 1)) (k + 4) := by
  intro f A outer s S fo g Q E hr hp e0 ws as p
  unfold callF at p
  split at p
  · exact p.elim
  rename_i I hI
  split at p
  · rename_i hH
    obtain ⟨name, qual, params, body, scope, dV, kV, doc, pm, cdv, ct, oc, an, od, osl, N, ps, lk, hcd, FS, hN, h1, h2⟩ := (hd f I hI).ex
    obtain ⟨⟨a, eps⟩, hb, bo⟩ := h2 hH
    subst eps
    have KX : T.K.In s.heap := e0.mod.kin.keeps fun b o e => (e0.bs b o e).1
    refine LamX.run_ofS (k := k + 6) (us := [.ref fo]) (vs := [.ref fo]) lk hcd FS hr e0 (hb s [.ref fo] KX rfl) (.cons rfl .nil) rfl fun hr' => ?_
    have c : Cok (plc Pr w mg base T N qual scope (T.fa f) cdv A outer s S.H E) (T.at S fo) (callF P n) k (fun cls d _ H' => E cls d H') :=
      ⟨rfl, takes_of rfl rfl rfl rfl, hr'.mono (by omega), CallP.at ha hc S fo, rfl, callF_rf n⟩
    refine ⟨_, bo (callF P n) k A outer s S E fo g hp c hk hr' ha as, ?_⟩
    refine ⟨S, startE I.ns [.lam], rfl, ws.toAt (Go.refl S), startL_ok hN, retOf_post ?_⟩
    exact Post.toA.mpr (PostA.toAt (R1 := RepV T []) ha (fun S2 v w h => RepV.same (sameAtR S fo) h) (Post.toA.mp p))
  · exact p.elim
end
end BV

set_option Elab.async false
set_option maxRecDepth 100000
set_option maxHeartbeats 4000000
/-! BV35: how defs bind. -/
namespace BV
open PySem PySem.Spec PyProof.Rows
open L2 hiding St It

section
variable {Pr : Program} {w : World} {mg : Str → Option Value} {base : Heap} {T : Ad} {P : Pg} {fd : FuncData} {ps : List Str} {I : FnI}
/-- the defaults, as they stand behind the arguments -/
def DflX (T : Ad) (I : FnI) (ds : List Value) : Prop := ∃ vs, Vals vs ds ∧ vs.length = I.dfl.length ∧ ∀ F, RepL T F I.dfl vs
theorem repL_drop {F : Hp} : ∀ (n : Nat) {l : List D} {vs : List V}, RepL T F l vs → RepL T F (l.drop n) (vs.drop n)
  | 0, l, vs, h => by simpa using h
  | n + 1, [], vs, h => by
    have h' : vs = [] := by simpa [RepL] using h
    subst h'
    simpa [RepL] using h
  | n + 1, x :: l, vs, h => by
    simp only [RepL] at h
    obtain ⟨y, ys, e, _, h2⟩ := h
    subst e
    simpa using repL_drop n h2
theorem repVs_ofL {S : S8} : ∀ {l : List D} {vs : List V}, RepL T S.F l vs → RepVs T [] S (l.map Val.d) vs
  | [], vs, h => by
    have e : vs = [] := by simpa [RepL] using h
    exact e
  | x :: l, vs, h => by
    simp only [RepL] at h
    obtain ⟨y, ys, e, h1, h2⟩ := h
    exact ⟨y, ys, e, h1, repVs_ofL h2⟩
theorem bindX_plain {ds : List Value} (hs : I.star = false) (hn : ps.length = I.np) (hd : DflX T I ds)
    (h : ∀ (s : Shared) (us : List Value), T.K.In s.heap → us.length ≤ I.np → I.np ≤ us.length + ds.length → BindsTo s fd ⟨us, []⟩ (ps.zip (us ++ ds.drop (us.length + ds.length - I.np)))) : BindX Pr w mg base T fd ps I := by
  intro A outer s S as as' us vs E e0 ws rv ra hb A' Ex Q hq
  have KX : T.K.In s.heap := e0.mod.kin.keeps fun b o e => (e0.bs b o e).1
  obtain ⟨dv, r1, l1, r2⟩ := hd
  unfold bindUp at hb
  split at hb
  · cases hb
  rw [hs, if_neg (by decide)] at hb
  split at hb
  · rename_i hl
    cases hb
    have la : us.length = as.length := by rw [← Paired.length rv]; exact RepVs.length ra
    have ld : ds.length = I.dfl.length := by rw [← Paired.length r1]; exact l1
    refine h s us KX (by omega) (by omega) _ _ _ _ ?_
    refine hq s S.H (vs ++ dv.drop (us.length + ds.length - I.np)) _ e0 (Un.kept fun _ _ e => e) rfl (fun _ _ z => z) (rv.append (r1.drop _)) ?_ ⟨S, rfl, Go.refl S, ws, rfl, ?_⟩
    · rw [List.length_append, List.length_drop, hn, l1, Paired.length rv]
      omega
    · refine RepVs.append ra (repVs_ofL ?_)
      rw [la, ld]
      exact repL_drop _ (r2 S.F)
  · cases hb
end
end BV

set_option Elab.async false
set_option maxRecDepth 100000
set_option maxHeartbeats 4000000
/-! BV36: a star parameter is bound. -/
namespace BV
open PySem PySem.Spec PyProof.Rows
open L2 hiding St It

section
variable {Pr : Program} {w : World} {mg : Str → Option Value} {base : Heap} {T : Ad} {P : Pg} {fd : FuncData} {ps : List Str} {I : FnI}
theorem repVs_take {pn : List (Addr × Obj)} {S : S8} : ∀ (n : Nat) {l : List Val} {vs : List V}, RepVs T pn S l vs → RepVs T pn S (l.take n) (vs.take n)
  | 0, l, vs, h => by
    rw [List.take_zero, List.take_zero]
    rfl
  | n + 1, [], vs, h => by
    have e : vs = [] := h
    subst e
    rfl
  | n + 1, x :: l, vs, h => by
    obtain ⟨y, ys, e, h1, h2⟩ := h
    subst e
    exact ⟨y, ys.take n, rfl, h1, repVs_take n h2⟩
theorem repVs_drop {pn : List (Addr × Obj)} {S : S8} : ∀ (n : Nat) {l : List Val} {vs : List V}, RepVs T pn S l vs → RepVs T pn S (l.drop n) (vs.drop n)
  | 0, l, vs, h => by simpa using h
  | n + 1, [], vs, h => by
    have e : vs = [] := h
    subst e
    rfl
  | n + 1, x :: l, vs, h => by
    obtain ⟨y, ys, e, h1, h2⟩ := h
    subst e
    simpa using repVs_drop n h2
theorem bindX_star {pv : Str} (hs : I.star = true) (hn : ps.length + 1 = I.np)
    (h : ∀ us rest : List Value, us.length = ps.length → bindArgs fd ⟨us ++ rest, []⟩ = (newTuple rest >>= fun t => pure (ps.zip us ++ [(pv, t)]))) : BindX Pr w mg base T fd (ps ++ [pv]) I := by
  intro A outer s S as as' us vs E e0 ws rv ra hb A' Ex Q hq
  unfold bindUp at hb
  split at hb
  · cases hb
  split at hb
  · rename_i hl
    split at hb
    · rename_i l hd
      split at hb
      rotate_left
      · cases hb
      rename_i hlim
      cases hb
      have np : I.np - 1 = ps.length := by omega
      rw [np] at hd
      have la : us.length = as.length := by rw [← Paired.length rv]; exact RepVs.length ra
      obtain ⟨u1, u2, e12, r1, r2⟩ := StX.vals_split (ws := vs.take ps.length) (rest := vs.drop ps.length) (by rw [List.take_append_drop]; exact rv)
      have l1 : u1.length = ps.length := by
        rw [← Paired.length r1, List.length_take, Paired.length rv]
        omega
      have hx : S.H s.heap.objs.size = none := e0.hok.fresh (Nat.le_refl _)
      have rl : RepL T S.F l (vs.drop ps.length) := RepVs.toL hd (repVs_drop _ ra)
      have hz : (vs.drop ps.length).length ≤ sizeLine := by rw [RepL.length rl, ← lim_eq]; exact hlim
      have hz2 : u2.length ≤ sizeLine := by rw [← Paired.length r2]; exact hz
      subst e12
      rw [h u1 u2 l1]
      refine wpAny_bind (wpAny_newTuple (wpAny_pure ?_) hz2)
      have new : ObjOk Pr w (upd S.H s.heap.objs.size (.tup (vs.drop ps.length))) (s.heap.push ({ cls := .type "tuple", data := .seq u2.toArray } : Obj)) s.heap.objs.size (.tup (vs.drop ps.length)) := ⟨hz, u2, r2, ⟨_, Heap.get?_push_size _ rfl, rfl, _, rfl⟩⟩
      have un := StX.un_laid (fs := frs outer) (s := s) (o := ({ cls := .type "tuple", data := .seq u2.toArray } : Obj)) (u := .tup (vs.drop ps.length)) hx
      obtain ⟨g2, w2⟩ := Go.alloc (o := .tup (vs.drop ps.length)) ws hx (fun ps z => by cases z)
      have z := hq _ _ (vs.take ps.length ++ [V.ref s.heap.objs.size]) (u1 ++ [Value.ref s.heap.objs.size]) (StX.env0_laid e0 new) un rfl (fun e s' => StX.cxUp outer s S.H _ _ E e s' un (fun b o q => Heap.get?_push_of_some _ q) rfl) (r1.append (.cons rfl .nil))
        (by rw [List.length_append, List.length_append, Paired.length r1, l1]; rfl) ⟨_, rfl, g2, w2, rfl, ?_⟩
      · rw [List.zip_append l1.symm] at z
        exact z
      · rw [np]
        refine RepVs.append (RepVs.go g2 w2 (repVs_take _ ra)) ⟨_, [], rfl, ?_, rfl⟩
        show RepD T _ (.tup l) _
        simp only [RepD]
        exact ⟨_, _, rfl, .inl (.inl upd_same), RepL.mono g2.F _ _ rl⟩
    · cases hb
  · cases hb
end
end BV

set_option Elab.async false
set_option maxRecDepth 100000
set_option maxHeartbeats 4000000
/-! BV37: calls whose arguments bind to all parameters, however they are written. -/
namespace BV
open PySem PySem.Spec PyProof.Rows
open L2 hiding St It

section
variable {Pr : Program} {w : World} {mg : Str → Option Value} {base : Heap} {T : Ad} {P : Pg}
theorem step_kw {n k : Nat} (ha : ∀ S1, ¬ T.am S1) (hk : 1 ≤ k) (hd : ∀ f I, P.fn f = some I → DefX Pr w mg base T P f I) (hc : CallP Pr w mg base T (callF P n) k) (hh : HearP Pr w mg base T (callF P n) k) (hkw : KwP Pr w mg base T P (callF P n) k) : KwP Pr w mg base T P (callF P (n + 1)) (k + 4) := by
  intro f oc0 od0 fd0 osl0 A outer s S args as us vs Q E lk0 hst hr hp e0 hb0 rv hlen ws ra p
  unfold callF at p
  split at p
  · exact p.elim
  rename_i I hI
  split at p
  · exact p.elim
  rename_i hH
  split at p
  · exact p.elim
  rename_i as' hb
  obtain ⟨name, qual, params, body, scope, dV, kV, doc, pm, cdv, ct, oc, an, od, osl, N, ps, lk, hcd, FS, hN, h1, h2⟩ := (hd f I hI).ex
  have noH : I.hr = false := by
    cases z : I.hr with
    | false => rfl
    | true => exact absurd z hH
  obtain ⟨hps, _, bo⟩ := h1 noH
  obtain ⟨eps, enp⟩ := hps (hst I hI)
  rw [lk] at lk0
  cases lk0
  have eps' : ps = (PySem.W.fnOf name qual params body scope dV kV doc pm an cdv ct).params.args.map (·.arg) := eps
  rw [← eps'] at hb0 hlen
  have la : us.length = as.length := by rw [← Paired.length rv]; exact RepVs.length ra
  have eas : as' = as := by
    unfold bindUp at hb
    split at hb
    · cases hb
    rw [hst I hI, if_neg (by decide)] at hb
    split at hb
    · cases hb
      rw [show as.length + I.dfl.length - I.np = I.dfl.length by omega, List.drop_length]
      simp
    · cases hb
  subst eas
  refine LamX.run_ofS (k := k + 3) (us := us) (vs := vs) lk hcd FS hr e0 hb0 rv (by rw [Paired.length rv]; exact hlen) fun hr' => ?_
  have pl : Pls (plc Pr w mg base T N qual scope (T.fa f) cdv A outer s S.H E) T P (callF P n) k (fun cls d _ H' => E cls d H') :=
    ⟨⟨rfl, takes_of rfl rfl rfl rfl, hr'.mono (by omega), hc, rfl, callF_rf n⟩, hk, hh, hr', hkw⟩
  refine ⟨_, bo (callF P n) k A outer s S.H E hp pl, ?_⟩
  split at p
  · obtain ⟨ds, hds, p3⟩ := pureF_eq p
    exact ⟨S.bare, startE I.ns as', rfl, bare_wf ha ws, startE_ok hN (repVs_bare hds ra), retOf_post (pure_post ha ws p3)⟩
  · exact ⟨S, startE I.ns as', rfl, ws, startE_ok hN ra, retOf_post p⟩
/-- all levels -/
theorem all_ok (ha : ∀ S1, ¬ T.am S1) (hd : ∀ f I, P.fn f = some I → DefX Pr w mg base T P f I) : ∀ n, CallP Pr w mg base T (callF P n) (4 * n + 1) ∧ HearP Pr w mg base T (callF P n) (4 * n + 1) ∧ KwP Pr w mg base T P (callF P n) (4 * n + 1)
  | 0 => ⟨fun f A outer s S as us vs Q E hr hp e0 rv ws ra p => by
      unfold callF at p
      exact p.elim, fun f A outer s S fo g Q E hr hp e0 ws as p => by
      unfold callF at p
      exact p.elim, fun f oc0 od0 fd0 osl0 A outer s S args as us vs Q E lk0 hst hr hp e0 hb0 rv hlen ws ra p => by
      unfold callF at p
      exact p.elim⟩
  | n + 1 => by
    obtain ⟨h1, h2, h3⟩ := all_ok ha hd n
    have e : 4 * (n + 1) + 1 = (4 * n + 1) + 4 := by omega
    rw [e]
    exact ⟨step_call ha (by omega) hd h1 h2 h3, step_hear ha (by omega) hd h1, step_kw ha (by omega) hd h1 h2 h3⟩
end
end BV

set_option Elab.async false
set_option maxRecDepth 100000
set_option maxHeartbeats 4000000
/-! BV38: calls by keywords alone. -/
namespace BV
open PySem PySem.Spec PyProof.Rows
open L2 hiding St It

def permW {α : Type} (pm : List Nat) (us : List α) : List α := pm.filterMap fun i => us[i]?
section
variable {X : Cx} {T : Ad} {P : Pg} {C : Caller} {q : Asker} {W : WX} {k : Nat} {pn : List (Addr × Obj)}
theorem perm_ok {S : S8} {xs : List Val} {vs : List V} (r : RepVs T pn S xs vs) : ∀ {pm : List Nat} {ys : List Val}, permute pm xs = some ys → RepVs T pn S ys (permW pm vs) ∧ ys.length = pm.length
  | [], ys, e => by
    have e' : ys = [] := by
      unfold permute at e
      simpa using e.symm
    subst e'
    exact ⟨rfl, rfl⟩
  | i :: pm, ys, e => by
    unfold permute at e
    rw [List.mapM_cons] at e
    cases z : xs[i]? with
    | none => rw [z] at e; cases e
    | some x =>
      rw [z] at e
      cases z2 : permute pm xs with
      | none =>
        unfold permute at z2
        rw [z2] at e
        cases e
      | some zs =>
        obtain ⟨h1, h2⟩ := perm_ok r z2
        unfold permute at z2
        rw [z2] at e
        cases e
        obtain ⟨v, e1, e2⟩ := repVs_get r z
        refine ⟨⟨v, permW pm vs, ?_, e2, h1⟩, by rw [List.length_cons, List.length_cons, h2]⟩
        unfold permW
        rw [List.filterMap_cons, e1]
theorem perm_vals {vs : List V} {us : List Value} (r : Vals vs us) : ∀ (pm : List Nat), Vals (permW pm vs) (permW pm us)
  | [] => .nil
  | i :: pm => by
    unfold permW
    rw [List.filterMap_cons, List.filterMap_cons]
    cases z : vs[i]? with
    | none =>
      have z2 : us[i]? = none := by
        rw [List.getElem?_eq_none_iff] at z ⊢
        rw [← Paired.length r]
        exact z
      rw [z2]
      exact perm_vals r pm
    | some v =>
      obtain ⟨u, e1, e2⟩ := r.get z
      rw [e1]
      exact .cons e2 (perm_vals r pm)
theorem sk_nil : PK X [] (tA T P C q X.pn W .nil) := ⟨fun pos pins s σ H Q I h => by
  obtain ⟨S, r, rfl, w, er, p⟩ := h
  exact pk_nil.run pos pins s σ S.H Q I (p S [] (Go.refl S) w rfl rfl)⟩
theorem sk_cons {e : Expr} {kws : List Keyword} {nm : Option Str} {kpos : Pos} {ie : E} {ias : As} (ha : PE X e (tE T P C q X.pn W ie)) (hr : PK X kws (tA T P C q X.pn W ias)) : PK X (⟨nm, e, kpos⟩ :: kws) (tA T P C q X.pn W (.cons ie ias)) := by
  refine ⟨fun pos pins s σ H Q I h => (pk_cons ha hr).run pos pins s σ H Q I ?_⟩
  obtain ⟨S, r, rfl, w, er, p⟩ := h
  simp only [evA] at p
  refine tE_mono (tE_then w er p) fun x H1 ⟨S1, va, e1, g1, w1, r1, h2⟩ => ?_
  subst e1
  refine tA_mono (tA_then w1 (er.go g1 w1) h2) fun xs H2 ⟨S2, vs, e2, g2, w2, r2, h3⟩ => ?_
  subst e2
  exact h3 S2 (x :: xs) (Go.refl S2) w2 rfl ⟨x, xs, rfl, RepV.go g2 w2 r1, r2⟩
end
end BV

set_option Elab.async false
set_option maxRecDepth 100000
set_option maxHeartbeats 4000000
/-! BV39: a chain as a value; calls by keywords alone. -/
namespace BV
open PySem PySem.Spec PyProof.Rows
open L2 hiding St It

section
variable {X : Cx} {T : Ad} {P : Pg} {C : Caller} {q : Asker} {W : WX} {k : Nat} {pn : List (Addr × Obj)}
theorem se_chain {a b c : Expr} {ia ib ic : E} {op op' : CmpOp} {k2 l2 : K2} {pos : Pos} (ho : OpS X T W (f2 P C k2) (compareOp op)) (ho' : OpS X T W (f2 P C l2) (compareOp op')) (ha : PE X a (tE T P C q X.pn W ia)) (hb : PE X b (tE T P C q X.pn W ib)) (hc : PE X c (tE T P C q X.pn W ic))
    (hm : lastMarks [op, op'] [b, c] = false := by with_unfolding_all rfl) : PE X (.Compare a [op, op'] [b, c] pos) (tE T P C q X.pn W (.chain k2 l2 ia ib ic)) := by
  refine ⟨fun pins s σ H Q I h => ?_⟩
  obtain ⟨S, r, rfl, w, er, p⟩ := h
  simp only [ev] at p
  have h1 := PostA.bind (R1 := RepV T X.pn) (Post.toA.mp p)
  refine Compare_chain (thn (ha.run pins s σ S.H _ I ⟨S, r, rfl, w, er, Post.toA.mpr h1⟩) fun v s1 ⟨x, H1, I1, rx, S1, va, e1, g1, w1, r1, h2⟩ => chain_link ?_) hm
  subst e1
  have h3 := PostA.bind (R1 := RepV T X.pn) h2
  refine thn (hb.run pins s1 σ S1.H _ I1 ⟨S1, r, rfl, w1, er.go g1 w1, Post.toA.mpr h3⟩) fun u s2 ⟨y, H2, I2, ry, S2, vb, e2, g2, w2, r2, h4⟩ => ?_
  subst e2
  have h5 := PostA.bind (R1 := RepV T X.pn) h4
  refine thn (ho pins s2 σ S2 va vb x y v u _ I2 w2 rx ry (RepV.go g2 w2 r1) r2 (Post.toA.mpr h5)) fun d s3 ⟨z, H3, I3, rz, S3, vz, e3, g3, w3, r3, h6⟩ => ?_
  subst e3
  have er3 := er.go ((g1.trans g2).trans g3) w3
  split at h6
  · have ez := rl_bl (T := T) (F := S3.F) r3
    subst ez
    cases rz
    refine wpAny_truthy_bool (ite_tt (chain_last ?_))
    have h7 := PostA.bind (R1 := RepV T X.pn) h6
    refine thn (hc.run pins s3 σ S3.H _ I3 ⟨S3, r, rfl, w3, er3, Post.toA.mpr h7⟩) fun u4 s4 ⟨y4, H4, I4, ry4, S4, v4, e4, g4, w4, r4, h8⟩ => ?_
    subst e4
    exact ho' pins s4 σ S4 vb v4 y y4 u u4 _ I4 w4 ry ry4 (RepV.go (g3.trans g4) w4 r2) r4 (Post.toA.mpr h8)
  · have ez := rl_bl (T := T) (F := S3.F) r3
    subst ez
    cases rz
    exact wpAny_truthy_bool (ite_ff ⟨.bl false, S3.H, I3, rfl, h6 S3 (.bl false) (Go.refl _) w3 rfl (rp_bl (T := T) (F := S3.F))⟩)
  · exact False.elim h6

/-! ### keywords alone -/
/-- how keywords named ks bind to a def's parameters: the places of the written ones -/
def KwBind (K : PySem.W.Frag) (fd : FuncData) (ks : List Str) (pre : Nat) (pm : List Nat) : Prop :=
  ∀ (s : Shared) (us ws : List Value), K.In s.heap → us.length = pre → ws.length = ks.length → BindsTo s fd ⟨us, ks.zip ws⟩ ((fd.params.args.map (·.arg)).zip (us ++ permW pm ws)) ∧ (us ++ permW pm ws).length = (fd.params.args.map (·.arg)).length
/-- the def n takes such keywords -/
def KwFn (K : PySem.W.Frag) (P : Pg) (f : Nat) (fa : Addr) (ks : List Str) (pre : Nat) (pm : List Nat) : Prop :=
  (∀ I, P.fn f = some I → I.star = false) ∧ ∃ (oc : Value) (od : Option Addr) (fd : FuncData) (osl : Array (Option Value)), K.lookup fa = some ⟨oc, od, .func fd, osl⟩ ∧ KwBind K fd ks pre pm

theorem run_kw (tk : Takes X W) (hK : X.K = T.K) (co : KwP X.prog X.w X.mg X.base T P C k) {A : Around} {pins : List (Addr × Obj)} {s : Shared} {σ : L2.St} {S : S8} {f : Nat} {ks : List Str} {pm : List Nat} {pas as : List Val} {pvs vs : List V} {pus us : List Value} {Q : VK} (hr : Room k A) (hp : Plain T A f)
    (kf : KwFn T.K P f (T.fa f) ks pus.length pm) (hl : us.length = ks.length)
    (e0 : Env0 X.prog X.w X.K X.mg X.base A X.stack s S.H) (I : Inv X pins σ S.H s) (w : Wf T S) (ra : RepVs T [] S (pas ++ as) (pvs ++ permW pm vs)) (rp : Vals pvs pus) (rv : Vals vs us) (h : Post T [] (C f none (pas ++ as) S.M) S Q (atW W σ)) :
    wpAny (model X.prog X.w) A (call (.ref (T.fa f)) pus (ks.zip us)) (EP X pins σ Q) X.xe s := by
  obtain ⟨hst, oc, od, fd, osl, lk, kb⟩ := kf
  have KX : T.K.In s.heap := hK ▸ I.kIn
  obtain ⟨b1, b2⟩ := kb s pus us KX rfl hl
  have e0' : Env0 X.prog X.w T.K X.mg X.base A X.stack s S.H := hK ▸ e0
  refine wpAny_call (codeAny_mono (co f oc od fd osl A X.stack s S ⟨pus, ks.zip us⟩ (pas ++ as) (pus ++ permW pm us) (pvs ++ permW pm vs) Q (atW W σ) lk hst hr hp e0' b1 (rp.append (perm_vals rv pm)) b2 w ra h) fun r s' hq => ?_)
  cases r with
  | error e => exact tk _ _ (XE.of_call I (fun cls d H' z => z) hq)
  | ok fl =>
    cases fl with
    | ret u => exact I.after hq
    | next => exact False.elim hq
    | brk => exact False.elim hq
    | cont => exact False.elim hq
end
end BV

set_option Elab.async false
set_option maxRecDepth 100000
set_option maxHeartbeats 4000000
/-! BV40: the nodes of calls by keywords alone. -/
namespace BV
open PySem PySem.Spec PyProof.Rows
open L2 hiding St It

section
variable {X : Cx} {T : Ad} {P : Pg} {C : Caller} {q : Asker} {W : WX} {k : Nat} {pn : List (Addr × Obj)}
/-- the node of a call with keywords alone, any callee -/
def CWK (X : Cx) (kws : List Keyword) (ks : List Str) (pos : Pos) (t : TA) : Prop :=
  ∀ (f : Value) (first : List Value) (Pk : Heap → Prop) (pins : List (Addr × Obj)) (s : Shared) (σ : L2.St) (H : Hp) (Q : Value → Shared → Prop), Kept X f Pk → (∀ s1 H1, Inv X pins σ H1 s1 → Pk s1.heap) → Inv X pins σ H s →
    t σ H (fun vs H1 => ∀ s1 us, Inv X pins σ H1 s1 → Vals vs us → wpAny (model X.prog X.w) X.A (call f first (ks.zip us)) Q X.xe s1) →
    wpAny (model X.prog X.w) X.A (callWith pos f first (backTo pos (starEach [] X.env)) (backToKw pos (keywordEach kws X.env))) Q X.xe s
theorem cwk {kws : List Keyword} {ks : List Str} {pos : Pos} {t : TA} (hkw : PK X kws t) (hall : (backToKw pos (keywordEach kws X.env)).all (·.1.isSome) = true) (hks : (backToKw pos (keywordEach kws X.env)).filterMap (·.1) = ks)
    (hpl : ((backTo pos (starEach [] X.env)).any (·.1) || (backToKw pos (keywordEach kws X.env)).any (·.1.isNone)) = false) : CWK X kws ks pos t := by
  intro f first Pk pins s σ H Q hk hP I h
  refine PySem.W.callWith_of hpl hk (evalArgs_kw_nil hall (thn (hkw.run pos pins s σ H _ I h) fun us s1 ⟨vs, H1, I1, rv, q1⟩ => ⟨hP _ _ I1, ?_⟩))
  have z := q1 s1 us I1 rv
  rw [hks, List.append_nil]
  exact z
theorem len_of {vs : List V} {us : List Value} {as : List Val} {S : S8} (rv : Vals vs us) (ra : RepVs T pn S as vs) : us.length = as.length := by
  rw [← Paired.length rv]; exact RepVs.length ra
theorem cp_plain (c : Cok X T C k W) {S : S8} {f : Nat} {pre as : List Val} {vs : List V} {pm : List Nat} {Q : VK} {E : Value → Option Addr → Hp → Prop} (ra : RepVs T X.pn S as (permW pm vs)) (p : Post T X.pn (C f none (pre ++ as) S.M) S Q E) : RepVs T [] S as (permW pm vs) := args_plain c ra p
/-- x(k = e, ..), x a def of the text -/
theorem se_callP (c : Cok X T C k W) (kw : KwP X.prog X.w X.mg X.base T P C k) {x : Str} {f : Nat} {kws : List Keyword} {ks : List Str} {pm : List Nat} {ias : As} {p pos : Pos} (hg : Gl X x) (hm : X.mg x = some (.ref (T.fa f))) (hk : PySem.W.keepIn X.K (.ref (T.fa f)) = true) (hp : Plain T X.A f)
    (kf : KwFn T.K P f (T.fa f) ks 0 pm) (hkl : kws.length = ks.length) (ha : CWK X kws ks pos (tA T P C q X.pn W ias)) (hal : ∀ r M xs M1, evA P C q ias r M = .ok xs M1 → xs.length = kws.length)
    (hdb : (x == ("__debug__" : Str)) = false := by decide) : PE X (.Call (.Name x p) [] kws pos) (tE T P C q X.pn W (.callP f ias pm)) := by
  refine ⟨fun pins s σ H Q I h => ?_⟩
  obtain ⟨S, r, rfl, w, er, p⟩ := h
  simp only [ev] at p
  refine wpAny_Call_Name_kw (ld_glob I hg hm ?_ hdb)
  have hA : tA T P C q X.pn W ias σ S.H (fun vs H1 => ∃ S1 as, S1.H = H1 ∧ Go S S1 ∧ Wf T S1 ∧ RepVs T X.pn S1 as vs ∧ as.length = kws.length ∧ PostA T (RepV T X.pn) (match permute pm as with | some ys => C f none ys S1.M | none => .no) S1 Q (atW W σ)) := by
    have z := tA_then w er (Post.toA.mp p)
    refine ⟨S, r, rfl, w, er, ?_⟩
    have p2 := PostA.bind (R1 := RepVs T X.pn) (Post.toA.mp p)
    cases e : evA P C q ias r S.M with
    | ok xs M1 =>
      rw [e] at p2
      intro S1 y g1 w1 e1 r1
      have p3 : PostA T (RepV T X.pn) ((R.ok xs M1).bind fun xs M1 => match permute pm xs with | some ys => C f none ys M1 | none => .no) S Q (atW W σ) := by
        have := Post.toA.mp p
        rw [e] at this
        exact this
      have p4 : PostA T (RepV T X.pn) (match permute pm xs with | some ys => C f none ys M1 | none => .no) S Q (atW W σ) := p3
      refine ⟨S1, xs, rfl, g1, w1, r1, hal _ _ _ _ e, ?_⟩
      rw [e1]
      exact Post.toA.mp (Post.from g1 (Post.toA.mpr p4))
    | ex cn ds M1 => rw [e] at p2; exact p2
    | no => rw [e] at p2; exact p2
  refine ha _ [] X.K.In pins s σ S.H _ (kept_K hk) (fun s1 H1 I1 => I1.kIn) I (tA_mono hA fun vs H1 ⟨S1, as, e1, g1, w1, r1, hl, h2⟩ s1 us I1 rv => ?_)
  subst e1
  split at h2
  · rename_i ys hy
    obtain ⟨ry, _⟩ := perm_ok r1 hy
    have h2' := Post.toA.mpr h2
    exact run_kw (pas := []) (pvs := []) (pus := []) c.tk c.K kw (c.room.mono (Nat.le_succ k)) hp kf (by rw [len_of rv r1, hl, hkl]) I1.env0 I1 w1 (args_plain (pre := []) c ry h2') .nil rv (Post.nil h2')
  · exact h2.elim
/-- o.m(k = e, ..), m a method of the text, or a class method -/
theorem se_meP (c : Cok X T C k W) (g : Prg T P) (kw : KwP X.prog X.w X.mg X.base T P C k) (hs : ∀ cn m, P.smeth cn m = none) {o : Expr} {io : E} {nm : Str} {m : Nat} {kws : List Keyword} {ks : List Str} {pm : List Nat} {ias : As} {apos pos : Pos} {pl : Sem Bool} (hnm : nm = T.nm m) (ho : PE X o (tE T P C q X.pn W io))
    (kf : ∀ cn f, (P.meth cn m = some f ∨ P.cmeth cn m = some f) → KwFn T.K P f (T.fa f) ks 1 pm) (hkl : kws.length = ks.length) (ha : CWK X kws ks pos (tA T P C q X.pn W ias)) (hal : ∀ r M xs M1, evA P C q ias r M = .ok xs M1 → xs.length = kws.length)
    (ht : eval (.Call (.Attribute o nm apos) [] kws pos) X.env = (do
      let ov ← eval o X.env
      standAt apos.atName
      let (f, first) ← holding [ov] (getMethod ov nm pl)
      callWith pos f first (backTo pos (starEach [] X.env)) (backToKw pos (keywordEach kws X.env))) := by rfl) :
    PE X (.Call (.Attribute o nm apos) [] kws pos) (tE T P C q X.pn W (.meP m io ias pm)) := by
  subst hnm
  refine ⟨fun pins s σ H Q I h => ?_⟩
  obtain ⟨S, r, rfl, w, er, p⟩ := h
  simp only [ev] at p
  refine PySem.W.methodCall_KW (pl := pl) (thn (ho.run pins s σ S.H _ I (tE_then w er (Post.toA.mp p))) fun u s0 ⟨x, H0, I0, rx, S0, va, e0, g0, w0, r0, h0⟩ => ?_) ht
  subst e0
  dsimp only at h0
  have hK := c.K
  have argsOf : ∀ {f : Nat} {pre : List Val}, PostA T (RepV T X.pn) ((evA P C q ias r S0.M).bind fun xs M2 => match permute pm xs with | some ys => C f none (pre ++ ys) M2 | none => .no) S0 Q (atW W σ) →
      tA T P C q X.pn W ias σ S0.H (fun vs H1 => ∃ S1 as, S1.H = H1 ∧ Go S0 S1 ∧ Wf T S1 ∧ RepVs T X.pn S1 as vs ∧ as.length = kws.length ∧ PostA T (RepV T X.pn) (match permute pm as with | some ys => C f none (pre ++ ys) S1.M | none => .no) S1 Q (atW W σ)) := fun {f pre} hp => by
    refine ⟨S0, r, rfl, w0, er.go g0 w0, ?_⟩
    cases e : evA P C q ias r S0.M with
    | ok xs M1 =>
      rw [e] at hp
      intro S1 y g1 w1 e1 r1
      have p4 : PostA T (RepV T X.pn) (match permute pm xs with | some ys => C f none (pre ++ ys) M1 | none => .no) S0 Q (atW W σ) := hp
      refine ⟨S1, xs, rfl, g1, w1, r1, hal _ _ _ _ e, ?_⟩
      rw [e1]
      exact Post.toA.mp (Post.from g1 (Post.toA.mpr p4))
    | ex cn ds M1 => rw [e] at hp; exact hp
    | no => rw [e] at hp; exact hp
  split at h0 <;> try exact False.elim h0
  rename_i f b ht0
  unfold tgtOf at ht0
  split at ht0
  · rename_i cn
    split at ht0
    · rename_i f' hcm
      cases ht0
      have ex : x = .ref (T.ca cn) := by
        have z : RepD T S0.F (.cls cn) x := r0
        simpa [RepD] using z
      subst ex
      cases rx
      obtain ⟨hq, mc, pp, r1, k1⟩ := g.cmeth _ _ _ hcm
      rw [← hK] at r1 k1
      refine ClX.getmethcm_ok I0 r1 k1 fun s2 I2 => ?_
      refine ha _ [] (PySem.W.MethP X.K s0.heap.objs.size (T.fa f) (.ref (T.ca cn))) _ s2 σ S0.H _ (fun h e => PySem.W.keeps_M k1.fi h e) (fun s1 H1 I1 => ⟨ClX.pin_at I1, I1.kIn⟩) I2 (tA_mono (argsOf (pre := [.d (.cls cn)]) h0) fun vs H1 ⟨S1, as, e1, g1, w1, r1, hl, h2⟩ s1 us I1 rv => ?_)
      subst e1
      split at h2
      · rename_i ys hy
        obtain ⟨ry, _⟩ := perm_ok r1 hy
        have h2' : Post T X.pn (C f none ([.d (.cls cn)] ++ ys) S1.M) S1 Q (atW W σ) := Post.toA.mpr h2
        have ra := args_plain (pre := [.d (.cls cn)]) c ry h2'
        have r0' : RepV T [] S1 (.d (.cls cn)) (.ref (T.ca cn)) := by
          show RepD T S1.F (.cls cn) (.ref (T.ca cn))
          simp [RepD]
        obtain ⟨hst, oc, od, fd, osl, lk, kb⟩ := kf cn f (.inr hcm)
        have KX : T.K.In s1.heap := hK ▸ I1.kIn
        obtain ⟨b1, b2⟩ := kb s1 [.ref (T.ca cn)] us KX rfl (by rw [len_of rv r1, hl, hkl])
        have e0' : Env0 X.prog X.w T.K X.mg X.base X.A X.stack s1 S1.H := hK ▸ I1.env0
        have z : wpAny (model X.prog X.w) X.A (call (.ref s0.heap.objs.size) [] (ks.zip us)) (EP X ((s0.heap.objs.size, PySem.W.methodObj (.ref (T.fa f)) (.ref (T.ca cn))) :: pins) σ Q) X.xe s1 := by
          refine wpAny_call (PySem.W.method_call (ClX.pin_at I1) (codeAny_mono (kw f oc od fd osl X.A X.stack s1 S1 ⟨[.ref (T.ca cn)], ks.zip us⟩ ([.d (.cls cn)] ++ ys) ([.ref (T.ca cn)] ++ permW pm us) ([.ref (T.ca cn)] ++ permW pm vs) Q _ lk hst (c.room.mono (Nat.le_succ k)) (.inl hq) e0' b1 (show Vals (V.ref (T.ca cn) :: permW pm vs) (Value.ref (T.ca cn) :: permW pm us) from .cons rfl (perm_vals rv pm)) b2 w1 (RepVs.consV r0' ra) (Post.nil h2')) fun r s' hq' => ?_))
          cases r with
          | error e => exact c.tk _ _ (XE.of_call I1 (fun cls d H' z => z) hq')
          | ok fl =>
            cases fl with
            | ret u => exact I1.after hq'
            | next => exact False.elim hq'
            | brk => exact False.elim hq'
            | cont => exact False.elim hq'
        exact thn z fun _ _ y => ClX.unpinE y
      · exact h2.elim
    · split at ht0
      · rename_i hsm
        rw [hs] at hsm
        cases hsm
      · cases ht0
  · split at ht0 <;> try cases ht0
    rename_i f' hm
    have hm' := hm
    simp only [methOf] at hm'
    split at hm' <;> try cases hm'
    rename_i cn vs0 hi
    obtain ⟨a, dx, ws, ex, hx, rws, hlen⟩ := RepV.ins w0 hi r0
    subst ex
    cases rx
    obtain ⟨hfz, M, hq, hn⟩ := g.meth _ _ _ hm'
    have cl := (g.cls _ hfz).1.cl
    rw [← hK] at M cl
    refine getmeth_ok I0 hx cl M (zip_none hn) ?_
    refine ha _ [.ref a] X.K.In pins s0 σ S0.H _ (kept_K M.kp) (fun s1 H1 I1 => I1.kIn) I0 (tA_mono (argsOf (pre := [_]) h0) fun vs H1 ⟨S1, as, e1, g1, w1, r1, hl, h2⟩ s1 us I1 rv => ?_)
    subst e1
    split at h2
    · rename_i ys hy
      obtain ⟨ry, _⟩ := perm_ok r1 hy
      have h2' : Post T X.pn (C f none ([_] ++ ys) S1.M) S1 Q (atW W σ) := Post.toA.mpr h2
      have ra := args_plain (pre := [_]) c ry h2'
      have r0' := RepV.go g1 w1 (RepV.plain (plain_of_ins hi) r0)
      exact run_kw (pus := [.ref a]) (pvs := [.ref a]) c.tk c.K kw (c.room.mono (Nat.le_succ k)) (.inl hq) (kf cn f (.inl hm')) (by rw [len_of rv r1, hl, hkl]) I1.env0 I1 w1 (RepVs.consV r0' ra) (.cons rfl .nil) rv (Post.nil h2')
    · exact h2.elim
/-- the arguments are as many as they are written -/
def asLen : As → Option Nat
  | .nil => some 0
  | .cons _ a => match asLen a with
    | some n => some (n + 1)
    | none => none
  | .star _ _ => none
theorem evA_len : ∀ {ias : As} {n : Nat} {r : Env} {M M1 : Store} {xs : List Val}, asLen ias = some n → evA P C q ias r M = .ok xs M1 → xs.length = n
  | .nil, n, r, M, M1, xs, h, e => by
    cases h
    simp only [evA] at e
    cases e
    rfl
  | .cons e0 a, n, r, M, M1, xs, h, e => by
    simp only [asLen] at h
    split at h
    · rename_i j hj
      cases h
      simp only [evA] at e
      cases z : ev P C q e0 r M with
      | ok x Ma =>
        rw [z] at e
        simp only [R.bind] at e
        cases z2 : evA P C q a r Ma with
        | ok ys Mb =>
          rw [z2] at e
          simp only [R.bind] at e
          cases e
          rw [List.length_cons, evA_len hj z2]
        | ex c ds Mb => rw [z2] at e; cases e
        | no => rw [z2] at e; cases e
      | ex c ds Ma => rw [z] at e; cases e
      | no => rw [z] at e; cases e
    · cases h
  | .star e0 a, n, r, M, M1, xs, h, e => by cases h
end
end BV

set_option Elab.async false
set_option maxRecDepth 100000
set_option maxHeartbeats 4000000
/-! BV41: how arguments bind, by kind of call. -/
namespace BV
open PySem PySem.Spec PyProof.Rows
open L2 hiding St It

theorem fm_congr {α β : Type} {f g : α → Option β} : ∀ {l : List α}, (∀ x ∈ l, f x = g x) → l.filterMap f = l.filterMap g
  | [], _ => rfl
  | x :: l, h => by rw [List.filterMap_cons, List.filterMap_cons, h x List.mem_cons_self, fm_congr fun y hy => h y (List.mem_cons_of_mem _ hy)]
theorem lookup_zip {α : Type} : ∀ {ps : List Str} {us : List α} {i : Nat} {x : Str} {u : α}, ps.Nodup → ps[i]? = some x → us[i]? = some u → (ps.zip us).lookup x = some u
  | [], us, i, x, u, _, h, _ => by simp at h
  | p :: ps, [], i, x, u, _, _, h => by simp at h
  | p :: ps, v :: us, 0, x, u, _, h, h2 => by
    simp at h h2
    subst h h2
    simp [List.lookup]
  | p :: ps, v :: us, i + 1, x, u, nd, h, h2 => by
    simp at h h2
    have hne : x ≠ p := fun e => by
      subst e
      exact (List.nodup_cons.mp nd).1 (List.mem_of_getElem? h)
    have hb : (x == p) = false := by simpa using hne
    rw [List.zip_cons_cons, List.lookup_cons, hb]
    exact lookup_zip (List.nodup_cons.mp nd).2 h h2
theorem lookup_none {α : Type} : ∀ {l : List (Str × α)} {x : Str}, x ∉ l.map (·.1) → l.lookup x = none
  | [], x, _ => rfl
  | (p, v) :: l, x, h => by
    simp only [List.map_cons, List.mem_cons, not_or] at h
    have hb : (x == p) = false := by simpa using h.1
    rw [List.lookup_cons, hb]
    exact lookup_none h.2
theorem lookup_app {α : Type} : ∀ {l m : List (Str × α)} {x : Str}, (l ++ m).lookup x = (l.lookup x).or (m.lookup x)
  | [], m, x => by simp
  | (p, v) :: l, m, x => by
    rw [List.cons_append, List.lookup_cons, List.lookup_cons]
    cases x == p <;> simp [lookup_app]
/-- a whole row of names and values, name by name -/
theorem pick_all {α : Type} {ps : List Str} {us : List α} (nd : ps.Nodup) (hl : us.length = ps.length) {l : List (Str × α)} (h : ∀ x ∈ ps, l.lookup x = (ps.zip us).lookup x) : ps.filterMap (fun n => (l.lookup n).map (n, ·)) = ps.zip us := by
  have e : ps.filterMap (fun n => (l.lookup n).map (n, ·)) = ps.filterMap fun n => ((ps.zip us).lookup n).map (n, ·) := fm_congr fun n hn => by rw [h n hn]
  rw [e]
  clear e h
  induction ps generalizing us with
  | nil => simp
  | cons p ps ih =>
    cases us with
    | nil => simp at hl
    | cons u us =>
      obtain ⟨h1, h2⟩ := List.nodup_cons.mp nd
      rw [List.zip_cons_cons, List.filterMap_cons]
      simp only [List.lookup_cons, beq_self_eq_true, Option.map_some]
      congr 1
      refine Eq.trans ?_ (ih h2 (by simpa using hl))
      refine fm_congr fun n hn => ?_
      have hb : (n == p) = false := by
        have : n ≠ p := fun e => h1 (e ▸ hn)
        simpa using this
      rw [hb]
/-- the defaults come in where a name lacks -/
def fillF (s : List (Str × Value)) (p : Str × Value) : List (Str × Value) := if (s.lookup p.1).isNone then s ++ [p] else s
theorem fill_skip : ∀ {l : List (Str × Value)} {s : List (Str × Value)}, (∀ p ∈ l, (s.lookup p.1).isSome) → l.foldl fillF s = s
  | [], s, _ => rfl
  | p :: l, s, h => by
    have e : fillF s p = s := by
      unfold fillF
      have := h p List.mem_cons_self
      rw [if_neg]
      intro z
      rw [Option.isNone_iff_eq_none] at z
      rw [z] at this
      cases this
    rw [List.foldl_cons, e]
    exact fill_skip fun q hq => h q (List.mem_cons_of_mem _ hq)
theorem fill_all : ∀ {l : List (Str × Value)} {s : List (Str × Value)}, (l.map (·.1)).Nodup → (∀ p ∈ l, s.lookup p.1 = none) → l.foldl fillF s = s ++ l
  | [], s, _, _ => by simp
  | p :: l, s, nd, h => by
    have e : fillF s p = s ++ [p] := by
      unfold fillF
      rw [h p List.mem_cons_self]
      rfl
    rw [List.map_cons, List.nodup_cons] at nd
    rw [List.foldl_cons, e, fill_all nd.2 fun q hq => ?_]
    · simp
    · rw [lookup_app, h q (List.mem_cons_of_mem _ hq)]
      have : q.1 ≠ p.1 := fun e => nd.1 (e ▸ List.mem_map_of_mem hq)
      have hb : (q.1 == p.1) = false := by simpa using this
      simp [List.lookup, hb]
theorem forIn_fill (l : List (Str × Value)) : ∀ (s : List (Str × Value)), (forIn (m := Sem) l s fun x __s => if (List.lookup x.fst __s).isNone = true then pure (ForInStep.yield (__s ++ [(x.fst, x.snd)])) else pure (ForInStep.yield __s)) = pure (l.foldl fillF s) := by
  induction l with
  | nil => intro s; simp
  | cons p l ih =>
    intro s
    rw [List.forIn_cons, List.foldl_cons]
    have e : (if (List.lookup p.fst s).isNone = true then (pure (ForInStep.yield (s ++ [(p.fst, p.snd)])) : Sem _) else pure (ForInStep.yield s)) = pure (ForInStep.yield (fillF s p)) := by
      unfold fillF
      split <;> rfl
    rw [e]
    simp only [pure_bind]
    exact ih _
/-- what stands in the slots behind the defaults -/
theorem slots_ok {ps : List Str} {us ds : List Value} (nd : ps.Nodup) (h1 : us.length ≤ ps.length) (h2 : ps.length ≤ us.length + ds.length) (h3 : ds.length ≤ ps.length) :
    ((ps.drop (ps.length - ds.length)).zip ds).foldl fillF (ps.zip us) = ps.zip (us ++ ds.drop (us.length + ds.length - ps.length)) := by
  have ej : ps.length - ds.length + (us.length + ds.length - ps.length) = us.length := by omega
  have e1 : (ps.drop (ps.length - ds.length)).zip ds = ((ps.drop (ps.length - ds.length)).take (us.length + ds.length - ps.length)).zip (ds.take (us.length + ds.length - ps.length)) ++ (ps.drop us.length).zip (ds.drop (us.length + ds.length - ps.length)) := by
    have z1 : ps.drop us.length = (ps.drop (ps.length - ds.length)).drop (us.length + ds.length - ps.length) := by rw [List.drop_drop, ej]
    rw [z1, ← List.zip_append (by rw [List.length_take, List.length_take, List.length_drop]; omega), List.take_append_drop, List.take_append_drop]
  have e2 : ps.zip (us ++ ds.drop (us.length + ds.length - ps.length)) = ps.zip us ++ (ps.drop us.length).zip (ds.drop (us.length + ds.length - ps.length)) := by
    have z : ps = ps.take us.length ++ ps.drop us.length := (List.take_append_drop ..).symm
    have zl : (ps.take us.length).length = us.length := by rw [List.length_take]; omega
    have a1 : ps.zip (us ++ ds.drop (us.length + ds.length - ps.length)) = (ps.take us.length ++ ps.drop us.length).zip (us ++ ds.drop (us.length + ds.length - ps.length)) := by rw [← z]
    have a2 : ps.zip us = (ps.take us.length).zip us := by
      have : (ps.take us.length ++ ps.drop us.length).zip (us ++ []) = (ps.take us.length).zip us ++ (ps.drop us.length).zip [] := List.zip_append zl
      rw [← z] at this
      simpa using this
    rw [a1, List.zip_append zl, a2]
  rw [e1, e2, List.foldl_append]
  have nd2 : (ps.drop us.length).Nodup := nd.sublist (List.drop_sublist ..)
  have dis : ∀ x ∈ ps.drop us.length, x ∉ ps.take us.length := fun x hx hy => by
    have z : (ps.take us.length ++ ps.drop us.length).Nodup := by rw [List.take_append_drop]; exact nd
    exact (List.nodup_append.mp z).2.2 x hy x hx rfl
  have inz : ∀ x, x ∈ (ps.zip us).map (·.1) → x ∈ ps.take us.length := fun x hx => by
    obtain ⟨⟨a, b⟩, hab, rfl⟩ := List.mem_map.mp hx
    obtain ⟨i, hi, e⟩ := List.mem_iff_getElem.mp hab
    rw [List.getElem_zip] at e
    have e1 := (Prod.mk.inj e).1
    rw [List.length_zip] at hi
    show a ∈ _
    rw [← e1]
    exact List.mem_take_iff_getElem.mpr ⟨i, by omega, rfl⟩
  have s1 : (((ps.drop (ps.length - ds.length)).take (us.length + ds.length - ps.length)).zip (ds.take (us.length + ds.length - ps.length))).foldl fillF (ps.zip us) = ps.zip us := by
    refine fill_skip ?_
    rintro ⟨a, b⟩ hp
    have ha := (List.of_mem_zip hp).1
    obtain ⟨j, hj, e⟩ := List.mem_iff_getElem.mp ha
    rw [List.getElem_take, List.getElem_drop] at e
    have hj' : ps.length - ds.length + j < us.length := by
      rw [List.length_take, List.length_drop] at hj
      omega
    have := lookup_zip (us := us) nd (i := ps.length - ds.length + j) (x := a) (u := us[ps.length - ds.length + j]) (by rw [List.getElem?_eq_getElem (by omega), e]) (List.getElem?_eq_getElem hj')
    rw [this]
    rfl
  rw [s1]
  refine fill_all (nd2.sublist ?_) fun p hp => lookup_none fun z => ?_
  · rw [List.map_fst_zip (by rw [List.length_drop, List.length_drop]; omega)]
    exact List.Sublist.refl _
  · exact dis p.1 (List.of_mem_zip hp).1 (inz _ z)
theorem isNone_zip {ps : List Str} {us : List Value} (nd : ps.Nodup) {x : Str} {i : Nat} (h : ps[i]? = some x) (hi : i < us.length) : ((ps.zip us).lookup x).isNone = false := by
  rw [lookup_zip nd h (List.getElem?_eq_getElem hi)]
  rfl
/-- nothing lacks -/
theorem missing_none {ps : List Str} {us : List Value} {n : Nat} (nd : ps.Nodup) (h : n ≤ us.length) (h1 : us.length ≤ ps.length) : (ps.take n).filter (fun x => ((ps.zip us).lookup x).isNone) = [] := by
  rw [List.filter_eq_nil_iff]
  intro x hx z
  obtain ⟨i, hi, e⟩ := List.mem_take_iff_getElem.mp hx
  rw [isNone_zip nd (i := i) (by rw [List.getElem?_eq_getElem (by omega), e]) (by omega)] at z
  cases z
theorem bindArgs_plain {fd : FuncData} {as : List Arg} {dfs : List Expr} {kd : List (Option Expr)} {us ds : List Value} (hp : fd.params = ⟨[], as, none, [], kd, none, dfs⟩) (nd : (as.map (·.arg)).Nodup) (h1 : us.length ≤ as.length) (h2 : as.length ≤ us.length + ds.length) (h3 : ds.length ≤ as.length) {s : Shared}
    (hd : (fd.defaults = .none ∧ ds = []) ∨ ∃ (T : Addr) (o : Obj) (n : Nat), fd.defaults = .ref T ∧ s.heap.get? T = some o ∧ o.data = .seq ds.toArray n) :
    BindsTo s fd ⟨us, []⟩ ((as.map (·.arg)).zip (us ++ ds.drop (us.length + ds.length - as.length))) := by
  have e1 : ¬ as.length < us.length := by omega
  have e2 : ((as.map (·.arg)).take (as.length - ds.length)).filter (fun n => (((as.map (·.arg)).zip us).lookup n).isNone) = [] := missing_none nd (by omega) (by simpa using h1)
  have e3 := slots_ok (us := us) (ds := ds) nd (by simpa using h1) (by simpa using h2) (by simpa using h3)
  rw [List.length_map] at e3
  have e4 := pick_all (us := us ++ ds.drop (us.length + ds.length - as.length)) nd (by rw [List.length_append, List.length_drop, List.length_map]; omega) (fun x _ => rfl)
  have e5 : (ds.length - (ds.length - as.length)) = ds.length := by omega
  have e6 : ds.length - as.length = 0 := by omega
  intro M A E Q hq
  unfold bindArgs
  rw [hp]
  simp only [List.map_nil, List.nil_append, List.length_map, List.forIn_nil, pure_bind, List.append_nil]
  have m1 : (decide (us.length > as.length) && (none : Option Arg).isNone) = false := by
    rw [decide_eq_false (show ¬ us.length > as.length by omega)]
    rfl
  rcases hd with ⟨hn, hds⟩ | ⟨T, o, n, hn, ho, hod⟩
  · have z : (#[] : Array Value).toList = ds := by rw [hds]
    rw [hn, show seqItems? .none = pure none from rfl]
    simp only [pure_bind, Option.getD_none, z, m1, Bool.false_eq_true, if_false, e6, List.drop_zero, e2, List.isEmpty_nil, Bool.not_true, forIn_fill, e3, e4, List.forIn_nil, List.append_nil]
    exact wpAny_pure hq
  · rw [hn]
    refine wpAny_bind (wpAny_seqItems ho hod ?_)
    simp only [pure_bind, Option.getD_some, List.toList_toArray, m1, Bool.false_eq_true, if_false, e6, List.drop_zero, e2, List.isEmpty_nil, Bool.not_true, forIn_fill, e3, e4, List.forIn_nil, List.append_nil]
    exact wpAny_pure hq

/-- a star parameter: what is left over in a tuple -/
theorem bindArgs_star {fd : FuncData} {as : List Arg} {a : Arg} {dfs : List Expr} {kd : List (Option Expr)} {us rest : List Value} (hp : fd.params = ⟨[], as, some a, [], kd, none, dfs⟩) (nd : (as.map (·.arg)).Nodup) (h1 : us.length = as.length) (hd : fd.defaults = .none) :
    bindArgs fd ⟨us ++ rest, []⟩ = (newTuple rest >>= fun t => pure ((as.map (·.arg)).zip us ++ [(a.arg, t)])) := by
  have e2 : ((as.map (·.arg)).take as.length).filter (fun n => (((as.map (·.arg)).zip us).lookup n).isNone) = [] := missing_none nd (by omega) (by simp [h1])
  have e4 := pick_all (us := us) nd (by rw [List.length_map]; omega) (fun x _ => rfl)
  have e5 : (as.map (·.arg)).zip (us ++ rest) = (as.map (·.arg)).zip us := by
    have := List.zip_append (l₁ := as.map (·.arg)) (r₁ := []) (l₂ := us) (r₂ := rest) (by rw [List.length_map]; omega)
    rw [List.append_nil, List.zip_nil_left, List.append_nil] at this
    exact this
  have e6 : (us ++ rest).drop as.length = rest := by rw [← h1, List.drop_left]
  have m1 : (decide ((us ++ rest).length > as.length) && (some a : Option Arg).isNone) = false := by simp
  unfold bindArgs
  rw [hp, hd, show seqItems? .none = pure none from rfl]
  simp only [List.map_nil, List.nil_append, List.length_map, List.forIn_nil, pure_bind, List.append_nil, Option.getD_none, m1, Bool.false_eq_true, if_false, e5, List.drop_nil, List.length_nil, Nat.sub_zero, e2, List.isEmpty_nil, Bool.not_true, e4, e6, List.zip_nil_right]
/-- keywords -/
theorem forIn_kw {G : Str × Value → List (Str × Value) × List (Str × Value) → Sem (ForInStep (List (Str × Value) × List (Str × Value)))} : ∀ (l : List (Str × Value)) (s x : List (Str × Value)),
    (∀ p ∈ l, ∀ s x, (List.lookup p.1 s).isSome = false → G p (s, x) = pure (.yield (s ++ [(p.1, p.2)], x))) → (l.map (·.1)).Nodup → (∀ p ∈ l, s.lookup p.1 = none) → forIn (m := Sem) l (s, x) G = pure (s ++ l, x)
  | [], s, x, _, _, _ => by simp
  | p :: l, s, x, hG, nd, h => by
    rw [List.map_cons, List.nodup_cons] at nd
    rw [List.forIn_cons, hG p List.mem_cons_self s x (by rw [h p List.mem_cons_self]; rfl)]
    simp only [pure_bind]
    rw [forIn_kw l (s ++ [(p.1, p.2)]) x (fun q hq => hG q (List.mem_cons_of_mem _ hq)) nd.2 fun q hq => ?_]
    · simp
    · rw [lookup_app, h q (List.mem_cons_of_mem _ hq)]
      have : q.1 ≠ p.1 := fun e => nd.1 (e ▸ List.mem_map_of_mem hq)
      have hb : (q.1 == p.1) = false := by simpa using this
      simp [List.lookup, hb]
theorem bindArgs_kw {fd : FuncData} {as : List Arg} {dfs : List Expr} {kd : List (Option Expr)} {us vs : List Value} {kw : List (Str × Value)} (hp : fd.params = ⟨[], as, none, [], kd, none, dfs⟩) (nd : (as.map (·.arg)).Nodup) (hd : fd.defaults = .none)
    (h1 : us.length ≤ as.length) (hvs : vs.length = as.length) (kn : (kw.map (·.1)).Nodup) (kin : ∀ p ∈ kw, p.1 ∈ as.map (·.arg)) (kno : ∀ p ∈ kw, ((as.map (·.arg)).zip us).lookup p.1 = none)
    (hl : ∀ x ∈ as.map (·.arg), ((as.map (·.arg)).zip us ++ kw).lookup x = ((as.map (·.arg)).zip vs).lookup x) :
    bindArgs fd ⟨us, kw⟩ = pure ((as.map (·.arg)).zip vs) := by
  have e4 := pick_all (us := vs) nd (by rw [List.length_map]; omega) hl
  have e2 : ((as.map (·.arg)).take as.length).filter (fun n => (((as.map (·.arg)).zip us ++ kw).lookup n).isNone) = [] := by
    rw [List.filter_eq_nil_iff]
    intro x hx z
    have hx' := List.mem_of_mem_take hx
    rw [hl x hx'] at z
    obtain ⟨i, hi, e⟩ := List.mem_iff_getElem.mp hx'
    rw [isNone_zip nd (i := i) (by rw [List.getElem?_eq_getElem hi, e]) (by rw [hvs]; simpa using hi)] at z
    cases z
  have m1 : (decide (us.length > as.length) && (none : Option Arg).isNone) = false := by
    rw [decide_eq_false (show ¬ us.length > as.length by omega)]
    rfl
  unfold bindArgs
  rw [hp, hd, show seqItems? .none = pure none from rfl]
  simp only [List.map_nil, List.nil_append, List.length_map, List.forIn_nil, pure_bind, List.append_nil, Option.getD_none, List.contains_nil, Bool.or_false, Option.isSome_none]
  rw [forIn_kw kw _ _ (fun p hp s x hs => ?_) kn kno]
  · simp only [pure_bind, m1, Bool.false_eq_true, if_false, List.drop_nil, List.length_nil, Nat.sub_zero, e2, List.isEmpty_nil, Bool.not_true, e4, List.zip_nil_right, List.forIn_nil, List.append_nil]
  · have c : (as.map (·.arg)).contains p.1 = true := by simpa using kin p hp
    simp only [c, hs, if_true, Bool.false_eq_true, if_false]
theorem permW_get {α : Type} {pm : List Nat} {us : List α} (h : ∀ i ∈ pm, i < us.length) : (permW pm us).length = pm.length ∧ ∀ j (hj : j < pm.length), (permW pm us)[j]? = us[pm[j]]? := by
  unfold permW
  induction pm with
  | nil => exact ⟨rfl, fun j hj => absurd hj (by simp)⟩
  | cons i pm ih =>
    have hi := h i List.mem_cons_self
    obtain ⟨h1, h2⟩ := ih fun k hk => h k (List.mem_cons_of_mem _ hk)
    rw [List.filterMap_cons, List.getElem?_eq_getElem hi]
    refine ⟨by simp [h1], fun j hj => ?_⟩
    cases j with
    | zero => simp [List.getElem?_eq_getElem hi]
    | succ j => simpa using h2 j (by simpa using hj)
theorem zip_take {ps : List Str} {us : List Value} {n : Nat} {x : Str} (hu : us.length = n) (h : x ∈ (ps.zip us).map (·.1)) : x ∈ ps.take n := by
  obtain ⟨⟨a, b⟩, hab, rfl⟩ := List.mem_map.mp h
  obtain ⟨i, hi, e⟩ := List.mem_iff_getElem.mp hab
  rw [List.getElem_zip] at e
  have e1 := (Prod.mk.inj e).1
  rw [List.length_zip] at hi
  show a ∈ _
  rw [← e1]
  exact List.mem_take_iff_getElem.mpr ⟨i, by omega, rfl⟩
/-- such keywords bind -/
def kwOkB (ps ks : List Str) (pre : Nat) (pm : List Nat) : Bool := decide (ps.Nodup) && decide (ks.Nodup) && decide (ps = ps.take pre ++ permW pm ks) && pm.all (fun i => decide (i < ks.length)) && decide (pre ≤ ps.length) && decide (pm.length = ks.length) && ks.all (fun x => decide (x ∈ ps) && decide (x ∉ ps.take pre))
theorem kwBind_of {K : PySem.W.Frag} {fd : FuncData} {as : List Arg} {dfs : List Expr} {kd : List (Option Expr)} {ks : List Str} {pre : Nat} {pm : List Nat} (hp : fd.params = ⟨[], as, none, [], kd, none, dfs⟩) (hd : fd.defaults = .none) (h : kwOkB (as.map (·.arg)) ks pre pm = true) :
    KwBind K fd ks pre pm := by
  unfold kwOkB at h
  simp only [Bool.and_eq_true, decide_eq_true_eq, List.all_eq_true] at h
  obtain ⟨⟨⟨⟨⟨⟨nd, kn⟩, e⟩, hi⟩, hpre⟩, hpl⟩, hks⟩ := h
  have hpa : fd.params.args = as := by rw [hp]
  intro s us ws KX hu hw
  rw [hpa]
  have w1 := permW_get (us := ks) hi
  have w2 := permW_get (us := ws) (pm := pm) (fun i h => by rw [hw]; exact hi i h)
  have elen : (as.map (·.arg)).length = pre + pm.length := by
    have := congrArg List.length e
    rw [List.length_append, List.length_take, w1.1] at this
    omega
  have hlen : (us ++ permW pm ws).length = (as.map (·.arg)).length := by rw [List.length_append, w2.1, hu, elen]
  refine ⟨BindsTo.of_eq (bindArgs_kw hp nd hd (by rw [hu]; simpa using hpre) (by rw [hlen, List.length_map]) ?_ ?_ ?_ ?_), hlen⟩
  · rw [List.map_fst_zip (by omega)]
    exact kn
  · rintro ⟨x, v⟩ hx
    exact (hks x (List.of_mem_zip hx).1).1
  · rintro ⟨x, v⟩ hx
    exact lookup_none fun z => (hks x (List.of_mem_zip hx).1).2 (zip_take hu z)
  · intro x hx
    obtain ⟨j, hj, ej⟩ := List.mem_iff_getElem.mp hx
    have ej' : (as.map (·.arg))[j]? = some x := by rw [List.getElem?_eq_getElem hj, ej]
    by_cases hjp : j < pre
    · have z1 := lookup_zip (us := us) nd ej' (List.getElem?_eq_getElem (by omega))
      have z2 := lookup_zip (us := us ++ permW pm ws) nd ej' (u := us[j]'(by omega)) (by rw [List.getElem?_append_left (by omega), List.getElem?_eq_getElem (by omega)])
      rw [lookup_app, z1, z2]
      rfl
    · have hjm : j - pre < pm.length := by omega
      have hlt : (as.map (·.arg)).take pre = (as.map (·.arg)).take pre := rfl
      have ex : ks[pm[j - pre]]? = some x := by
        rw [← w1.2 (j - pre) hjm, ← ej']
        have z : (as.map (·.arg))[j]? = ((as.map (·.arg)).take pre ++ permW pm ks)[j]? := by rw [← e]
        rw [z, List.getElem?_append_right (by rw [List.length_take]; omega), List.length_take]
        congr 1
        omega
      have hip := hi pm[j - pre] (List.getElem_mem _)
      have z0 : ((as.map (·.arg)).zip us).lookup x = none := lookup_none fun z => (hks x (List.mem_of_getElem? ex)).2 (zip_take hu z)
      have z1 := lookup_zip (us := ws) kn ex (List.getElem?_eq_getElem (by omega))
      have z2 := lookup_zip (us := us ++ permW pm ws) nd ej' (u := ws[pm[j - pre]]'(by omega)) (by rw [List.getElem?_append_right (by omega), hu, w2.2 (j - pre) hjm, List.getElem?_eq_getElem (by omega)])
      rw [lookup_app, z0, z1, z2]
      rfl
end BV

set_option Elab.async false
set_option maxRecDepth 100000
set_option maxHeartbeats 4000000
/-! BVX1: a list from behind, sorted, dicts written down, values into targets. -/
namespace BV
open PySem PySem.Spec PyProof.Rows
open L2 hiding St It

section
variable {X : Cx} {T : Ad} {P : Pg} {C : Caller} {q : Asker} {W : WX} {k : Nat} {pn : List (Addr × Obj)}
theorem RepVs.rev {S : S8} : ∀ {l : List Val} {vs : List V}, RepVs T pn S l vs → RepVs T pn S l.reverse vs.reverse
  | [], vs, h => by
    have e : vs = [] := h
    subst e
    exact h
  | x :: l, vs, h => by
    obtain ⟨y, ys, e, h1, h2⟩ := h
    subst e
    rw [List.reverse_cons, List.reverse_cons]
    exact RepVs.append (RepVs.rev h2) ⟨y, [], rfl, h1, rfl⟩
theorem se_rev {e : Expr} {ie : E} {mt : Bool} {kk : Nat} {p1 p2 p3 pos : Pos} (he : PE X e (tE T P C q X.pn W ie)) :
    PE X (.Subscript e (.Slice none none (some (.UnaryOp .USub (.Constant (.int 1) kk p1) p2)) p3) pos) (tE T P C q X.pn W (.o1 (.rev mt) ie)) :=
  PE_imp (L2.pe_revL he) fun σ H Q h => by
    obtain ⟨S, r, rfl, w, er, p⟩ := h
    have p' : PostA T (RepV T X.pn) ((ev P C q ie r S.M).bind fun x M1 => f1 P C (.rev mt) x M1) S Q (atW W σ) := by
      simp only [ev] at p
      exact Post.toA.mp p
    refine tE_mono (tE_then w er p') fun x H1 ⟨S1, va, e1, g1, w1, r1, h2⟩ => ?_
    subst e1
    simp only [f1] at h2
    split at h2 <;> try exact False.elim h2
    rename_i xs hx
    obtain ⟨a, ws, ex, hx', rw'⟩ := RepV.lst w1 hx r1
    obtain ⟨_, hq⟩ := newL_ok (pn' := []) w1 (Post.toA.mpr h2)
    exact ⟨a, ws, ex, L2.SqL.of hx', fun l hl => hq l _ hl (RepVs.rev rw')⟩
theorem insI_perm (x : Int) : ∀ l : List Int, (insI x l).Perm (x :: l)
  | [] => List.Perm.refl _
  | y :: l => by
    unfold insI
    split
    · exact List.Perm.refl _
    · exact ((insI_perm x l).cons y).trans (List.Perm.swap x y l)
theorem sortI_perm : ∀ l : List Int, (sortI l).Perm l
  | [] => List.Perm.refl _
  | x :: l => (insI_perm x (sortI l)).trans ((sortI_perm l).cons x)
theorem insI_sorted (x : Int) : ∀ l : List Int, l.Pairwise (· ≤ ·) → (insI x l).Pairwise (· ≤ ·)
  | [], _ => List.pairwise_singleton _ _
  | y :: l, h => by
    rw [List.pairwise_cons] at h
    unfold insI
    split
    · rename_i hxy
      rw [List.pairwise_cons, List.pairwise_cons]
      refine ⟨fun z hz => ?_, h.1, h.2⟩
      rcases List.mem_cons.mp hz with rfl | hz
      · exact hxy
      · exact Int.le_trans hxy (h.1 z hz)
    · rename_i hxy
      rw [List.pairwise_cons]
      refine ⟨fun z hz => ?_, insI_sorted x l h.2⟩
      have := (insI_perm x l).mem_iff.mp hz
      rcases List.mem_cons.mp this with rfl | hz
      · omega
      · exact h.1 z hz
theorem sortI_sorted : ∀ l : List Int, (sortI l).Pairwise (· ≤ ·)
  | [] => List.Pairwise.nil
  | x :: l => insI_sorted x _ (sortI_sorted l)
theorem sorted_unique : ∀ {a b : List Int}, a.Perm b → a.Pairwise (· ≤ ·) → b.Pairwise (· ≤ ·) → a = b
  | [], b, p, _, _ => (List.nil_perm.mp p).symm ▸ rfl
  | x :: a, [], p, _, _ => absurd (List.perm_nil.mp p) (by simp)
  | x :: a, y :: b, p, ha, hb => by
    rw [List.pairwise_cons] at ha hb
    have e : x = y := by
      have h1 := p.mem_iff.mp List.mem_cons_self
      have h2 := p.mem_iff.mpr (List.mem_cons_self (a := y) (l := b))
      rcases List.mem_cons.mp h1 with h1 | h1
      · exact h1
      · rcases List.mem_cons.mp h2 with h2 | h2
        · exact h2.symm
        · exact Int.le_antisymm (ha.1 y h2) (hb.1 x h1)
    subst e
    rw [sorted_unique (List.Perm.cons_inv p) ha.2 hb.2]
theorem RepVs.ints {S : S8} : ∀ {l : List Int}, RepVs T pn S (l.map fun i => Val.d (.int i)) (l.map V.int)
  | [] => rfl
  | i :: l => ⟨.int i, _, rfl, rp_int (T := T) (F := S.F), RepVs.ints⟩
theorem cs_sorted (hK : X.K = T.K) {mt : Bool} : CaS X T W (bSorted mt) (.builtin "sorted") := by
  intro pins s σ S as vs us Q I w rv ra p
  unfold bSorted at p
  split at p <;> try exact False.elim p
  obtain ⟨x, rfl, r1⟩ := RepVs.one ra
  split at p <;> try exact False.elim p
  rename_i xs hs
  split at p <;> try exact False.elim p
  rename_i l hl
  obtain ⟨a, ws, ex, hx, rw'⟩ := RepV.lst w hs r1
  have ew := allInt_vals hl rw'
  subst ex ew
  obtain ⟨_, hq⟩ := newL_ok (pn' := []) w p
  refine L2.cr_sortedI pins s σ S.H _ us Q I rv ⟨a, l, rfl, L2.SqL.of hx, fun ns' p' h1 h2 h3 => ?_⟩
  have e : ns' = sortI l := sorted_unique (h1.trans (sortI_perm l).symm) h2 (sortI_sorted l)
  subst e
  exact hq p' _ h3 RepVs.ints
/-! ### dicts -/
theorem go_dk {S : S8} {p : Addr} {kvs : List (Key × V)} (w : Wf T S) (hp : S.H p = none) : Go S { S with H := upd S.H p (.dK kvs), F := upd S.F p (.dK kvs) } ∧ Wf T { S with H := upd S.H p (.dK kvs), F := upd S.F p (.dK kvs) } :=
  Go.alloc w hp fun ps z => by cases z
theorem se_dct0 {pos : Pos} : PE X (.Dict [] [] pos) (tE T P C q X.pn W (.dct [] .nil)) :=
  PE_imp L2.pe_dnewK fun σ H Q h => by
    obtain ⟨S, r, rfl, w, er, p⟩ := h
    simp only [ev, evA, R.bind, allD, List.length_nil, if_true] at p
    intro a ha
    obtain ⟨g, w'⟩ := go_dk (T := T) (kvs := []) w ha
    refine p _ (.ref a) g w' rfl ?_
    simp only [RepV, RepD, RepL]
    exact ⟨a, [], rfl, upd_same, rfl, rfl⟩
theorem se_dct1 {key : Key} {ke ve : Expr} {d : D} {x : V} {pos : Pos} (hk : PE X ke (tC (kV key))) (hv : PE X ve (tC x)) (hr : ∀ F, RepD T F d x) :
    PE X (.Dict [some ke] [ve] pos) (tE T P C q X.pn W (.dct [kD key] (.cons (.c d) .nil))) :=
  PE_imp (L2.pe_disp (L2.pps_cons hk hv L2.pps_nil) rfl rfl (by simp) (by show 1 ≤ 15; decide)) fun σ H Q h => by
    obtain ⟨S, r, rfl, w, er, p⟩ := h
    simp only [ev, evA, R.bind, allD, List.length_cons, List.length_nil, if_true] at p
    intro a ha
    obtain ⟨g, w'⟩ := go_dk (T := T) (kvs := [(key, x)]) w ha
    refine ⟨upd_same, [(key, x)], rfl, by show 1 ≤ 15; decide, ?_⟩
    have e : upd (upd S.H a (.dK [])) a (.dK (L2.mergeK [] [(key, x)])) = upd S.H a (.dK [(key, x)]) := upd_upd
    rw [e]
    refine p _ (.ref a) g w' rfl ?_
    simp only [RepV, RepD, RepL]
    exact ⟨a, [(key, x)], rfl, upd_same, rfl, x, [], rfl, hr _, rfl⟩
/-! ### values into targets -/
def gT1 (T : Ad) (P : Pg) (C : Caller) (q : Asker) (pn : List (Addr × Obj)) (W : WX) : Tg1 → L2.TG
  | .nm i => L2.gName i
  | .sub a i => L2.gSub (tE T P C q pn W a) (tE T P C q pn W i) L2.rSetL
def gTs (T : Ad) (P : Pg) (C : Caller) (q : Asker) (pn : List (Addr × Obj)) (W : WX) : List Tg1 → L2.TGs
  | [] => L2.gNil
  | t :: ts => L2.gCons (gT1 T P C q pn W t) (gTs T P C q pn W ts)
theorem stAll_ok : ∀ {ts : List Tg1} {vs : List Val} {xs : List V} {r : Env} {S : S8} {σ : L2.St} {D : L2.Ends}, Wf T S → EnvR T X.pn S r σ → RepVs T X.pn S vs xs → SPost T X.pn W (stAll P C q ts vs r S.M) S D → gTs T P C q X.pn W ts xs σ S.H D.nx
  | [], [], xs, r, S, σ, D, w, er, rv, p => by
    have e : xs = [] := rv
    exact ⟨e, nx_ok w er (by simpa only [stAll] using p)⟩
  | [], v :: vs, xs, r, S, σ, D, w, er, rv, p => by
    simp only [stAll] at p
    exact False.elim p
  | t :: ts, [], xs, r, S, σ, D, w, er, rv, p => by
    cases t <;> (simp only [stAll] at p; exact False.elim p)
  | .nm i :: ts, v :: vs, xs, r, S, σ, D, w, er, rv, p => by
    obtain ⟨y, ys, e, h1, h2⟩ := rv
    subst e
    simp only [stAll] at p
    exact ⟨y, ys, rfl, stAll_ok w (er.set h1) h2 p⟩
  | .sub a ie :: ts, v :: vs, xs, r, S, σ, D, w, er, rv, p => by
    obtain ⟨y, ys, e, h1, h2⟩ := rv
    subst e
    simp only [stAll] at p
    refine ⟨y, ys, rfl, ?_⟩
    refine ⟨S, r, rfl, w, er, Post.toA.mpr ((st_then (R1 := RepV T X.pn) er p).mono fun x H ⟨S2, vx, e2, g2, w2, r2, p2⟩ => ?_)⟩
    subst e2
    refine ⟨S2, r, rfl, w2, er.go g2 w2, Post.toA.mpr ((st_then (R1 := RepV T X.pn) (er.go g2 w2) p2).mono fun z H ⟨S3, vz, e3, g3, w3, r3, p3⟩ => ?_)⟩
    subst e3
    split at p3 <;> try exact False.elim p3
    rename_i M4 hM
    have r2' := RepV.go g3 w3 r2
    have ry' := RepV.go (g2.trans g3) w3 h1
    exact setI_post w3 r2' r3 ry' hM fun S4 g4 w4 e4 => stAll_ok w4 (er.go ((g2.trans g3).trans g4) w4) (RepVs.go ((g2.trans g3).trans g4) w4 h2) (by rw [e4]; exact SPost.from g4 p3)
theorem ss_sto (hc : X.calm = true) {ts : List Tg1} {es vs : List Expr} {kk k2 : Nat} {ias : As} {tp p2 pos : Pos} (hg : PGs X es (gTs T P C q X.pn W ts)) (ha : PA X vs (tA T P C q X.pn W ias)) (hsz : ts.length ≤ 1000) (hn : (assignEach es X.env).length = ts.length) (hst : (assignEach es X.env).findIdx? (·.1) = none)
    (hs : swapsWithSole [.Tuple es kk tp] (.Tuple vs k2 p2) pos.line X.env = pure false) (hw : swappedStores [.Tuple es kk tp] (.Tuple vs k2 p2) X.env = pure none) (h1 : (assignEach [.Tuple es kk tp] X.env).map (·.2) = [assign (.Tuple es kk tp) X.env] := by rfl) :
    PS X (.Assign [.Tuple es kk tp] (.Tuple vs k2 p2) pos) (tS T P C q X.pn W (.sto ts ias)) := PS_imp (ps_asg (pe_tup ha) (pg_tup hc hg hn hst) hs hw h1) fun D σ H h => by
  obtain ⟨S, r, rfl, w, er, p⟩ := h
  simp only [exS] at p
  refine ⟨S, r, rfl, w, er, (st_then (R1 := RepVs T X.pn) er p).mono fun ys H ⟨S1, vs, e1, g, w1, r1, p1⟩ => ?_⟩
  subst e1
  split at p1 <;> try exact False.elim p1
  rename_i hl0
  have hl : ys.length = ts.length := by rw [RepVs.length r1, hl0]
  refine ⟨by rw [hl, sizeLine_eq]; omega, fun tp htp => ?_⟩
  obtain ⟨g2, w2⟩ := Go.hid (T := T) (o := .tup ys) w1 htp (fun ps z => by cases z)
  refine ⟨tp, ys, rfl, SqT.of upd_same, hl, ?_⟩
  exact stAll_ok (S := { S1 with H := upd S1.H tp (.tup ys) }) w2 (er.go (g.trans g2) w2) (RepVs.go g2 w2 r1) (SPost.from g2 p1)
end
end BV

set_option Elab.async false
set_option maxRecDepth 100000
set_option maxHeartbeats 4000000
/-! BVX2: enumerate of a list. -/
namespace BV
open PySem PySem.Spec PyProof.Rows
open L2 hiding St It

section
variable {X : Cx} {T : Ad} {P : Pg} {C : Caller} {q : Asker} {W : WX} {k : Nat} {pn : List (Addr × Obj)}
theorem enumL_get : ∀ (xs : List Val) (k i : Nat), ((enumL k xs)[i]? = none ↔ xs.length ≤ i) ∧ ∀ item, (enumL k xs)[i]? = some item → ∃ x, xs[i]? = some x ∧ item = [.d (.int ((k + i : Nat) : Int)), x]
  | [], k, i => ⟨by simp [enumL], fun item h => by simp [enumL] at h⟩
  | x :: xs, k, 0 => ⟨by simp [enumL], fun item h => by
    simp only [enumL, List.getElem?_cons_zero] at h
    cases h
    exact ⟨x, rfl, rfl⟩⟩
  | x :: xs, k, i + 1 => by
    obtain ⟨z1, z2⟩ := enumL_get xs (k + 1) i
    simp only [enumL, List.getElem?_cons_succ, List.length_cons]
    refine ⟨by rw [z1]; omega, fun item h => ?_⟩
    obtain ⟨y, e1, e2⟩ := z2 item h
    exact ⟨y, e1, by rw [e2]; congr 4; omega⟩
theorem itr_enum {S1 : S8} {pm : List (Addr × Obj)} {va : Val} {a : Addr} (r1 : RepV T pm S1 va (.ref a)) (hK : X.K = T.K) : ItR T pn true S1 (rdEnum va) (Ite X.K a) := by
  intro S g w i its h
  unfold rdEnum at h
  split at h
  · rename_i xs e1
    cases h
    obtain ⟨a', vs, ea, hH, rv⟩ := RepV.lst w e1 (RepV.go g w r1)
    cases ea
    obtain ⟨z1, z2⟩ := enumL_get xs 0 i
    refine ⟨fun e => ⟨vs, SqL.of hH, by rw [RepVs.length rv]; exact z1.mp e⟩, fun item e => ?_⟩
    obtain ⟨x, hx, ei⟩ := z2 item e
    obtain ⟨u, hu, ru⟩ := RepVs.get rv hx
    refine ⟨⟨vs, u, SqL.of hH, hu⟩, fun xx H' ⟨p, u', q1, q2, q3, q4⟩ => ?_⟩
    have e3 := q4 vs (SqL.of hH)
    rw [hu] at e3
    cases e3
    subst q1 q3 ei
    rw [Nat.zero_add]
    exact pair_ok w q2 (show RepV T [] S (.d (.int (i : Int))) (.int ((i : Nat) : Int)) from rp_int (T := T) (F := S.F)) ru
  · cases h
theorem si_enum (hK : X.K = T.K) {a : Expr} {ia : E} {elts : List Expr} {kk : Nat} {tpos p pos : Pos} (hg : Gl X "enumerate") (hm : X.mg "enumerate" = none) (ha : PE X a (tE T P C q X.pn W ia))
    (hs : starEach [a] X.env = [(false, eval a X.env)]) :
    PI X (.Tuple elts kk tpos) (.Call (.Name "enumerate" p) [a] [] pos) (tI T P C q X.pn W (.enum ia 0) true) :=
  PI_imp (pi_enum hg hm (pa_cons ha pa_nil hs) hs) fun σ H R h => by
    obtain ⟨S, r, rfl, w, er, p⟩ := h
    simp only [evI] at p
    refine tE_mono (tE_then w er p) fun x H1 ⟨S1, va, e1, g1, w1, r1, p⟩ => ?_
    subst e1
    have p : PostA T (fun S' rd J => ItR T [] true S' rd J) (if true && (0 : Int) == 0 && (rdEnum va S1.M).isSome then .ok (rdEnum va) S1.M else .no) S1 R (atW W σ) := p
    rw [show (true && (0 : Int) == 0) = true from rfl, Bool.true_and] at p
    split at p <;> try exact False.elim p
    rename_i hz
    unfold rdEnum at hz
    split at hz
    · rename_i xs e2
      obtain ⟨a', vs, ea, hH, rv⟩ := RepV.lst w1 e2 r1
      subst ea
      exact ⟨a', vs, rfl, SqL.of hH, p S1 _ (Go.refl _) w1 rfl (itr_enum r1 hK)⟩
    · cases hz
end
end BV

set_option Elab.async false
set_option maxRecDepth 100000
set_option maxHeartbeats 4000000
/-! BVX3: name op= e where the name stands for an instance of an own class. -/
namespace PySem.W
open PySem PySem.Calls PyProof.Rows

section
variable {prog : Program} {w : World} {A : Around} {E : Value → Shared → Prop} {s : Shared} {K : Frag} {x C L f : Addr} {h₀ : Heap} {m : Str → Option Value} {ox : Obj} {od : Option Obj} {nm T : String}
theorem bvx_noI {M : Model} {h : Heap} {cd : ClassData} {add : Bool} (X : K.In h) (hc : clsIn K C = some cd) (hn : ∀ c ∈ cd.mro, findIn K c (dunderI nm) = some none) : Looks M h (fillsInplaceSlot (.ref C) nm add) false := by
  intro A Q E s k q
  have Lm : Looks M h (mroOf (.ref C)) cd.mro := (looks_clsIn X hc).andThen (f := fun cd => pure cd.mro) .now
  unfold fillsInplaceSlot
  refine wpAny_bind (Lm A _ E s k ?_)
  revert hn
  generalize cd.mro = l
  intro hn
  induction l with
  | nil => exact wpAny_pure q
  | cons c l ih =>
    rw [List.anyM_cons]
    refine wpAny_bind ?_
    refine wpAny_bind ((looks_findIn (X.keeps k) (hn c List.mem_cons_self)).here ?_)
    refine wpAny_pure ?_
    exact ih fun c hc => hn c (List.mem_cons_of_mem _ hc)
theorem bvx_same {b : Value} {Q : Value → Shared → Prop} (X : K.In s.heap) (I : InstAt s.heap x ox C od) (hb : Looks (model prog w) s.heap (typeOf b) (.ref C)) (hc : selfFirst K C = true)
    (hs : findIn K (.ref C) (PySem.dunder nm) = some (some (.ref f))) (hf : isFn K (.ref f) = true)
    (h : wpAny (model prog w) A (call (.ref f) [.ref x, b]) (CmpBack Q) E s) : wpAny (model prog w) A (binaryOp1 nm (.ref x) b) (fun r s' => ∃ v, r = some v ∧ Q v s') E s := by
  obtain ⟨cd, rest, hcd, hm⟩ := ksp_first hc
  unfold binaryOp1
  refine wpAny_bind (I.type.here (wpAny_bind (hb.here (wpAny_bind ((fills_K X hcd hm hs).here ?_)))))
  simp only [beq_self_eq_true, if_true]
  refine wpAny_bind (wpAny_pure ?_)
  simp only [Bool.and_false, Bool.false_eq_true, if_false, Bool.false_and]
  refine wpAny_bind (wpAny_pure ?_)
  simp only [Bool.false_eq_true, if_false]
  refine wpAny_bind (m := tryMethod (.ref x) _ b) ?_
  refine wpAny_mono (ksp_try X I hs hf h) (fun r s' hr => ?_) fun _ _ e => e
  obtain ⟨v, rfl, hq⟩ := hr
  exact wpAny_pure ⟨v, rfl, hq⟩
theorem bvx_T {b : Value} {fo ro rc : Option Value} {Q : Value → Shared → Prop} (X : K.In s.heap) (I : InstAt s.heap x ox C od) (hb : typeOf b = pure (.type T)) (hc : selfFirst K C = true)
    (hs : findIn K (.ref C) (PySem.dunder nm) = some (some (.ref f))) (hf : isFn K (.ref f) = true) (hr : findIn K (.ref C) (dunderR nm) = some rc) (hp : rc = none ∨ ∃ g : Addr, rc = some (.ref g))
    (h1 : findIn K (.type T) (PySem.dunder nm) = some fo) (h2 : findIn K (.type T) (dunderR nm) = some ro) (hsub : subIn K (.type T) (.ref C) = some false)
    (h : wpAny (model prog w) A (call (.ref f) [.ref x, b]) (CmpBack Q) E s) : wpAny (model prog w) A (binaryOp1 nm (.ref x) b) (fun r s' => ∃ v, r = some v ∧ Q v s') E s := by
  obtain ⟨cd, rest, hcd, hm⟩ := ksp_first hc
  have one := ksp_try X I hs hf h
  obtain ⟨hh, g, d, tt, os⟩ := s
  have L1 : Looks (model prog w) hh (typeOf (.ref x)) (.ref C) := I.type
  have L2 : Looks (model prog w) hh (typeOf b) (.type T) := Looks.of_pure hb
  have L3 : Looks (model prog w) hh (fillsNumberSlot (.ref C) nm) true := fills_K X hcd hm hs
  have L4 : Looks (model prog w) hh (fillsNumberSlot (.type T) nm) ((fo.isSome && !isSeqSlot fo) || (ro.isSome && !isSeqSlot ro)) := ksp_fillsT X h1 h2
  have L5 : Looks (model prog w) hh (isSubtype (.type T) (.ref C)) false := looks_subIn X hsub
  have L6 : Looks (model prog w) hh (numberSlotInPython (.ref C) nm) true := ksp_inPy X hs hr hp
  have L7 : Looks (model prog w) hh (numberSlotInPython (.type T) nm) false := Looks.of_pure rfl
  have L8 : Looks (model prog w) hh (typeLookup (.type T) (dunderR nm)) ro := looks_findIn X h2
  generalize ((fo.isSome && !isSeqSlot fo) || (ro.isSome && !isSeqSlot ro)) = right at L4
  have hne : (Value.ref C == Value.type T) = false := Bool.eq_false_iff.mpr fun q => by cases beq_iff_eq.mp q
  unfold binaryOp1
  refine wpAny_bind (L1.at (wpAny_bind (L2.at (wpAny_bind (L3.at ?_)))))
  simp only [hne, Bool.false_eq_true, if_false]
  cases right with
  | false =>
    ksp_lk
    refine wpAny_mono one (fun r s' hr' => ?_) fun _ _ e => e
    obtain ⟨v, rfl, hq⟩ := hr'
    ksp_lk
    exact ⟨v, rfl, hq⟩
  | true =>
    ksp_lk
    refine wpAny_mono one (fun r s' hr' => ?_) fun _ _ e => e
    obtain ⟨v, rfl, hq⟩ := hr'
    ksp_lk
    exact ⟨v, rfl, hq⟩
/-- op= of an instance whose class has no op= of its own -/
theorem bvx_inp {op : Operator} {b : Value} {Q : Value → Shared → Prop} (I : InstAt s.heap x ox C od) (L2 : Looks (model prog w) s.heap (fillsInplaceSlot (.ref C) op.info.2 (op == .Add)) false)
    (h : wpAny (model prog w) A (binaryOp1 op.info.2 (.ref x) b) (fun r s' => ∃ v, r = some v ∧ Q v s') E s) : wpAny (model prog w) A (inplaceOp op (.ref x) b) Q E s := by
  unfold inplaceOp
  refine wpAny_holding ?_
  refine wpAny_bind (I.type.here (wpAny_bind (L2.here ?_)))
  simp only [Bool.false_eq_true, if_false]
  refine wpAny_bind (wpAny_mono h (fun r s' hr => ?_) fun _ _ e => e)
  obtain ⟨v, rfl, hq⟩ := hr
  exact wpAny_pure hq
end
end PySem.W

namespace BV
open PySem PySem.Spec PyProof.Rows
open L2 hiding St It

section
variable {X : Cx} {T : Ad} {P : Pg} {C : Caller} {q : Asker} {W : WX} {k : Nat} {pn : List (Addr × Obj)}
theorem iop_own (c : Cok X T C k W) (g : Prg T P) {k2 : K2} {op : Operator} (ho : op ∈ binL) (hc : k2.isCmp = false) (hn : T.nm k2.dn = PySem.dunder op.info.2) (hd : 1 ≤ k2.dn ∧ k2.dn ≤ 12) {pins : List (Addr × Obj)} {s : Shared} {σ : L2.St} {S : S8} {a b : Val} {x y : V} {v u : Value} {Q : VK}
    (I : L2.Inv X pins σ S.H s) (w : Wf T S) (rx : L2.RelV x v) (ry : L2.RelV y u) (r1 : RepV T X.pn S a x) (r2 : RepV T X.pn S b y) (p : Post T X.pn (ownL P C k2 k2.dn a b S.M) S Q (atW W σ)) :
    wpAny (model X.prog X.w) X.A (inplaceOp op v u) (EP X pins σ Q) X.xe s := by
  have hK := c.K
  unfold ownL at p
  split at p <;> try exact False.elim p
  rename_i cn vs hi
  split at p <;> try exact False.elim p
  rename_i f hmeth
  split at p <;> try exact False.elim p
  rename_i hab
  obtain ⟨ad, dx, ws, ex, hx, rws, hlen⟩ := RepV.ins w hi r1
  subst ex
  cases rx
  obtain ⟨hfz, Mt, hq, _⟩ := g.meth _ _ _ hmeth
  have ow := g.own _ _ _ hmeth hd.1 hd.2
  rw [← hK, hn] at Mt
  obtain ⟨mA, J, _⟩ := ins_get I.hok hx
  obtain ⟨od, J, _⟩ := J.look
  obtain ⟨m, hF⟩ := I.fr
  obtain ⟨tb, hb, hnf, hty⟩ := argT I w ow hK hab r2 ry
  have fst := ow.first
  obtain ⟨⟨rc, q1, q2⟩, ⟨fo, q3⟩, ⟨ro, q4⟩⟩ := ow.bin op ho
  have hs := ow.sub "int" (by simp)
  rw [← hK] at fst q1 q3 q4 hs
  obtain ⟨cd, hcd, hmro⟩ := ow.inp op ho
  rw [← hK] at hcd hmro
  have KX := I.ok.mod.kin.keeps hF.keep
  have L2 := PySem.W.bvx_noI (M := model X.prog X.w) (add := op == .Add) KX hcd hmro
  rcases c.rf f [a, b] S.M with pl | pl
  · have ra : RepVs T [] S [a, b] [V.ref ad, y] := by
      have pa : plainV a = true ∧ plainV b = true := by simpa [List.all_cons] using pl
      exact ⟨_, _, rfl, RepV.plain pa.1 r1, _, _, rfl, RepV.plain pa.2 r2, rfl⟩
    have run := wpAny_mono (run_bv (us := [.ref ad, u]) c.tk c.calls (c.room.mono (by omega)) (.inl hq) I.env0 I w ra (.cons rfl (.cons ry .nil)) (Post.nil p)) (fun _ _ z => cmpBack z) fun _ _ z => z
    rcases hty with e | ⟨n, hn', e, et⟩ | e
    · subst e
      exact PySem.W.bvx_inp J L2 (PySem.W.bvx_same KX J hb fst Mt.at_ Mt.fn run)
    · cases b with
      | d d =>
        cases d with
        | int i =>
          have et' : typeOf u = pure (.type "int") := by
            have r2' : RepD T S.F (.int i) y := r2
            simp only [RepD] at r2'
            subst r2'
            obtain ⟨t, rfl⟩ := ry
            rfl
          exact PySem.W.bvx_inp J L2 (PySem.W.bvx_T KX J et' fst Mt.at_ Mt.fn q1 q2 q3 q4 hs run)
        | ins c' ds =>
          obtain ⟨ad', dx', ws', ex', hx', _, _⟩ := RepV.ins w (show insOf S.M (.d (.ins c' ds)) = some (c', ds.map Val.d) from rfl) r2
          subst ex'
          cases ry
          obtain ⟨mA', J', _⟩ := ins_get I.hok hx'
          obtain ⟨od', J', _⟩ := J'.look
          simp only [argK, hc, Bool.false_eq_true, if_false] at hab
          have ec := eq_of_beq hab
          subst ec
          exact PySem.W.bvx_inp J L2 (PySem.W.bvx_same KX J J'.type fst Mt.at_ Mt.fn run)
        | non => simp only [argK, hc] at hab; cases hab
        | bl => simp only [argK, hc] at hab; cases hab
        | str => simp only [argK, hc] at hab; cases hab
        | tup => simp only [argK, hc] at hab; cases hab
        | lst => simp only [argK, hc] at hab; cases hab
        | dic => simp only [argK, hc] at hab; cases hab
        | _ => cases hab
      | _ => cases hab
    · rw [hc] at e
      cases e
  · rw [pl] at p
    exact False.elim p
/-- the operators of op= -/
def augOp : K2 → Option Operator
  | .add => some .Add | .sub => some .Sub | .mul => some .Mult | .fdiv => some .FloorDiv | .mod => some .Mod | .band => some .BitAnd | .bor => some .BitOr
  | _ => none
theorem aug_run (c : Cok X T C k W) (g : Prg T P) (hu : X.A.units < cLine) {k2 : K2} {op : Operator} (h : augOp k2 = some op) {pins : List (Addr × Obj)} {s : Shared} {σ : L2.St} {S : S8} {a b : Val} {x y : V} {v u : Value} {Q : VK}
    (I : L2.Inv X pins σ S.H s) (w : Wf T S) (rx : L2.RelV x v) (ry : L2.RelV y u) (r1 : RepV T X.pn S a x) (r2 : RepV T X.pn S b y) (p : Post T X.pn (augV P C k2 a b S.M) S Q (atW W σ)) :
    wpAny (model X.prog X.w) X.A (inplaceOp op v u) (EP X pins σ Q) X.xe s := by
  unfold augV at p
  split at p
  · cases k2 <;> first | (cases h; done) | (obtain rfl := Option.some.inj h)
    · exact iop_own c g (k2 := .add) (op := .Add) (by decide) rfl ((nm_dn _ (by decide)).trans (by decide)) (by decide) I w rx ry r1 r2 p
    · exact iop_own c g (k2 := .sub) (op := .Sub) (by decide) rfl ((nm_dn _ (by decide)).trans (by decide)) (by decide) I w rx ry r1 r2 p
    · exact iop_own c g (k2 := .mul) (op := .Mult) (by decide) rfl ((nm_dn _ (by decide)).trans (by decide)) (by decide) I w rx ry r1 r2 p
    · exact iop_own c g (k2 := .fdiv) (op := .FloorDiv) (by decide) rfl ((nm_dn _ (by decide)).trans (by decide)) (by decide) I w rx ry r1 r2 p
    · exact iop_own c g (k2 := .mod) (op := .Mod) (by decide) rfl ((nm_dn _ (by decide)).trans (by decide)) (by decide) I w rx ry r1 r2 p
    · exact iop_own c g (k2 := .band) (op := .BitAnd) (by decide) rfl ((nm_dn _ (by decide)).trans (by decide)) (by decide) I w rx ry r1 r2 p
    · exact iop_own c g (k2 := .bor) (op := .BitOr) (by decide) rfl ((nm_dn _ (by decide)).trans (by decide)) (by decide) I w rx ry r1 r2 p
  · unfold augI at p
    split at p <;> try exact False.elim p
    split at p <;> try exact False.elim p
    have e2 := rl_int (T := T) (F := S.F) r1
    have e3 := rl_int (T := T) (F := S.F) r2
    subst e2 e3
    split at p
    · obtain rfl := Option.some.inj h
      exact ip_add pins s σ S.H _ _ _ _ _ I rx ry ⟨_, _, rfl, rfl, post_d w p rp_int⟩
    · obtain rfl := Option.some.inj h
      exact ip_sub pins s σ S.H _ _ _ _ _ I rx ry ⟨_, _, rfl, rfl, post_d w p rp_int⟩
    · exact False.elim p
theorem ss_aug (c : Cok X T C k W) (g : Prg T P) (hu : X.A.units < cLine) {k2 : K2} {op : Operator} (ho : augOp k2 = some op) {i : Nat} {x : Str} {e : Expr} {ie : E} {pos' pos : Pos} (hN : X.N.Nodup) (hi : X.N[i]? = some x) (hx : Loc X.env.scope x) (he : PE X e (tE T P C q X.pn W ie)) (hf : X.fn x = true ∨ X.env.scope.names.lookup x = some .local) :
    PS X (.AugAssign (.Name x pos') op e pos) (tS T P C q X.pn W (.aug i k2 ie)) := by
  refine ⟨fun pins s σ H D I h => ?_⟩
  obtain ⟨S, r, rfl, w, er, p⟩ := h
  simp only [exS] at p
  split at p <;> try exact False.elim p
  rename_i v hv
  obtain ⟨y0, hy, ry⟩ := er.2 i v hv
  obtain ⟨m, hn, hl⟩ := I.loc
  have vis : Vis X.env.scope x := by rcases hx with k | k; exact .inl k; exact .inr (.inl k)
  obtain ⟨u, rr, l⟩ := hl i x y0 hi hy vis
  refine wpAny_AugAssign_Name ?_
  have go : wpAny (model X.prog X.w) X.A (eval e X.env) (fun w s₂ => wpAny (model X.prog X.w) X.A (inplaceOp op u w) (fun r s₃ => wpAny (model X.prog X.w) X.A (storeName X.env x r) (fun _ => SP X pins D .next) X.xe s₃) X.xe s₂) X.xe s := by
    refine thn (he.run pins s σ S.H _ I ⟨S, r, rfl, w, er, Post.toA.mpr (st_then (R1 := RepV T X.pn) er p)⟩) fun w2 s1 ⟨y, H1, I1, r1, S1, vy, e1, g1, w1, rv1, p1⟩ => ?_
    subst e1
    have hv' : RepV T X.pn S1 v y0 := by
      rcases ry with z | ⟨z, _⟩
      · exact RepV.go g1 w1 z
      · subst z
        exact False.elim p1
    refine thn (aug_run c g hu ho I1 w1 rr r1 hv' rv1 (Post.toA.mpr (st_then (R1 := RepV T X.pn) (er.go g1 w1) p1))) fun z s2 ⟨zv, H2, I2, r2, S2, vz, e2, g2, w2', rv2, p2⟩ => ?_
    subst e2
    exact store_ok I2 hN hi hx r2 (fun s3 I3 => ⟨_, S2.H, I3, nx_ok w2' ((er.go (g1.trans g2) w2').set rv2) p2⟩) hf
  rcases l with ⟨hk, hm⟩ | ⟨hk, c, hc, hcell⟩
  · exact wpAny_loadName_local I.ok.kind hk hn hm go
  · rcases hk with hk | hk
    · exact wpAny_loadName_cell I.ok.kind hk hc hcell go
    · rcases hx with k | k
      · have : X.env.scope.names.lookup x = some .free := hk
        rw [k] at this; cases this
      · have : X.env.scope.names.lookup x = some .free := hk
        rw [k] at this; cases this
end
end BV

set_option Elab.async false
set_option maxRecDepth 100000
set_option maxHeartbeats 4000000
/-! BV42: shapes of the text, told by Bools. -/
namespace BV
open PySem PySem.Spec PyProof.Rows
open L2 hiding St It

def notStar : Expr → Bool
  | .Starred .. => false
  | _ => true
def notSlice : Expr → Bool
  | .Slice .. => false
  | _ => true
def notSet : Expr → Bool
  | .Set .. => false
  | _ => true
def noComp : Expr → Bool
  | .ListComp .. => false
  | .SetComp .. => false
  | .DictComp .. => false
  | _ => true
def plainT : Expr → Bool
  | .UnaryOp .. => false
  | .BoolOp .. => false
  | .IfExp .. => false
  | .Compare .. => false
  | _ => true
def noSuper : Expr → Bool
  | .Call (.Name id _) [] [] _ => id != "super"
  | _ => true
section
variable {env : PySem.Env} {pos : Pos}
theorem sh_star {e : Expr} {es : List Expr} (h : notStar e = true) : starEach (e :: es) env = (false, eval e env) :: starEach es env := by
  cases e <;> first | rfl | cases h
theorem sh_any : ∀ {es : List Expr}, es.all notStar = true → (backTo pos (starEach es env)).any (·.1) = false
  | [], _ => rfl
  | e :: es, h => by
    rw [List.all_cons, Bool.and_eq_true] at h
    rw [sh_star h.1]
    show (false || (backTo pos (starEach es env)).any (·.1)) = false
    rw [sh_any h.2]
    rfl
theorem sh_anyS : ∀ {es : List Expr}, es.all notStar = false → (backTo pos (starEach es env)).any (·.1) = true
  | [], h => by cases h
  | e :: es, h => by
    rw [List.all_cons] at h
    cases z : notStar e with
    | true =>
      rw [z, Bool.true_and] at h
      rw [sh_star z]
      show (false || (backTo pos (starEach es env)).any (·.1)) = true
      rw [sh_anyS h]
      rfl
    | false =>
      cases e <;> first | exact absurd (show true = false from z) (by decide) | rfl
theorem sh_all {es : List Expr} (h : es.all notStar = true) : (backTo pos (starEach es env)).all (!·.1) = true := by
  have z := sh_any (env := env) (pos := pos) h
  rw [List.any_eq_false] at z
  rw [List.all_eq_true]
  intro x hx
  cases q : x.1 with
  | false => rfl
  | true => exact absurd q (z x hx)
theorem sh_ix {b : Expr} (h : notSlice b = true) : PlainIx b := fun o i => by cases b <;> first | rfl | cases h
theorem sh_ix2 {b : Expr} (h : notSlice b = true) : ∀ v u, subscripted b true v u = runValue (.builtin "lifetime.subscript" ⟨[v, u], []⟩) := fun o i => by cases b <;> first | rfl | cases h
theorem sh_tr {e : Expr} (h : plainT e = true) : ∀ whole, isTrue e env whole = (do let v ← whole; standAt e.pos; holding [v] (truthy v)) := fun whole => by cases e <;> first | rfl | cases h
theorem sh_base {o : Expr} {f : Str} (h : noSuper o = true) : attributeBase o f env (eval o env) = eval o env := by
  unfold attributeBase
  split
  · rename_i id p1 p2
    have h' : (id != "super") = true := h
    rw [h']
    rfl
  · rfl
theorem sh_swap {e : Expr} (h : noComp e = true) {t : Option Expr} {l : Nat} : swapsWith e t l env = pure false := by
  cases e <;> first | rfl | cases h
theorem sh_swapA {e o : Expr} {f : Str} {p : Pos} {l : Nat} : swapsWith e (some (.Attribute o f p)) l env = pure false := by
  cases e <;> rfl
theorem sh_swapS {e o i : Expr} {p : Pos} {l : Nat} : swapsWithSole [.Subscript o i p] e l env = pure false := by
  cases e <;> rfl
theorem sh_swap2 {e : Expr} {ts : List Expr} {k : Nat} {p : Pos} {l : Nat} : swapsWithSole [.Tuple ts k p] e l env = pure false := by
  cases e <;> rfl
theorem sh_set {e : Expr} (h : notSet e = true) : ∀ x, foldedSetIterable e env x = pure x := fun x => by cases e <;> first | rfl | cases h
theorem sh_in {op : CmpOp} {e : Expr} (h : notSet e = true) : behindInMarks op e = false := by cases e <;> first | rfl | cases h
theorem sh_in2 {o1 o2 : CmpOp} {b c : Expr} (h : notSet c = true) : lastMarks [o1, o2] [b, c] = false := by
  cases c <;> first | rfl | cases h
theorem sh_tgs : ∀ {es : List Expr}, es.all notStar = true → (assignEach es env).length = es.length ∧ (assignEach es env).findIdx? (·.1) = none
  | [], _ => ⟨rfl, rfl⟩
  | e :: es, h => by
    rw [List.all_cons, Bool.and_eq_true] at h
    obtain ⟨h1, h2⟩ := sh_tgs h.2
    have z : assignEach (e :: es) env = (false, assign e env) :: assignEach es env := by
      cases e <;> first | rfl | exact absurd (show false = true from h.1) (by decide)
    rw [z]
    refine ⟨by rw [List.length_cons, List.length_cons, h1], ?_⟩
    rw [List.findIdx?_cons, h2]
    rfl
theorem sh_len {es : List Expr} : (starEach es env).length = es.length := by
  induction es with
  | nil => rfl
  | cons e es ih => cases e <;> simp [starEach, ih]
/-- a method's call on one line -/
theorem sh_me {o : Expr} {nm : Str} {apos : Pos} {es : List Expr} (hb : noSuper o = true) (hs : es.all notStar = true) (hn : es.length < 30) (hl : (apos.endLine == pos.line) = true) :
    eval (.Call (.Attribute o nm apos) es [] pos) env = (do
      let ov ← eval o env
      standAt apos.atName
      let (f, first) ← holding [ov] (getMethod ov nm (plainOf o env))
      callWith pos f first (backTo pos (starEach es env)) (backToKw pos (keywordEach [] env))) := by
  have e0 : eval (.Call (.Attribute o nm apos) es [] pos) env = (do
      let ov ← attributeBase o nm env (eval o env)
      standAt apos.atName
      methodCall o nm apos pos env ov (es.length + 0) (backTo pos (starEach es env)) (backToKw pos (keywordEach [] env))) := rfl
  rw [e0, sh_base hb]
  have hf : methodCallForm (es.length + 0) (backTo pos (starEach es env)) (backToKw pos (keywordEach [] env)) = true := by
    unfold methodCallForm
    rw [sh_all hs]
    show (true && true && decide (es.length + 0 + 0 < 30)) = true
    rw [decide_eq_true (show es.length + 0 + 0 < 30 by omega)]
    rfl
  congr 1
  funext ov
  congr 1
  funext _
  exact mcall_line hf hl
/-- keywords, all with names -/
def kwNames : List Keyword → Option (List Str)
  | [] => some []
  | ⟨some x, _, _⟩ :: r => match kwNames r with
    | some l => some (x :: l)
    | none => none
  | ⟨none, _, _⟩ :: _ => none
theorem sh_kw : ∀ {kws : List Keyword} {ks : List Str}, kwNames kws = some ks → (backToKw pos (keywordEach kws env)).all (·.1.isSome) = true ∧ (backToKw pos (keywordEach kws env)).filterMap (·.1) = ks ∧ (backToKw pos (keywordEach kws env)).any (·.1.isNone) = false ∧ kws.length = ks.length
  | [], ks, h => by
    cases h
    exact ⟨rfl, rfl, rfl, rfl⟩
  | ⟨some x, e, p⟩ :: r, ks, h => by
    simp only [kwNames] at h
    split at h
    · rename_i l hl
      cases h
      obtain ⟨h1, h2, h3, h4⟩ := sh_kw hl
      have z : backToKw pos (keywordEach (⟨some x, e, p⟩ :: r) env) = (some x, do let v ← eval e env; standAt pos; pure v) :: backToKw pos (keywordEach r env) := rfl
      rw [z]
      refine ⟨?_, ?_, ?_, by rw [List.length_cons, List.length_cons, h4]⟩
      · rw [List.all_cons, h1]; rfl
      · rw [List.filterMap_cons, h2]
      · rw [List.any_cons, h3]; rfl
    · cases h
  | ⟨none, e, p⟩ :: r, ks, h => by cases h
theorem sh_kwLen {kws : List Keyword} : (keywordEach kws env).length = kws.length := by
  induction kws with
  | nil => rfl
  | cons e es ih => obtain ⟨a, b, c⟩ := e; simp [keywordEach, ih]
theorem sh_meP {o : Expr} {nm : Str} {apos : Pos} {kws : List Keyword} {ks : List Str} (hb : noSuper o = true) (hk : kwNames kws = some ks) (hn : kws.length < 29) (hl : (apos.endLine == pos.line) = true) :
    eval (.Call (.Attribute o nm apos) [] kws pos) env = (do
      let ov ← eval o env
      standAt apos.atName
      let (f, first) ← holding [ov] (getMethod ov nm (plainOf o env))
      callWith pos f first (backTo pos (starEach [] env)) (backToKw pos (keywordEach kws env))) := by
  have e0 : eval (.Call (.Attribute o nm apos) [] kws pos) env = (do
      let ov ← attributeBase o nm env (eval o env)
      standAt apos.atName
      methodCall o nm apos pos env ov (0 + kws.length) (backTo pos (starEach [] env)) (backToKw pos (keywordEach kws env))) := rfl
  rw [e0, sh_base hb]
  have hf : methodCallForm (0 + kws.length) (backTo pos (starEach [] env)) (backToKw pos (keywordEach kws env)) = true := by
    unfold methodCallForm
    rw [(sh_kw (env := env) (pos := pos) hk).1]
    show (true && true && decide (0 + kws.length + (if (backToKw pos (keywordEach kws env)).isEmpty then 0 else 1) < 30)) = true
    rw [decide_eq_true (show 0 + kws.length + (if (backToKw pos (keywordEach kws env)).isEmpty then 0 else 1) < 30 by split <;> omega)]
    rfl
  congr 1
  funext ov
  congr 1
  funext _
  exact mcall_line hf hl
end
end BV

set_option Elab.async false
set_option maxRecDepth 100000
set_option maxHeartbeats 4000000
/-! BV43: the small language against the text, by a Bool: tables, expressions. -/
namespace BV
open PySem PySem.Spec PyProof.Rows
open L2 hiding St It

/-- what a name of the module stands for -/
inductive Gk where
  | fn (f : Nat) | cls (c : Nat) | con (d : D) | bt
/-- the tables as lists -/
structure Tb where
  gl : List (Str × Gk)
  on : List Str
  fns : List (Option FnI)
  me : List ((Nat × Nat) × Nat)
  cm : List ((Nat × Nat) × Nat)
  pr : List ((Nat × Nat) × Nat)
  cc : List ((Nat × Nat) × D)
  fd : List ((Nat × Nat) × Nat)
  xf : List ((Nat × Nat) × Nat)
  sb : List (Nat × Nat)
  fz : List (Nat × Bool)
  ini : List (Nat × Nat)
  ex : List (Nat × Nat)
  /-- the defs that look at guards -/
  nq : List Nat
  /-- calls by keywords: the def, the names, how many ahead, the places -/
  kw : List (Nat × List Str × Nat × List Nat)
def Tb.nm (B : Tb) (i : Nat) : Str := if i < 30 then dunNm i else (B.on[i - 30]?).getD "__none__"
def Tb.qt (B : Tb) (f : Nat) : Bool := !B.nq.contains f
def Tb.P (B : Tb) : Pg where
  fn f := (B.fns[f]?).join
  meth c m := B.me.lookup (c, m)
  cmeth c m := B.cm.lookup (c, m)
  smeth _ _ := none
  prop c m := B.pr.lookup (c, m)
  ccon c m := B.cc.lookup (c, m)
  fld c m := B.fd.lookup (c, m)
  xfl c m := B.xf.lookup (c, m)
  sub c d := B.sb.contains (c, d)
  frz c := B.fz.lookup c
  ini c := B.ini.lookup c
  exc c := B.ex.lookup c

/-- a place, as far as the text tells -/
structure Md where
  N : List Str
  sc : Scope
  /-- calls and errors are allowed -/
  full : Bool
  /-- the def is called anywhere, also where guards stand -/
  qt : Bool
  /-- lambdas may be handed over -/
  lam : Bool
  /-- the def's one parameter is a lambda -/
  ask : Bool
  /-- calls by keywords are allowed -/
  kwf : Bool
  fn : Str → Bool
def Md.blk (m : Md) (scope : Scope) : Md := { m with sc := relS scope m.sc, fn := fun x => scope.names.lookup x == some .cell, ask := false }
def Md.lm (m : Md) (scope : Scope) : Md := { m with sc := scope, fn := fun _ => false, qt := true, lam := false, ask := false }

def visB (sc : Scope) (x : Str) : Bool := match sc.names.lookup x with
  | some .local => true
  | some .cell => true
  | some .free => true
  | _ => false
def locB (sc : Scope) (x : Str) : Bool := match sc.names.lookup x with
  | some .local => true
  | some .cell => true
  | _ => false
def lclB (sc : Scope) (x : Str) : Bool := match sc.names.lookup x with
  | some .local => true
  | _ => false
def glbB (sc : Scope) (x : Str) : Bool := match sc.names.lookup x with
  | some .globalImplicit => true
  | _ => false
def ndb (x : Str) : Bool := !(x == ("__debug__" : Str)) && !(x == ("__classdict__" : Str)) && !(x == ("__name__" : Str))

mutual
def sameD : D → D → Bool
  | .non, .non => true
  | .bl a, .bl b => a == b
  | .int a, .int b => decide (a = b)
  | .str a, .str b => decide (a = b)
  | .tup a, .tup b => sameDs a b
  | .lst a, .lst b => sameDs a b
  | .fn a, .fn b => decide (a = b)
  | .cls a, .cls b => decide (a = b)
  | _, _ => false
def sameDs : List D → List D → Bool
  | [], [] => true
  | a :: l, b :: m => sameD a b && sameDs l m
  | _, _ => false
end
mutual
theorem sameD_ok : ∀ {a b : D}, sameD a b = true → a = b
  | .non, .non, _ => rfl
  | .bl a, .bl b, h => by rw [eq_of_beq (show (a == b) = true from h)]
  | .int a, .int b, h => by rw [of_decide_eq_true (show decide (a = b) = true from h)]
  | .str a, .str b, h => by rw [of_decide_eq_true (show decide (a = b) = true from h)]
  | .tup a, .tup b, h => by rw [sameDs_ok (show sameDs a b = true from h)]
  | .lst a, .lst b, h => by rw [sameDs_ok (show sameDs a b = true from h)]
  | .fn a, .fn b, h => by rw [of_decide_eq_true (show decide (a = b) = true from h)]
  | .cls a, .cls b, h => by rw [of_decide_eq_true (show decide (a = b) = true from h)]
theorem sameDs_ok : ∀ {a b : List D}, sameDs a b = true → a = b
  | [], [], _ => rfl
  | a :: l, b :: m, h => by
    obtain ⟨h1, h2⟩ := Bool.and_eq_true_iff.mp (show (sameD a b && sameDs l m) = true from h)
    rw [sameD_ok h1, sameDs_ok h2]
end

/-- a constant of the text -/
def cstB : D → Const → Bool
  | .non, .none => true
  | .bl a, .bool b => a == b
  | .int a, .int b => decide (a = b)
  | .str a, .str b => decide (a = b)
  | _, _ => false
def gkB (d : D) : Gk → Bool
  | .fn f => (match d with | .fn g => decide (f = g) | _ => false)
  | .cls f => (match d with | .cls g => decide (f = g) | _ => false)
  | .con e => sameD d e
  | .bt => false
def Tb.fnB (B : Tb) (x : Str) (f : Nat) : Bool := match B.gl.lookup x with
  | some (.fn g) => decide (f = g)
  | _ => false
def Tb.clB (B : Tb) (x : Str) (c : Nat) : Bool := match B.gl.lookup x with
  | some (.cls g) => decide (c = g)
  | _ => false
def Tb.btB (B : Tb) (x : Str) : Bool := match B.gl.lookup x with
  | some .bt => true
  | _ => false
def chC (B : Tb) (m : Md) (d : D) (e : Expr) : Bool := match e with
  | .Constant c _ _ => cstB d c
  | .Name x _ => glbB m.sc x && ndb x && (match B.gl.lookup x with
    | some g => gkB d g
    | none => false)
  | _ => false
/-- no class has the operator -/
def Tb.noOwn (B : Tb) (k : K2) : Bool := match k with
  | .ne => true
  | k => B.me.all fun e => decide (e.1.2 ≠ k.dn)
def opOf : K2 → Option Operator
  | .add => some .Add | .addm => some .Add | .sub => some .Sub | .mul => some .Mult | .mulm => some .Mult
  | .fdiv => some .FloorDiv | .mod => some .Mod | .pow => some .Pow | .band => some .BitAnd | .bor => some .BitOr
  | _ => none
def cmpOf : K2 → Option CmpOp
  | .eq => some .Eq | .ne => some .NotEq | .lt => some .Lt | .le => some .LtE | .gt => some .Gt | .ge => some .GtE
  | .isn => some .Is | .notn => some .IsNot | .isb => some .Is | .notb => some .IsNot | .inn => some .In | .nin => some .NotIn
  | _ => none
def Tb.opB (B : Tb) (k : K2) (o : Operator) : Bool := decide (opOf k = some o) && (B.noOwn k || ownK k)
def Tb.cmpB (B : Tb) (k : K2) (o : CmpOp) : Bool := decide (cmpOf k = some o) && (B.noOwn k || ownK k)
/-- a row of and, or, that is one test -/
def one : Expr → Expr
  | .BoolOp _ [x] _ => x
  | e => e
/-- built-in functions, types -/
def biFn : BI → Option Str
  | .len => some "len" | .sum => some "sum" | .min => some "min" | .max => some "max" | .abs => some "abs" | .all => some "all" | .any => some "any" | .repr => some "repr" | .sorted => some "sorted" | .sortedm => some "sorted"
  | _ => none
def biTy : BI → Option Str
  | .int => some "int" | .str => some "str" | .list => some "list" | .listm => some "list" | .tuple => some "tuple"
  | _ => none
def repB (m : Md) : BI → Bool
  | .repr => !m.qt
  | _ => m.full
/-- a class, a built-in type, named -/
def isiOne (B : Tb) (m : Md) (e : Expr) : Option (List Nat × List String) := match e with
  | .Name x _ => if glbB m.sc x && ndb x then (match B.gl.lookup x with
    | some (.cls c) => if (B.fz.lookup c).isSome then some ([c], []) else none
    | some .bt => if x == "int" then some ([], ["int"]) else if x == "bool" then some ([], ["bool"]) else if x == "str" then some ([], ["str"]) else if x == "list" then some ([], ["list"]) else if x == "tuple" then some ([], ["tuple"]) else none
    | _ => none) else none
  | _ => none
def isiB (B : Tb) (m : Md) (ts : List Nat) (os : List String) (e : Expr) : Bool := match e with
  | .Tuple [a, b] _ _ => (match isiOne B m a with
    | some (t1, o1) => (match isiOne B m b with
      | some (t2, o2) => decide (t1 ++ t2 = ts) && decide (o1 ++ o2 = os) && decide (ts = [] ∨ os = []) && notStar a && notStar b
      | none => false)
    | none => false)
  | e => (match isiOne B m e with
    | some (t1, o1) => decide (t1 = ts) && decide (o1 = os) && notStar e
    | none => false)
/-- the target's names -/
def tgNames : Expr → Option (List Str)
  | .Name x _ => some [x]
  | .Tuple es _ _ => es.mapM fun e => match e with
    | .Name x _ => some x
    | _ => none
  | _ => none
def stoB (m : Md) (i : Nat) (x : Str) : Bool := decide (m.N[i]? = some x) && locB m.sc x && (m.fn x || lclB m.sc x)
def tgsB (m : Md) : List Nat → List Expr → Bool
  | [], [] => true
  | i :: is, .Name x _ :: es => stoB m i x && tgsB m is es
  | _, _ => false
def tgB (m : Md) (is : List Nat) (e : Expr) : Bool := match e with
  | .Name x _ => (match is with
    | [i] => stoB m i x
    | _ => false)
  | .Tuple es _ _ => decide (is.length ≠ 1) && tgsB m is es
  | _ => false
def isTup : Expr → Bool
  | .Tuple .. => true
  | _ => false
/-- the arguments of a call's node -/
def cwB : List Expr → Bool
  | [] => true
  | [_] => true
  | e :: _ => notStar e
def noPar : Arguments → Bool
  | ⟨[], [], none, [], [], none, []⟩ => true
  | _ => false
def Tb.kwMe (B : Tb) (n : Nat) (ks : List Str) (pm : List Nat) : Bool := (B.me ++ B.cm).all fun e => decide (e.1.2 ≠ n) || decide ((e.2, ks, 1, pm) ∈ B.kw)

/-- a dict that is written down: empty, or with one pair -/
def dctB (ks : List D) (as : As) (e : Expr) : Bool := match e with
  | .Dict [] [] _ => (match ks with | [] => true | _ => false) && (match as with | .nil => true | _ => false)
  | .Dict [some (.Constant kc _ _)] [.Constant vc _ _] _ => (match ks with
    | [.int i] => decide (kc = .int i)
    | [.str x] => decide (kc = .str x)
    | _ => false) && (match as with
    | .cons (.c d) .nil => cstB d vc
    | _ => false)
  | _ => false
mutual
def chE (B : Tb) (m : Md) : E → Expr → Bool
  | .v i, e => (match e with
    | .Name x _ => decide (m.N[i]? = some x) && visB m.sc x && ndb x
    | _ => false)
  | .c d, e => chC B m d e
  | .o1 .fz a, e => chE B m a e
  | .o1 .neg a, e => (match e with
    | .UnaryOp .USub x _ => chE B m a x
    | _ => false)
  | .o1 (.at n) a, e => (match e with
    | .Attribute o nm _ => decide (nm = B.nm n) && noSuper o && m.full && chE B m a o
    | _ => false)
  | .o1 (.atx n) a, e => (match e with
    | .Attribute o nm _ => decide (nm = B.nm n) && noSuper o && chE B m a o
    | _ => false)
  | .o1 (.rev _) a, e => m.full && (match e with
    | .Subscript o (.Slice none none (some (.UnaryOp .USub (.Constant c _ _) _)) _) _ => decide (c = .int 1) && chE B m a o
    | _ => false)
  | .dct ks as, e => dctB ks as e
  | .o2 k a b, e => m.full && (match e with
    | .Subscript o i _ => decide (k = .get) && notSlice i && chE B m a o && chE B m b i
    | .BinOp l op r _ => B.opB k op && chE B m a l && chE B m b r
    | .Compare l [op] [r] _ => B.cmpB k op && notSet r && chE B m a l && chE B m b r
    | _ => false)
  | .andV a b, e => m.full && (match e with
    | .BoolOp .And (x :: y :: r) p => chE B m a x && chE B m b (one (.BoolOp .And (y :: r) p))
    | _ => false)
  | .orV a b, e => m.full && (match e with
    | .BoolOp .Or (x :: y :: r) p => chE B m a x && chE B m b (one (.BoolOp .Or (y :: r) p))
    | _ => false)
  | .tst (.not (.tr a)), e => m.full && (match e with
    | .UnaryOp .Not x _ => chE B m a x
    | _ => false)
  | .tst _, _ => false
  | .ite t a b, e => (match e with
    | .IfExp c x y _ => chT B m t c && chE B m a x && chE B m b y
    | _ => false)
  | .chain k l a b c, e => m.full && (match e with
    | .Compare x [o1, o2] [y, z] _ => B.cmpB k o1 && B.cmpB l o2 && notSet z && chE B m a x && chE B m b y && chE B m c z
    | _ => false)
  | .dsp k as, e => (match e with
    | .Tuple es _ _ => (match k with | .tup => true | _ => false) && chA B m as es
    | .List es _ => (match k with | .tup => false | _ => true) && chA B m as es
    | _ => false)
  | .call f as, e => m.full && (match e with
    | .Call (.Name x _) es [] _ => glbB m.sc x && ndb x && B.fnB x f && (B.qt f || !m.qt) && cwB es && chA B m as es
    | _ => false)
  | .mk c as, e => m.full && (match e with
    | .Call (.Name x _) es [] _ => glbB m.sc x && ndb x && B.clB x c && (B.ini.lookup c).isSome && cwB es && chA B m as es
    | _ => false)
  | .bi (.isi ts os) as, e => (match e with
    | .Call (.Name x _) [y, z] [] _ => glbB m.sc x && decide (x = "isinstance") && B.btB x && isiB B m ts os z && notStar y && (match as with
      | .cons a .nil => chE B m a y
      | _ => false)
    | _ => false)
  | .bi k as, e => repB m k && (match e with
    | .Call (.Name x _) (y :: es) [] _ => glbB m.sc x && ndb x && B.btB x && (decide (biFn k = some x) || decide (biTy k = some x)) && (y :: es).all notStar && chA B m as (y :: es)
    | _ => false)
  | .me n a as, e => m.full && (match e with
    | .Call (.Attribute o nm ap) es [] p => decide (nm = B.nm n) && noSuper o && es.all notStar && decide (es.length < 30) && (ap.endLine == p.line) && chE B m a o && chA B m as es
    | _ => false)
  | .bm .append a (.cons b .nil), e => m.full && (match e with
    | .Call (.Attribute o nm ap) [x] [] p => decide (nm = "append") && noSuper o && notStar x && (ap.endLine == p.line) && chE B m a o && chE B m b x
    | _ => false)
  | .bm .pop a .nil, e => m.full && (match e with
    | .Call (.Attribute o nm ap) [] [] p => decide (nm = "pop") && noSuper o && (ap.endLine == p.line) && chE B m a o
    | _ => false)
  | .bm _ _ _, _ => false
  | .mkv a as, e => m.full && (match e with
    | .Call (.Name x p) es [] _ => cwB es && chE B m a (.Name x p) && chA B m as es
    | _ => false)
  | .callP f as pm, e => m.full && m.kwf && (match e with
    | .Call (.Name x _) [] kws _ => (match kwNames kws with
      | some ks => glbB m.sc x && ndb x && B.fnB x f && (B.qt f || !m.qt) && decide ((f, ks, 0, pm) ∈ B.kw) && chK B m as kws
      | none => false)
    | _ => false)
  | .mkP _ _ _, _ => false
  | .meP n a as pm, e => m.full && m.kwf && (match e with
    | .Call (.Attribute o nm ap) [] kws p => (match kwNames kws with
      | some ks => decide (nm = B.nm n) && noSuper o && decide (kws.length < 29) && (ap.endLine == p.line) && B.kwMe n ks pm && chE B m a o && chK B m as kws
      | none => false)
    | _ => false)
  | .sl _ a lo hi, e => m.full && (match e with
    | .Subscript o (.Slice l h none _) _ => chE B m a o && chO B m lo l && chO B m hi h
    | _ => false)
  | .cp _ it is ts a, e => m.full && (match e with
    | .ListComp elt [⟨tg, iter, ifs, 0⟩] scope _ => (match tgNames tg with
      | some xs => decide (xs.length = is.length) && blkC m.N m.sc scope (xs.zip is) && notSet iter && tgB (m.blk scope) is tg && chI B m it tg (is.length != 1) iter && chTs B (m.blk scope) ts ifs && chE B (m.blk scope) a elt
      | none => false)
    | _ => false)
  | .hear g a, e => m.full && m.lam && (match e with
    | .Call (.Name x _) [.Lambda ps body scope _] [] _ => glbB m.sc x && ndb x && B.fnB x g && (B.qt g || !m.qt) && LamX.lamSB m.sc scope && noPar ps && chE B (m.lm scope) a body
    | _ => false)
  | .ask, e => m.full && m.ask && (match e with
    | .Call (.Name x _) [] [] _ => decide (m.N[0]? = some x) && visB m.sc x && ndb x
    | _ => false)
def chO (B : Tb) (m : Md) : Eo → Option Expr → Bool
  | .none, none => true
  | .some a, some e => chE B m a e
  | _, _ => false
def chA (B : Tb) (m : Md) : As → List Expr → Bool
  | .nil, [] => true
  | .cons a r, e :: es => notStar e && chE B m a e && chA B m r es
  | .star a r, .Starred e _ :: es => m.full && chE B m a e && chA B m r es
  | _, _ => false
def chK (B : Tb) (m : Md) : As → List Keyword → Bool
  | .nil, [] => true
  | .cons a r, ⟨_, e, _⟩ :: es => chE B m a e && chK B m r es
  | _, _ => false
def chT (B : Tb) (m : Md) : Te → Expr → Bool
  | .tr (.o2 k a b), e => m.full && (match e with
    | .Compare l [op] [r] _ => B.cmpB k op && notSet r && chE B m a l && chE B m b r
    | .Subscript o i _ => decide (k = .get) && notSlice i && chE B m a o && chE B m b i
    | .BinOp l op r _ => B.opB k op && chE B m a l && chE B m b r
    | _ => false)
  | .tr (.chain k l a b c), e => m.full && (match e with
    | .Compare x [o1, o2] [y, z] _ => B.cmpB k o1 && B.cmpB l o2 && notSet z && chE B m a x && chE B m b y && chE B m c z
    | _ => false)
  | .tr a, e => m.full && plainT e && chE B m a e
  | .and a b, e => (match e with
    | .BoolOp .And (x :: y :: r) p => chT B m a x && chT B m b (one (.BoolOp .And (y :: r) p))
    | _ => false)
  | .or a b, e => (match e with
    | .BoolOp .Or (x :: y :: r) p => chT B m a x && chT B m b (one (.BoolOp .Or (y :: r) p))
    | _ => false)
  | .not a, e => (match e with
    | .UnaryOp .Not x _ => chT B m a x
    | _ => false)
def chTs (B : Tb) (m : Md) : Tes → List Expr → Bool
  | .nil, [] => true
  | .cons t .nil, [e] => chT B m t e
  | _, _ => false
def chI (B : Tb) (m : Md) : It → Expr → Bool → Expr → Bool
  | .e a, _, _, e => chE B m a e
  | .rng (.cons a .nil), _, many, e => !many && (match e with
    | .Call (.Name x _) [y] [] _ => glbB m.sc x && decide (x = "range") && B.btB x && notStar y && chE B m a y
    | _ => false)
  | .rng (.cons a (.cons b .nil)), _, many, e => !many && (match e with
    | .Call (.Name x _) [y, z] [] _ => glbB m.sc x && decide (x = "range") && B.btB x && notStar y && notStar z && chE B m a y && chE B m b z
    | _ => false)
  | .rng (.cons a (.cons b (.cons c .nil))), _, many, e => !many && (match e with
    | .Call (.Name x _) [y, z, w] [] _ => glbB m.sc x && decide (x = "range") && B.btB x && notStar y && notStar z && notStar w && chE B m a y && chE B m b z && chE B m c w
    | _ => false)
  | .rng _, _, _, _ => false
  | .zip a b, tg, many, e => many && isTup tg && (match e with
    | .Call (.Name x _) [y, z] [] _ => glbB m.sc x && decide (x = "zip") && B.btB x && notStar y && notStar z && chE B m a y && chE B m b z
    | _ => false)
  | .enum a i, tg, many, e => many && isTup tg && decide (i = 0) && (match e with
    | .Call (.Name x _) [y] [] _ => glbB m.sc x && decide (x = "enumerate") && B.btB x && notStar y && chE B m a y
    | _ => false)
end
end BV

set_option Elab.async false
set_option maxRecDepth 100000
set_option maxHeartbeats 4000000
/-! BV44: what is known of a place; what the Bool tells of expressions. -/
namespace BV
open PySem PySem.Spec PyProof.Rows
open L2 hiding St It

def GkOk (X : Cx) (T : Ad) (x : Str) : Gk → Prop
  | .fn f => X.mg x = some (.ref (T.fa f)) ∧ PySem.W.keepIn X.K (.ref (T.fa f)) = true
  | .cls c => X.mg x = some (.ref (T.ca c))
  | .con d => ∃ v u, X.mg x = some u ∧ RelV v u ∧ ∀ F, RepD T F d v
  | .bt => X.mg x = none
/-- what is known of a place where expressions stand -/
structure PlE (B : Tb) (X : Cx) (T : Ad) (C : Caller) (q : Asker) (W : WX) (k : Nat) (m : Md) : Prop where
  K : X.K = T.K
  prg : Prg T B.P
  on : ∀ i, T.nm i = B.nm i
  qt : ∀ f, T.qt f = B.qt f
  N : X.N = m.N
  nd : m.N.Nodup
  sc : X.env.scope = m.sc
  fn : ∀ x, m.fn x = true → X.fn x = true
  gl : ∀ x g, B.gl.lookup x = some g → GkOk X T x g
  plain : ∀ f, (B.qt f = true ∨ m.qt = false) → Plain T X.A f
  gd : m.qt = false → X.A.guards = some []
  un : X.A.units + 64 < cLine
  full : m.full = true → Cok X T C k W
  kwf : m.kwf = true → m.full = true → KwP X.prog X.w X.mg X.base T B.P C k
  kw : ∀ f ks pre pm, (f, ks, pre, pm) ∈ B.kw → KwFn T.K B.P f (T.fa f) ks pre pm
  lam : m.lam = true → m.full = true → HearOk X T C k ∧ Room (k + 3) X.A ∧ (∀ S1, ¬ T.am S1) ∧ ∃ cd Pt, LamX.TabB X.base X.mg cd Pt ∧ X.env.code = .ref cd ∧ (Pt, X.env.qual ++ "<lambda>") ∈ T.tb ∧ ∀ p ∈ T.tb, p.1 = Pt → p.2 = X.env.qual ++ "<lambda>"
  ask : m.ask = true → m.full = true → ∃ (T0 : Ad) (S0 : S8) (f : Addr) (g : Store → R Val) (k0 : Nat), T = T0.at S0 f ∧ q = some g ∧ Room k0 X.A ∧ X.ex = [] ∧ X.H_0 = S0.H ∧ Asks X.prog X.w X.K X.mg X.base T0 X.outer S0 X.s_0 f k0 g ∧ ∀ S1, ¬ T0.am S1

theorem Plain.gd {T : Ad} {A A' : Around} {f : Nat} (h : Plain T A f) (e : A'.guards = A.guards) : Plain T A' f := by
  rcases h with h | h
  · exact .inl h
  · exact .inr (e.trans h)
section
variable {B : Tb} {X : Cx} {T : Ad} {C : Caller} {q : Asker} {W : WX} {k : Nat} {m : Md}
theorem Cok.blk (c : Cok X T C k W) (s : Shared) (H : Hp) (scope : Scope) (cenv : PySem.Env) (fp : List Addr) : Cok (X.blk s H scope cenv fp) T C k W0 :=
  ⟨c.K, fun u s' ⟨a, B, sI, pins, σ, H, cls, d, e, I, nb, up, sky, na, os, ag, w⟩ => w.elim, c.room, c.calls, c.calm, c.rf⟩
theorem PlE.blk (p : PlE B X T C q W k m) (s : Shared) (H : Hp) (scope : Scope) (cl : List (Str × Addr)) (D : Addr) (fp : List Addr) : PlE B (X.blk s H scope (compEnvC scope cl D X.env) fp) T C q W0 k (m.blk scope) where
  K := p.K
  prg := p.prg
  on := p.on
  qt := p.qt
  N := p.N
  nd := p.nd
  sc := by
    show relS scope X.env.scope = relS scope m.sc
    rw [p.sc]
  fn := fun x h => h
  gl := fun x g h => by
    have z := p.gl x g h
    cases g with
    | fn f => exact z
    | cls c => exact z
    | con d => exact z
    | bt => exact z
  plain := p.plain
  gd := p.gd
  un := p.un
  full := fun h => (p.full h).blk s H scope _ fp
  kwf := p.kwf
  kw := p.kw
  lam := fun h1 h2 => by
    obtain ⟨a1, a2, a3, cd, Pt, a4, a5, a6, a7⟩ := p.lam h1 h2
    exact ⟨a1, a2, a3, cd, Pt, a4, a5, a6, a7⟩
  ask := fun h => by cases h
/-! ### names -/
theorem vis_of {x : Str} (h : visB m.sc x = true) (e : X.env.scope = m.sc) : Vis X.env.scope x := by
  rw [e]
  unfold visB at h
  split at h
  · exact .inl (by assumption)
  · exact .inr (.inl (by assumption))
  · exact .inr (.inr (by assumption))
  · cases h
theorem loc_of {x : Str} (h : locB m.sc x = true) (e : X.env.scope = m.sc) : Loc X.env.scope x := by
  rw [e]
  unfold locB at h
  split at h
  · exact .inl (by assumption)
  · exact .inr (by assumption)
  · cases h
theorem lcl_of {x : Str} (h : lclB m.sc x = true) (e : X.env.scope = m.sc) : X.env.scope.names.lookup x = some .local := by
  rw [e]
  unfold lclB at h
  split at h
  · assumption
  · cases h
theorem glb_of {x : Str} (h : glbB m.sc x = true) (e : X.env.scope = m.sc) : Gl X x := by
  show X.env.scope.names.lookup x = some .globalImplicit
  rw [e]
  unfold glbB at h
  split at h
  · assumption
  · cases h
theorem ndb_of {x : Str} (h : ndb x = true) : (x == ("__debug__" : Str)) = false ∧ (x == ("__classdict__" : Str)) = false ∧ x ≠ "__name__" := by
  unfold ndb at h
  simp only [Bool.and_eq_true, Bool.not_eq_true'] at h
  exact ⟨h.1.1, h.1.2, fun z => by rw [z] at h; simp at h⟩
theorem sto_of (p : PlE B X T C q W k m) {i : Nat} {x : Str} (h : stoB m i x = true) : X.N[i]? = some x ∧ Loc X.env.scope x ∧ (X.fn x = true ∨ X.env.scope.names.lookup x = some .local) := by
  unfold stoB at h
  simp only [Bool.and_eq_true, Bool.or_eq_true, decide_eq_true_eq] at h
  exact ⟨by rw [p.N]; exact h.1.1, loc_of h.1.2 p.sc, h.2.imp (p.fn x) fun z => lcl_of z p.sc⟩
theorem fnB_of (p : PlE B X T C q W k m) {x : Str} {f : Nat} (h : B.fnB x f = true) : X.mg x = some (.ref (T.fa f)) ∧ PySem.W.keepIn X.K (.ref (T.fa f)) = true := by
  unfold Tb.fnB at h
  split at h
  · rename_i g hg
    have e := of_decide_eq_true h
    subst e
    exact p.gl x _ hg
  · cases h
theorem clB_of (p : PlE B X T C q W k m) {x : Str} {f : Nat} (h : B.clB x f = true) : X.mg x = some (.ref (T.ca f)) := by
  unfold Tb.clB at h
  split at h
  · rename_i g hg
    have e := of_decide_eq_true h
    subst e
    exact p.gl x _ hg
  · cases h
theorem btB_of (p : PlE B X T C q W k m) {x : Str} (h : B.btB x = true) : X.mg x = none := by
  unfold Tb.btB at h
  split at h
  · rename_i hg
    exact p.gl x _ hg
  · cases h
/-! ### constants -/
theorem ck_cst {d : D} {c : Const} {j : Nat} {pos : Pos} (h : cstB d c = true) : ∃ x, PE X (.Constant c j pos) (tC x) ∧ ∀ F, RepD T F d x := by
  unfold cstB at h
  split at h
  · exact ⟨.non, pe_non, fun F => by simp [RepD]⟩
  · rw [eq_of_beq h]
    exact ⟨_, pe_bl, fun F => by simp [RepD]⟩
  · rw [of_decide_eq_true h]
    exact ⟨_, pe_int, fun F => by simp [RepD]⟩
  · rw [of_decide_eq_true h]
    exact ⟨_, pe_str, fun F => by simp [RepD]⟩
  · cases h
theorem ck_dct {ks : List D} {as : As} {e : Expr} (h : dctB ks as e = true) : PE X e (tE T P C q X.pn W (.dct ks as)) := by
  unfold dctB at h
  split at h
  · rw [Bool.and_eq_true] at h
    obtain ⟨h1, h2⟩ := h
    split at h1
    · split at h2
      · exact se_dct0
      · cases h2
    · cases h1
  · rw [Bool.and_eq_true] at h
    obtain ⟨h1, h2⟩ := h
    split at h2
    · obtain ⟨x, v1, v2⟩ := ck_cst (X := X) (T := T) h2
      split at h1
      · rename_i i
        rw [of_decide_eq_true h1]
        exact se_dct1 (key := .inl i) pe_int (v1) v2
      · rename_i i
        rw [of_decide_eq_true h1]
        exact se_dct1 (key := .inr i) pe_str (v1) v2
      · cases h1
    · cases h2
  · cases h
theorem ck_c (p : PlE B X T C q W k m) {d : D} {e : Expr} (h : chC B m d e = true) : PE X e (tE T B.P C q X.pn W (.c d)) := by
  unfold chC at h
  split at h
  · rename_i c j pos
    unfold cstB at h
    split at h
    · exact se_non
    · rw [eq_of_beq h]
      exact se_bl
    · rw [of_decide_eq_true h]
      exact se_int
    · rw [of_decide_eq_true h]
      exact se_str
    · cases h
  · rename_i x pos
    simp only [Bool.and_eq_true] at h
    obtain ⟨⟨h1, h2⟩, h3⟩ := h
    split at h3
    · rename_i g hg
      have z := p.gl x g hg
      cases g with
      | fn f =>
        cases d with
        | fn g =>
          have e := of_decide_eq_true (show decide (f = g) = true from h3)
          subst e
          exact se_glob (v := .ref (T.fa f)) (glb_of h1 p.sc) z.1 rfl (fun F => by simp [RepD]) (ndb_of h2).1
        | _ => cases h3
      | cls f =>
        cases d with
        | cls g =>
          have e := of_decide_eq_true (show decide (f = g) = true from h3)
          subst e
          exact se_glob (v := .ref (T.ca f)) (glb_of h1 p.sc) z rfl (fun F => by simp [RepD]) (ndb_of h2).1
        | _ => cases h3
      | con d' =>
        have e := sameD_ok (show sameD d d' = true from h3)
        subst e
        obtain ⟨v, u, z1, z2, z3⟩ := z
        exact se_glob (glb_of h1 p.sc) z1 z2 z3 (ndb_of h2).1
      | bt => cases h3
    · cases h3
  · cases h
/-! ### operators -/
theorem look_none {α : Type} {l : List ((Nat × Nat) × α)} {n : Nat} (h : (l.all fun e => decide (e.1.2 ≠ n)) = true) (c : Nat) : l.lookup (c, n) = none := by
  induction l with
  | nil => rfl
  | cons e l ih =>
    obtain ⟨⟨a, b⟩, v⟩ := e
    rw [List.all_cons, Bool.and_eq_true] at h
    have hne : b ≠ n := of_decide_eq_true h.1
    have hb : ((c, n) == (a, b)) = false := by
      rw [beq_eq_false_iff_ne]
      intro z
      exact hne (Prod.mk.inj z).2.symm
    rw [List.lookup_cons, hb]
    exact ih h.2
theorem noOwn_of {k2 : K2} (h : B.noOwn k2 = true) : NoOwn B.P k2 := by
  unfold Tb.noOwn at h
  cases k2 <;> first | exact trivial | exact fun c => look_none h c
theorem ck_op (p : PlE B X T C q W k m) (c : Cok X T C k W) {k2 : K2} (hg : k2 ≠ .get) (hd : OpS X T W (datF k2) (k2Fn k2)) (h : (B.noOwn k2 || ownK k2) = true) : OpS X T W (f2 B.P C k2) (k2Fn k2) := by
  rcases Bool.or_eq_true_iff.mp h with n | n
  · exact ops_f2 hg (noOwn_of n) hd
  · exact ops_own c p.prg (by have := p.un; omega) n hd
theorem ck_bin (p : PlE B X T C q W k m) (c : Cok X T C k W) {k2 : K2} {o : Operator} (h : B.opB k2 o = true) : OpS X T W (f2 B.P C k2) (binaryOp o) := by
  unfold Tb.opB at h
  rw [Bool.and_eq_true, decide_eq_true_eq] at h
  have z := ops_dat (T := T) (W := W) (k := k) c.K c.room k2
  cases k2
  case band => obtain rfl := Option.some.inj (show some _ = some o from h.1); exact ck_op p c (by intro z; cases z) (dat_no (.inl rfl)) h.2
  case bor => obtain rfl := Option.some.inj (show some _ = some o from h.1); exact ck_op p c (by intro z; cases z) (dat_no (.inr rfl)) h.2
  all_goals first
    | (obtain rfl := Option.some.inj (show some _ = some o from h.1); exact ck_op p c (by intro z; cases z) (z (by intro z; cases z) (by intro z; cases z) (by intro z; cases z)) h.2)
    | exact absurd (show none = some o from h.1) (fun z => by cases z)
theorem ck_cmp (p : PlE B X T C q W k m) (c : Cok X T C k W) {k2 : K2} {o : CmpOp} (h : B.cmpB k2 o = true) : OpS X T W (f2 B.P C k2) (compareOp o) := by
  unfold Tb.cmpB at h
  rw [Bool.and_eq_true, decide_eq_true_eq] at h
  have z := ops_dat (T := T) (W := W) (k := k) c.K c.room k2
  cases k2 <;> first
    | (obtain rfl := Option.some.inj (show some _ = some o from h.1); exact ck_op p c (by intro z; cases z) (z (by intro z; cases z) (by intro z; cases z) (by intro z; cases z)) h.2)
    | exact absurd (show none = some o from h.1) (fun z => by cases z)
/-! ### built-in functions -/
theorem ck_bi (p : PlE B X T C q W k m) {bk : BI} {x : Str} {e : Expr} {es : List Expr} {ias : As} {p1 pos : Pos} (hf : repB m bk = true) (hg : glbB m.sc x = true) (hn : ndb x = true) (hb : B.btB x = true) (hx : biFn bk = some x ∨ biTy bk = some x) (hs : (e :: es).all notStar = true)
    (ha : PA X (e :: es) (tA T B.P C q X.pn W ias)) : PE X (.Call (.Name x p1) (e :: es) [] pos) (tE T B.P C q X.pn W (.bi bk ias)) := by
  have g := glb_of hg p.sc
  have n := ndb_of hn
  have mb := btB_of p hb
  have s := hs
  rw [List.all_cons, Bool.and_eq_true] at s
  have he := sh_star (env := X.env) (es := es) s.1
  have hp := sh_any (env := X.env) (pos := pos) s.2
  have fin : ∀ {id : String} {g' : List Val → Store → R Val}, CaS X T W g' (.builtin id) → fbi B.P C bk = g' → bootBuiltins x = some (.builtin id) → PE X (.Call (.Name x p1) (e :: es) [] pos) (tE T B.P C q X.pn W (.bi bk ias)) := fun {id g'} h1 h2 h3 => se_biB h1 h2 g mb h3 ha n.2.2 n.1 he hp
  have fin2 : ∀ {id : String} {g' : List Val → Store → R Val}, CaS X T W g' (.type id) → fbi B.P C bk = g' → bootBuiltins x = some (.type id) → PE X (.Call (.Name x p1) (e :: es) [] pos) (tE T B.P C q X.pn W (.bi bk ias)) := fun {id g'} h1 h2 h3 => se_biT h1 h2 g mb h3 ha n.2.2 n.1 he hp
  cases bk with
  | len => rcases hx with hx | hx <;> cases hx; exact fin (cs_len (p.full hf) p.prg) rfl (by decide +kernel)
  | sum => rcases hx with hx | hx <;> cases hx; exact fin (cs_sum (p.full hf)) rfl (by decide +kernel)
  | min => rcases hx with hx | hx <;> cases hx; exact fin (cs_min (p.full hf)) rfl (by decide +kernel)
  | max => rcases hx with hx | hx <;> cases hx; exact fin (cs_max (p.full hf)) rfl (by decide +kernel)
  | abs => rcases hx with hx | hx <;> cases hx; exact fin cs_abs rfl (by decide +kernel)
  | int => rcases hx with hx | hx <;> cases hx; exact fin2 cs_int rfl (by decide +kernel)
  | str => rcases hx with hx | hx <;> cases hx; exact fin2 (cs_str (p.full hf) p.prg) rfl (by decide +kernel)
  | bool => rcases hx with hx | hx <;> cases hx
  | list => rcases hx with hx | hx <;> cases hx; exact fin2 (cs_list p.K) rfl (by decide +kernel)
  | listm => rcases hx with hx | hx <;> cases hx; exact fin2 (cs_list p.K) rfl (by decide +kernel)
  | tuple => rcases hx with hx | hx <;> cases hx; exact fin2 (cs_tuple p.K) rfl (by decide +kernel)
  | all => rcases hx with hx | hx <;> cases hx; exact fin (cs_all (p.full hf)) rfl (by decide +kernel)
  | any => rcases hx with hx | hx <;> cases hx; exact fin (cs_any (p.full hf)) rfl (by decide +kernel)
  | isi ts os => rcases hx with hx | hx <;> cases hx
  | repr => rcases hx with hx | hx <;> cases hx; exact fin (cs_repr p.K (p.gd (by simpa [repB] using hf)) p.un) rfl (by decide +kernel)
  | sorted => rcases hx with hx | hx <;> cases hx; exact fin (cs_sorted p.K) rfl (by decide +kernel)
  | sortedm => rcases hx with hx | hx <;> cases hx; exact fin (cs_sorted p.K) rfl (by decide +kernel)
end
end BV

set_option Elab.async false
set_option maxRecDepth 100000
set_option maxHeartbeats 8000000
/-! BV45: what the Bool tells of expressions. -/
namespace BV
open PySem PySem.Spec PyProof.Rows
open L2 hiding St It

section
variable {B : Tb} {X : Cx} {T : Ad} {C : Caller} {q : Asker} {W : WX} {k : Nat} {m : Md}
theorem PlE.lm (p : PlE B X T C q W k m) {A : Around} {outer : List PySem.Env} {s : Shared} {H : Hp} {E : XK} {scope : Scope} {f c' : Addr} (hf : m.full = true) (hr : Room (k + 1) (A.deeper (LamX.lamEnv X scope s.heap.objs.size f c'))) (tk : Takes (LamX.lamCx X A outer s H E scope f c') (fun cls d _ H' => E cls d H')) :
    PlE B (LamX.lamCx X A outer s H E scope f c') T C q (fun cls d _ H' => E cls d H') k (m.lm scope) where
  K := p.K
  prg := p.prg
  on := p.on
  qt := p.qt
  N := p.N
  nd := p.nd
  sc := rfl
  fn := fun x h => by cases h
  gl := fun x g h => by
    have z := p.gl x g h
    cases g with
    | fn f => exact z
    | cls c => exact z
    | con d => exact z
    | bt => exact z
  plain := fun f h => by
    rcases h with h | h
    · exact .inl (by rw [p.qt]; exact h)
    · cases h
  gd := fun h => by cases h
  un := by
    have := hr.un
    show (A.deeper (LamX.lamEnv X scope s.heap.objs.size f c')).units + 64 < cLine
    omega
  full := fun h => ⟨p.K, tk, hr, (p.full hf).calls, rfl, (p.full hf).rf⟩
  kwf := p.kwf
  kw := p.kw
  lam := fun h => by cases h
  ask := fun h => by cases h
theorem pw_of {op : BoolOp} {vs : List Expr} {pos : Pos} {t : TT} (h : PT X (.BoolOp op vs pos) t) : PW X (.BoolOp op vs pos) t := ⟨fun _ pins s σ H Q I hq => h.run pins s σ H Q I hq⟩
theorem pe_of_one {op : BoolOp} {y : Expr} {r : List Expr} {pos : Pos} {t : TE} (h : PE X (one (.BoolOp op (y :: r) pos)) t) : PE X (.BoolOp op (y :: r) pos) t := by
  cases r with
  | nil => exact pe_one h
  | cons z r => exact h
theorem pw_and_one {y : Expr} {r : List Expr} {pos : Pos} {t : TT} (h : PT X (one (.BoolOp .And (y :: r) pos)) t) : PW X (.BoolOp .And (y :: r) pos) t := by
  cases r with
  | nil => exact pw_and1 h
  | cons z r => exact pw_of h
theorem pw_or_one {y : Expr} {r : List Expr} {pos : Pos} {t : TT} (h : PT X (one (.BoolOp .Or (y :: r) pos)) t) : PW X (.BoolOp .Or (y :: r) pos) t := by
  cases r with
  | nil => exact pw_or1 h
  | cons z r => exact pw_of h
/-- a call's node -/
theorem ck_cw (p : PlE B X T C q W k m) {es : List Expr} {ias : As} {pos : Pos} (hc : cwB es = true) (ha : PA X es (tA T B.P C q X.pn W ias)) (hl : ∀ e ps, es = [.Starred e ps] → ∃ ie, ias = .star ie .nil ∧ PE X e (tE T B.P C q X.pn W ie)) (hn : es = [] → ias = .nil) : CW X es pos (tA T B.P C q X.pn W ias) := by
  have two : ∀ (e : Expr) (r : List Expr), es = e :: r → notStar e = true → CW X es pos (tA T B.P C q X.pn W ias) := fun e r e1 s => by
    subst e1
    cases z : r.all notStar with
    | true => exact cw_plain ha (sh_star s) (sh_any z)
    | false => exact cw_star2 ha (sh_star s) (sh_anyS z)
  cases es with
  | nil =>
    rw [hn rfl]
    exact cw_nil
  | cons e r =>
    cases r with
    | nil =>
      cases s : notStar e with
      | true => exact two e [] rfl s
      | false =>
        cases e <;> first | exact absurd (show true = false from s) (by decide) | skip
        rename_i e1 ps
        obtain ⟨ie, e2, h2⟩ := hl e1 ps rfl
        rw [e2]
        exact cw_star1 p.K h2
    | cons e2 r => exact two e (e2 :: r) rfl hc
/-- the classes, types of an isinstance -/
theorem ck_isi1 (p : PlE B X T C q W k m) {e : Expr} {ts : List Nat} {os : List String} (h : isiOne B m e = some (ts, os)) : ∃ (cv : V) (u : Value), PE X e (tC cv) ∧ ClsV cv u ∧ notStar e = true ∧ notSet e = true ∧
    ((os = [] ∧ ts.all (fun c => (B.P.frz c).isSome) = true ∧ [u] = ts.map fun c => Value.ref (T.ca c)) ∨ (ts = [] ∧ os.all okOs = true ∧ [u] = os.map Value.type)) := by
  unfold isiOne at h
  split at h
  · rename_i x pos
    split at h
    · rename_i hx
      simp only [Bool.and_eq_true] at hx
      have g := glb_of hx.1 p.sc
      have n := ndb_of hx.2
      split at h
      · rename_i c hc
        split at h
        · rename_i hz
          cases h
          have mz : X.mg x = some (.ref (T.ca c)) := p.gl x _ hc
          refine ⟨.ref (T.ca c), .ref (T.ca c), pe_glob g mz rfl n.1, .own _, rfl, rfl, .inl ⟨rfl, ?_, rfl⟩⟩
          rw [List.all_cons, List.all_nil, Bool.and_true]
          exact hz
        · cases h
      · rename_i hc
        have mz : X.mg x = none := p.gl x _ hc
        have fin : ∀ n : String, bootBuiltins x = some (.type n) → okOs n = true → ts = [] → os = [n] → ∃ (cv : V) (u : Value), PE X (.Name x pos) (tC cv) ∧ ClsV cv u ∧ notStar (.Name x pos) = true ∧ notSet (.Name x pos) = true ∧
            ((os = [] ∧ ts.all (fun c => (B.P.frz c).isSome) = true ∧ [u] = ts.map fun c => Value.ref (T.ca c)) ∨ (ts = [] ∧ os.all okOs = true ∧ [u] = os.map Value.type)) := fun nm hb ho e1 e2 => by
          subst e1 e2
          refine ⟨.ty nm, .type nm, pe_bltn g mz hb rfl n.2.2 n.1, .ty _, rfl, rfl, .inr ⟨rfl, ?_, rfl⟩⟩
          rw [List.all_cons, List.all_nil, Bool.and_true]
          exact ho
        split at h
        · rename_i hq
          cases h
          rw [beq_iff_eq.mp hq] at fin
          exact (beq_iff_eq.mp hq).symm ▸ fin "int" (by decide +kernel) (by decide) rfl rfl
        · split at h
          · rename_i hq
            cases h
            rw [beq_iff_eq.mp hq] at fin
            exact (beq_iff_eq.mp hq).symm ▸ fin "bool" (by decide +kernel) (by decide) rfl rfl
          · split at h
            · rename_i hq
              cases h
              rw [beq_iff_eq.mp hq] at fin
              exact (beq_iff_eq.mp hq).symm ▸ fin "str" (by decide +kernel) (by decide) rfl rfl
            · split at h
              · rename_i hq
                cases h
                rw [beq_iff_eq.mp hq] at fin
                exact (beq_iff_eq.mp hq).symm ▸ fin "list" (by decide +kernel) (by decide) rfl rfl
              · split at h
                · rename_i hq
                  cases h
                  rw [beq_iff_eq.mp hq] at fin
                  exact (beq_iff_eq.mp hq).symm ▸ fin "tuple" (by decide +kernel) (by decide) rfl rfl
                · cases h
      · cases h
    · cases h
  · cases h
theorem ck_isi (p : PlE B X T C q W k m) {x : Str} {y z : Expr} {ie : E} {ts : List Nat} {os : List String} {p1 pos : Pos} (hg : glbB m.sc x = true) (hx : x = "isinstance") (hb : B.btB x = true) (h : isiB B m ts os z = true) (hy : notStar y = true) (he : PE X y (tE T B.P C q X.pn W ie)) :
    PE X (.Call (.Name x p1) [y, z] [] pos) (tE T B.P C q X.pn W (.bi (.isi ts os) (.cons ie .nil))) := by
  subst hx
  have g := glb_of hg p.sc
  have mb := btB_of p hb
  have single : (∀ a b n ps, z ≠ .Tuple [a, b] n ps) → (match isiOne B m z with
    | some (t1, o1) => decide (t1 = ts) && decide (o1 = os) && notStar z
    | none => false) = true → PE X (.Call (.Name "isinstance" p1) [y, z] [] pos) (tE T B.P C q X.pn W (.bi (.isi ts os) (.cons ie .nil))) := fun _ h => by
    split at h
    · rename_i t1 o1 hi
      simp only [Bool.and_eq_true, decide_eq_true_eq] at h
      obtain ⟨⟨e1, e2⟩, e3⟩ := h
      subst e1 e2
      obtain ⟨cv, u, hc, kv, s1, _, hk⟩ := ck_isi1 p hi
      refine se_isi1 p.K p.prg g mb he hc kv (fun t ok => ?_) (sh_star hy) (sh_star s1) (sh_any (by rw [List.all_cons, s1]; rfl))
      rcases hk with ⟨h1, h2, h3⟩ | ⟨h1, h2, h3⟩
      · subst h1
        have z := kit_ts p.prg ok h2
        rw [← h3] at z
        have z2 : PySem.W.kitAny T.K (tgV T t) [u] = PySem.W.kitOne T.K (tgV T t) u := by
          simp only [PySem.W.kitAny]
          split <;> simp_all
        rw [← z2]
        exact z
      · subst h1
        have z := kit_os p.prg ok h2
        rw [← h3] at z
        have z2 : PySem.W.kitAny T.K (tgV T t) [u] = PySem.W.kitOne T.K (tgV T t) u := by
          simp only [PySem.W.kitAny]
          split <;> simp_all
        rw [← z2]
        exact z
    · cases h
  unfold isiB at h
  split at h
  · rename_i a b n ps
    split at h
    · rename_i t1 o1 hi
      split at h
      · rename_i t2 o2 hi2
        simp only [Bool.and_eq_true, decide_eq_true_eq] at h
        obtain ⟨⟨⟨⟨e1, e2⟩, e3⟩, e4⟩, e5⟩ := h
        obtain ⟨cv1, u1, hc1, kv1, s1, _, hk1⟩ := ck_isi1 p hi
        obtain ⟨cv2, u2, hc2, kv2, s2, _, hk2⟩ := ck_isi1 p hi2
        have nz : ∀ {u : Value} {f : Nat → Value}, ¬ ([u] = ([] : List Nat).map f) := fun z => by cases z
        have nz2 : ∀ {u : Value} {f : String → Value}, ¬ ([u] = ([] : List String).map f) := fun z => by cases z
        refine se_isi2 (us := [u1, u2]) p.K p.prg g mb he hc1 hc2 (.cons kv1 (.cons kv2 .nil)) (fun t ok => ?_) (sh_star hy) (sh_star s1) (sh_star s2)
        subst e1 e2
        rcases hk1 with ⟨h1, h2, h3⟩ | ⟨h1, h2, h3⟩
        · rcases hk2 with ⟨k1, k2, k3⟩ | ⟨k1, k2, k3⟩
          · subst h1 k1
            have z := kit_ts p.prg (ts := t1 ++ t2) ok (by rw [List.all_append, h2, k2]; rfl)
            rw [List.map_append, ← h3, ← k3] at z
            exact z
          · subst h1 k1
            rcases e3 with e3 | e3
            · rw [List.append_nil] at e3
              subst e3
              exact absurd h3 nz
            · rw [List.nil_append] at e3
              subst e3
              exact absurd k3 nz2
        · rcases hk2 with ⟨k1, k2, k3⟩ | ⟨k1, k2, k3⟩
          · subst h1 k1
            rcases e3 with e3 | e3
            · rw [List.nil_append] at e3
              subst e3
              exact absurd k3 nz
            · rw [List.append_nil] at e3
              subst e3
              exact absurd h3 nz2
          · subst h1 k1
            have z := kit_os p.prg (os := o1 ++ o2) ok (by rw [List.all_append, h2, k2]; rfl)
            rw [List.map_append, ← h3, ← k3] at z
            exact z
      · cases h
    · cases h
  · rename_i hne
    exact single (fun a b n ps e => hne a b n ps e) h
/-- targets -/
theorem ck_tgs (p : PlE B X T C q W k m) : ∀ {is : List Nat} {es : List Expr}, tgsB m is es = true → PGs X es (gNs is) ∧ es.length = is.length ∧ es.all notStar = true
  | [], [], _ => ⟨sg_nil, rfl, rfl⟩
  | i :: is, .Name x ps :: es, h => by
    obtain ⟨h1, h2⟩ := Bool.and_eq_true_iff.mp (show (stoB m i x && tgsB m is es) = true from h)
    obtain ⟨a1, a2, a3⟩ := sto_of p h1
    obtain ⟨b1, b2, b3⟩ := ck_tgs p h2
    refine ⟨sg_cons (by rw [p.N]; exact p.nd) a1 a2 b1 a3, by rw [List.length_cons, List.length_cons, b2], ?_⟩
    rw [List.all_cons, b3]
    rfl
  | [], _ :: _, h => by cases h
  | i :: is, [], h => by cases h
  | i :: is, .BoolOp a b c :: es, h => by cases h
  | i :: is, .NamedExpr a b c :: es, h => by cases h
  | i :: is, .BinOp a b c d :: es, h => by cases h
  | i :: is, .UnaryOp a b c :: es, h => by cases h
  | i :: is, .Lambda a b c d :: es, h => by cases h
  | i :: is, .IfExp a b c d :: es, h => by cases h
  | i :: is, .Dict a b c :: es, h => by cases h
  | i :: is, .Set a b c :: es, h => by cases h
  | i :: is, .ListComp a b c d :: es, h => by cases h
  | i :: is, .SetComp a b c d :: es, h => by cases h
  | i :: is, .DictComp a b c d e :: es, h => by cases h
  | i :: is, .GeneratorExp a b c d :: es, h => by cases h
  | i :: is, .Await a b :: es, h => by cases h
  | i :: is, .Yield a b :: es, h => by cases h
  | i :: is, .YieldFrom a b :: es, h => by cases h
  | i :: is, .Compare a b c d :: es, h => by cases h
  | i :: is, .Call a b c d :: es, h => by cases h
  | i :: is, .FormattedValue a b c d :: es, h => by cases h
  | i :: is, .JoinedStr a b :: es, h => by cases h
  | i :: is, .Constant a b c :: es, h => by cases h
  | i :: is, .Attribute a b c :: es, h => by cases h
  | i :: is, .Subscript a b c :: es, h => by cases h
  | i :: is, .Starred a b :: es, h => by cases h
  | i :: is, .List a b :: es, h => by cases h
  | i :: is, .Tuple a b c :: es, h => by cases h
  | i :: is, .Slice a b c d :: es, h => by cases h
theorem ck_tg (p : PlE B X T C q W k m) (hc : X.calm = true) {is : List Nat} {e : Expr} (h : tgB m is e = true) : PG X e (gTg X.K is (is.length != 1)) := by
  unfold tgB at h
  split at h
  · split at h
    · obtain ⟨a1, a2, a3⟩ := sto_of p h
      exact sg_one (by rw [p.N]; exact p.nd) a1 a2 a3
    · cases h
  · simp only [Bool.and_eq_true, decide_eq_true_eq] at h
    obtain ⟨h1, h2⟩ := h
    obtain ⟨b1, b2, b3⟩ := ck_tgs p h2
    have e1 : (is.length != 1) = true := by simpa using h1
    rw [e1]
    obtain ⟨z1, z2⟩ := sh_tgs (env := X.env) b3
    exact sg_many hc b1 (z1.trans b2) z2
  · cases h
theorem tgNames_len {tg : Expr} {xs : List Str} {is : List Nat} (h : tgNames tg = some xs) (hl : xs.length = is.length) : (xs.zip is).map (·.2) = is := List.map_snd_zip (by omega)
end

theorem chA_nil {B : Tb} {m : Md} : ∀ {il : As}, chA B m il [] = true → il = .nil
  | .nil, _ => rfl
  | .cons a r, h => by simp only [chA] at h; cases h
  | .star a r, h => by simp only [chA] at h; cases h
theorem mem_of_lookup {α β : Type} [BEq α] [LawfulBEq α] {a : α} {b : β} : ∀ {l : List (α × β)}, l.lookup a = some b → (a, b) ∈ l
  | [], h => by cases h
  | (x, y) :: l, h => by
    rw [List.lookup_cons] at h
    cases z : a == x with
    | true =>
      rw [z] at h
      have e1 := eq_of_beq z
      have e2 := Option.some.inj h
      rw [e1, ← e2]
      exact List.mem_cons_self
    | false =>
      rw [z] at h
      exact List.mem_cons_of_mem _ (mem_of_lookup h)
theorem kwMe_of {B : Tb} {n : Nat} {ks : List Str} {pm : List Nat} (h : B.kwMe n ks pm = true) {cn f : Nat} (hh : B.P.meth cn n = some f ∨ B.P.cmeth cn n = some f) : (f, ks, 1, pm) ∈ B.kw := by
  unfold Tb.kwMe at h
  have mem : ((cn, n), f) ∈ B.me ++ B.cm := by
    rcases hh with hh | hh
    · exact List.mem_append_left _ (mem_of_lookup hh)
    · exact List.mem_append_right _ (mem_of_lookup hh)
  have z := List.all_eq_true.mp h _ mem
  simp only [Bool.or_eq_true, decide_eq_true_eq] at z
  rcases z with z | z
  · exact absurd rfl z
  · exact z
section
variable {B : Tb} {T : Ad} {C : Caller} {q : Asker}
mutual
theorem chE_ok : ∀ (il : E) {X : Cx} {W : WX} {k : Nat} {m : Md} (p : PlE B X T C q W k m) {e : Expr}, chE B m il e = true → PE X e (tE T B.P C q X.pn W il)
  | .v i, X, W, k, m, p, e, h => by
    simp only [chE] at h
    split at h
    · simp only [Bool.and_eq_true, decide_eq_true_eq] at h
      have n := ndb_of h.2
      exact se_v (by rw [p.N]; exact h.1.1) (vis_of h.1.2 p.sc) n.1 n.2.1
    · cases h
  | .c d, X, W, k, m, p, e, h => by
    simp only [chE] at h
    exact ck_c p h
  | .o1 .fz a, X, W, k, m, p, e, h => by
    simp only [chE] at h
    exact se_fz (chE_ok a p h)
  | .o1 .neg a, X, W, k, m, p, e, h => by
    simp only [chE] at h
    split at h
    · exact se_neg (fun pins s σ H i v Q I r hq => by
        obtain ⟨t, rfl⟩ := r
        exact neg_int ⟨.int (-i), H, I.tok _, ⟨_, rfl⟩, hq⟩) (chE_ok a p h)
    · cases h
  | .o1 (.at n) a, X, W, k, m, p, e, h => by
    simp only [chE] at h
    split at h
    · simp only [Bool.and_eq_true, decide_eq_true_eq] at h
      obtain ⟨⟨⟨h1, h2⟩, h3⟩, h4⟩ := h
      exact se_at (p.full h3) p.prg (by rw [p.on]; exact h1) (chE_ok a p h4) (sh_base h2)
    · cases h
  | .o1 (.atx n) a, X, W, k, m, p, e, h => by
    simp only [chE] at h
    split at h
    · simp only [Bool.and_eq_true, decide_eq_true_eq] at h
      obtain ⟨⟨h1, h2⟩, h4⟩ := h
      exact se_atx p.K p.prg (by rw [p.on]; exact h1) (chE_ok a p h4) (sh_base h2)
    · cases h
  | .o1 (.rev mt) a, X, W, k, m, p, e, h => by
    simp only [chE, Bool.and_eq_true] at h
    obtain ⟨hf, h⟩ := h
    split at h
    · rw [Bool.and_eq_true] at h
      rw [of_decide_eq_true h.1]
      exact se_rev (chE_ok a p h.2)
    · cases h
  | .dct ks as, X, W, k, m, p, e, h => by
    simp only [chE] at h
    exact ck_dct h
  | .o2 k2 a b, X, W, k, m, p, e, h => by
    simp only [chE, Bool.and_eq_true] at h
    obtain ⟨hf, h⟩ := h
    have c := p.full hf
    split at h
    · simp only [Bool.and_eq_true, decide_eq_true_eq] at h
      obtain ⟨⟨⟨h1, h2⟩, h3⟩, h4⟩ := h
      subst h1
      exact se_get (ix_f2 c p.prg) (chE_ok a p h3) (chE_ok b p h4) (sh_ix h2) (sh_ix2 h2)
    · simp only [Bool.and_eq_true] at h
      obtain ⟨⟨h1, h2⟩, h3⟩ := h
      exact se_bin (ck_bin p c h1) (chE_ok a p h2) (chE_ok b p h3)
    · simp only [Bool.and_eq_true] at h
      obtain ⟨⟨⟨h1, h2⟩, h3⟩, h4⟩ := h
      exact se_cmp (ck_cmp p c h1) (chE_ok a p h3) (chE_ok b p h4) (sh_in h2)
    · cases h
  | .andV a b, X, W, k, m, p, e, h => by
    simp only [chE, Bool.and_eq_true] at h
    obtain ⟨hf, h⟩ := h
    have c := p.full hf
    split at h
    · simp only [Bool.and_eq_true] at h
      exact se_andV (tr_truth c p.prg) (chE_ok a p h.1) (pe_of_one (chE_ok b p h.2))
    · cases h
  | .orV a b, X, W, k, m, p, e, h => by
    simp only [chE, Bool.and_eq_true] at h
    obtain ⟨hf, h⟩ := h
    have c := p.full hf
    split at h
    · simp only [Bool.and_eq_true] at h
      exact se_orV (tr_truth c p.prg) (chE_ok a p h.1) (pe_of_one (chE_ok b p h.2))
    · cases h
  | .tst (.not (.tr a)), X, W, k, m, p, e, h => by
    simp only [chE, Bool.and_eq_true] at h
    obtain ⟨hf, h⟩ := h
    have c := p.full hf
    split at h
    · exact se_notV (tr_truth c p.prg) (chE_ok a p h)
    · cases h
  | .tst (.tr a), X, W, k, m, p, e, h => by
    simp only [chE] at h
    cases h
  | .tst (.and a b), X, W, k, m, p, e, h => by
    simp only [chE] at h
    cases h
  | .tst (.or a b), X, W, k, m, p, e, h => by
    simp only [chE] at h
    cases h
  | .tst (.not (.and a b)), X, W, k, m, p, e, h => by
    simp only [chE] at h
    cases h
  | .tst (.not (.or a b)), X, W, k, m, p, e, h => by
    simp only [chE] at h
    cases h
  | .tst (.not (.not a)), X, W, k, m, p, e, h => by
    simp only [chE] at h
    cases h
  | .ite t a b, X, W, k, m, p, e, h => by
    simp only [chE] at h
    split at h
    · simp only [Bool.and_eq_true] at h
      obtain ⟨⟨h1, h2⟩, h3⟩ := h
      exact se_ite (chT_ok t p h1) (chE_ok a p h2) (chE_ok b p h3)
    · cases h
  | .chain k2 l2 a b c0, X, W, k, m, p, e, h => by
    simp only [chE, Bool.and_eq_true] at h
    obtain ⟨hf, h⟩ := h
    have c := p.full hf
    split at h
    · simp only [Bool.and_eq_true] at h
      obtain ⟨⟨⟨⟨⟨h1, h2⟩, h3⟩, h4⟩, h5⟩, h6⟩ := h
      exact se_chain (ck_cmp p c h1) (ck_cmp p c h2) (chE_ok a p h4) (chE_ok b p h5) (chE_ok c0 p h6) (sh_in2 h3)
    · cases h
  | .dsp .tup as, X, W, k, m, p, e, h => by
    simp only [chE] at h
    split at h
    · simp only [Bool.and_eq_true] at h
      first | exact se_tup (chA_ok as p h.2) | cases h.1
    · simp only [Bool.and_eq_true] at h
      first | exact se_tup (chA_ok as p h.2) | cases h.1
    · cases h
  | .dsp .lst as, X, W, k, m, p, e, h => by
    simp only [chE] at h
    split at h
    · simp only [Bool.and_eq_true] at h
      first | exact se_lst (chA_ok as p h.2) | cases h.1
    · simp only [Bool.and_eq_true] at h
      first | exact se_lst (chA_ok as p h.2) | cases h.1
    · cases h
  | .dsp .mut as, X, W, k, m, p, e, h => by
    simp only [chE] at h
    split at h
    · simp only [Bool.and_eq_true] at h
      first | exact se_mut (chA_ok as p h.2) | cases h.1
    · simp only [Bool.and_eq_true] at h
      first | exact se_mut (chA_ok as p h.2) | cases h.1
    · cases h
  | .call f as, X, W, k, m, p, e, h => by
    simp only [chE, Bool.and_eq_true] at h
    obtain ⟨hf, h⟩ := h
    have c := p.full hf
    split at h
    · rename_i x p1 es p2
      simp only [Bool.and_eq_true, Bool.or_eq_true, Bool.not_eq_true'] at h
      obtain ⟨⟨⟨⟨⟨h1, h2⟩, h3⟩, h4⟩, h5⟩, h6⟩ := h
      have hA := chA_ok as p h6
      obtain ⟨m1, m2⟩ := fnB_of p h3
      exact se_call c (glb_of h1 p.sc) m1 m2 (p.plain f h4) (ck_cw p h5 hA (fun e0 ps e1 => by
        subst e1
        exact chL_ok as p h6) (fun e1 => by
        subst e1
        exact chA_nil h6)) (ndb_of h2).1
    · cases h
  | .mk cn as, X, W, k, m, p, e, h => by
    simp only [chE, Bool.and_eq_true] at h
    obtain ⟨hf, h⟩ := h
    have c := p.full hf
    split at h
    · rename_i x p1 es p2
      simp only [Bool.and_eq_true] at h
      obtain ⟨⟨⟨⟨⟨h1, h2⟩, h3⟩, h4⟩, h5⟩, h6⟩ := h
      have hA := chA_ok as p h6
      obtain ⟨f0, hf0⟩ := Option.isSome_iff_exists.mp h4
      exact se_mk c p.prg (glb_of h1 p.sc) (clB_of p h3) hf0 (ck_cw p h5 hA (fun e0 ps e1 => by
        subst e1
        exact chL_ok as p h6) (fun e1 => by
        subst e1
        exact chA_nil h6)) (ndb_of h2).1
    · cases h
  | .bi (.isi ts os) .nil, X, W, k, m, p, e, h => by
    unfold chE at h
    split at h
    · simp only [Bool.and_eq_true] at h
      cases h.2
    · cases h
  | .bi (.isi ts os) (.star a r), X, W, k, m, p, e, h => by
    unfold chE at h
    split at h
    · simp only [Bool.and_eq_true] at h
      cases h.2
    · cases h
  | .bi (.isi ts os) (.cons a (.cons b r)), X, W, k, m, p, e, h => by
    unfold chE at h
    split at h
    · simp only [Bool.and_eq_true] at h
      cases h.2
    · cases h
  | .bi (.isi ts os) (.cons a (.star b r)), X, W, k, m, p, e, h => by
    unfold chE at h
    split at h
    · simp only [Bool.and_eq_true] at h
      cases h.2
    · cases h
  | .bi (.isi ts os) (.cons a .nil), X, W, k, m, p, e, h => by
    unfold chE at h
    split at h
    · simp only [Bool.and_eq_true, decide_eq_true_eq] at h
      obtain ⟨⟨⟨⟨⟨h1, h2⟩, h3⟩, h4⟩, h5⟩, h6⟩ := h
      exact ck_isi p h1 h2 h3 h4 h5 (chE_ok a p h6)
    · cases h
  | .bi .len as, X, W, k, m, p, e, h => by
    simp only [chE, Bool.and_eq_true] at h
    obtain ⟨hf, h⟩ := h
    split at h
    · simp only [Bool.and_eq_true, Bool.or_eq_true, decide_eq_true_eq] at h
      obtain ⟨⟨⟨⟨⟨h1, h2⟩, h3⟩, h4⟩, h5⟩, h6⟩ := h
      exact ck_bi p hf h1 h2 h3 h4 h5 (chA_ok as p h6)
    · cases h
  | .bi .sum as, X, W, k, m, p, e, h => by
    simp only [chE, Bool.and_eq_true] at h
    obtain ⟨hf, h⟩ := h
    split at h
    · simp only [Bool.and_eq_true, Bool.or_eq_true, decide_eq_true_eq] at h
      obtain ⟨⟨⟨⟨⟨h1, h2⟩, h3⟩, h4⟩, h5⟩, h6⟩ := h
      exact ck_bi p hf h1 h2 h3 h4 h5 (chA_ok as p h6)
    · cases h
  | .bi .min as, X, W, k, m, p, e, h => by
    simp only [chE, Bool.and_eq_true] at h
    obtain ⟨hf, h⟩ := h
    split at h
    · simp only [Bool.and_eq_true, Bool.or_eq_true, decide_eq_true_eq] at h
      obtain ⟨⟨⟨⟨⟨h1, h2⟩, h3⟩, h4⟩, h5⟩, h6⟩ := h
      exact ck_bi p hf h1 h2 h3 h4 h5 (chA_ok as p h6)
    · cases h
  | .bi .max as, X, W, k, m, p, e, h => by
    simp only [chE, Bool.and_eq_true] at h
    obtain ⟨hf, h⟩ := h
    split at h
    · simp only [Bool.and_eq_true, Bool.or_eq_true, decide_eq_true_eq] at h
      obtain ⟨⟨⟨⟨⟨h1, h2⟩, h3⟩, h4⟩, h5⟩, h6⟩ := h
      exact ck_bi p hf h1 h2 h3 h4 h5 (chA_ok as p h6)
    · cases h
  | .bi .abs as, X, W, k, m, p, e, h => by
    simp only [chE, Bool.and_eq_true] at h
    obtain ⟨hf, h⟩ := h
    split at h
    · simp only [Bool.and_eq_true, Bool.or_eq_true, decide_eq_true_eq] at h
      obtain ⟨⟨⟨⟨⟨h1, h2⟩, h3⟩, h4⟩, h5⟩, h6⟩ := h
      exact ck_bi p hf h1 h2 h3 h4 h5 (chA_ok as p h6)
    · cases h
  | .bi .int as, X, W, k, m, p, e, h => by
    simp only [chE, Bool.and_eq_true] at h
    obtain ⟨hf, h⟩ := h
    split at h
    · simp only [Bool.and_eq_true, Bool.or_eq_true, decide_eq_true_eq] at h
      obtain ⟨⟨⟨⟨⟨h1, h2⟩, h3⟩, h4⟩, h5⟩, h6⟩ := h
      exact ck_bi p hf h1 h2 h3 h4 h5 (chA_ok as p h6)
    · cases h
  | .bi .str as, X, W, k, m, p, e, h => by
    simp only [chE, Bool.and_eq_true] at h
    obtain ⟨hf, h⟩ := h
    split at h
    · simp only [Bool.and_eq_true, Bool.or_eq_true, decide_eq_true_eq] at h
      obtain ⟨⟨⟨⟨⟨h1, h2⟩, h3⟩, h4⟩, h5⟩, h6⟩ := h
      exact ck_bi p hf h1 h2 h3 h4 h5 (chA_ok as p h6)
    · cases h
  | .bi .bool as, X, W, k, m, p, e, h => by
    simp only [chE, Bool.and_eq_true] at h
    obtain ⟨hf, h⟩ := h
    split at h
    · simp only [Bool.and_eq_true, Bool.or_eq_true, decide_eq_true_eq] at h
      obtain ⟨⟨⟨⟨⟨h1, h2⟩, h3⟩, h4⟩, h5⟩, h6⟩ := h
      exact ck_bi p hf h1 h2 h3 h4 h5 (chA_ok as p h6)
    · cases h
  | .bi .list as, X, W, k, m, p, e, h => by
    simp only [chE, Bool.and_eq_true] at h
    obtain ⟨hf, h⟩ := h
    split at h
    · simp only [Bool.and_eq_true, Bool.or_eq_true, decide_eq_true_eq] at h
      obtain ⟨⟨⟨⟨⟨h1, h2⟩, h3⟩, h4⟩, h5⟩, h6⟩ := h
      exact ck_bi p hf h1 h2 h3 h4 h5 (chA_ok as p h6)
    · cases h
  | .bi .listm as, X, W, k, m, p, e, h => by
    simp only [chE, Bool.and_eq_true] at h
    obtain ⟨hf, h⟩ := h
    split at h
    · simp only [Bool.and_eq_true, Bool.or_eq_true, decide_eq_true_eq] at h
      obtain ⟨⟨⟨⟨⟨h1, h2⟩, h3⟩, h4⟩, h5⟩, h6⟩ := h
      exact ck_bi p hf h1 h2 h3 h4 h5 (chA_ok as p h6)
    · cases h
  | .bi .tuple as, X, W, k, m, p, e, h => by
    simp only [chE, Bool.and_eq_true] at h
    obtain ⟨hf, h⟩ := h
    split at h
    · simp only [Bool.and_eq_true, Bool.or_eq_true, decide_eq_true_eq] at h
      obtain ⟨⟨⟨⟨⟨h1, h2⟩, h3⟩, h4⟩, h5⟩, h6⟩ := h
      exact ck_bi p hf h1 h2 h3 h4 h5 (chA_ok as p h6)
    · cases h
  | .bi .all as, X, W, k, m, p, e, h => by
    simp only [chE, Bool.and_eq_true] at h
    obtain ⟨hf, h⟩ := h
    split at h
    · simp only [Bool.and_eq_true, Bool.or_eq_true, decide_eq_true_eq] at h
      obtain ⟨⟨⟨⟨⟨h1, h2⟩, h3⟩, h4⟩, h5⟩, h6⟩ := h
      exact ck_bi p hf h1 h2 h3 h4 h5 (chA_ok as p h6)
    · cases h
  | .bi .any as, X, W, k, m, p, e, h => by
    simp only [chE, Bool.and_eq_true] at h
    obtain ⟨hf, h⟩ := h
    split at h
    · simp only [Bool.and_eq_true, Bool.or_eq_true, decide_eq_true_eq] at h
      obtain ⟨⟨⟨⟨⟨h1, h2⟩, h3⟩, h4⟩, h5⟩, h6⟩ := h
      exact ck_bi p hf h1 h2 h3 h4 h5 (chA_ok as p h6)
    · cases h
  | .bi .repr as, X, W, k, m, p, e, h => by
    simp only [chE, Bool.and_eq_true] at h
    obtain ⟨hf, h⟩ := h
    split at h
    · simp only [Bool.and_eq_true, Bool.or_eq_true, decide_eq_true_eq] at h
      obtain ⟨⟨⟨⟨⟨h1, h2⟩, h3⟩, h4⟩, h5⟩, h6⟩ := h
      exact ck_bi p hf h1 h2 h3 h4 h5 (chA_ok as p h6)
    · cases h
  | .bi .sorted as, X, W, k, m, p, e, h => by
    simp only [chE, Bool.and_eq_true] at h
    obtain ⟨hf, h⟩ := h
    split at h
    · simp only [Bool.and_eq_true, Bool.or_eq_true, decide_eq_true_eq] at h
      obtain ⟨⟨⟨⟨⟨h1, h2⟩, h3⟩, h4⟩, h5⟩, h6⟩ := h
      exact ck_bi p hf h1 h2 h3 h4 h5 (chA_ok as p h6)
    · cases h
  | .bi .sortedm as, X, W, k, m, p, e, h => by
    simp only [chE, Bool.and_eq_true] at h
    obtain ⟨hf, h⟩ := h
    split at h
    · simp only [Bool.and_eq_true, Bool.or_eq_true, decide_eq_true_eq] at h
      obtain ⟨⟨⟨⟨⟨h1, h2⟩, h3⟩, h4⟩, h5⟩, h6⟩ := h
      exact ck_bi p hf h1 h2 h3 h4 h5 (chA_ok as p h6)
    · cases h
  | .me n a as, X, W, k, m, p, e, h => by
    simp only [chE, Bool.and_eq_true] at h
    obtain ⟨hf, h⟩ := h
    have c := p.full hf
    split at h
    · rename_i o nm ap es p2
      simp only [Bool.and_eq_true, decide_eq_true_eq] at h
      obtain ⟨⟨⟨⟨⟨⟨h1, h2⟩, h3⟩, h4⟩, h5⟩, h6⟩, h7⟩ := h
      have hA := chA_ok as p h7
      have hw : CW X es p2 (tA T B.P C q X.pn W as) := by
        cases es with
        | nil => rw [chA_nil h7]; exact cw_nil
        | cons e0 r =>
          rw [List.all_cons, Bool.and_eq_true] at h3
          exact cw_plain hA (sh_star h3.1) (sh_any h3.2)
      exact se_me c p.prg (fun _ _ => rfl) (by rw [p.on]; exact h1) (chE_ok a p h6) hw (sh_me h2 h3 h4 h5)
    · cases h
  | .bm .append a (.cons b .nil), X, W, k, m, p, e, h => by
    simp only [chE, Bool.and_eq_true] at h
    obtain ⟨hf, h⟩ := h
    split at h
    · rename_i o nm ap x p2
      simp only [Bool.and_eq_true, decide_eq_true_eq] at h
      obtain ⟨⟨⟨⟨⟨h1, h2⟩, h3⟩, h4⟩, h5⟩, h6⟩ := h
      subst h1
      refine se_append (chE_ok a p h5) (chE_ok b p h6) (sh_base h2) ?_ h4 (sh_star h3)
      rw [sh_all (by rw [List.all_cons, h3]; rfl)]
      rfl
    · cases h
  | .bm .pop a .nil, X, W, k, m, p, e, h => by
    simp only [chE, Bool.and_eq_true] at h
    obtain ⟨hf, h⟩ := h
    split at h
    · simp only [Bool.and_eq_true, decide_eq_true_eq] at h
      obtain ⟨⟨⟨h1, h2⟩, h3⟩, h4⟩ := h
      subst h1
      exact se_pop (chE_ok a p h4) (sh_base h2) h3
    · cases h
  | .bm .append a .nil, X, W, k, m, p, e, h => by
    simp only [chE] at h
    cases h
  | .bm .append a (.star b r), X, W, k, m, p, e, h => by
    simp only [chE] at h
    cases h
  | .bm .append a (.cons b (.cons c r)), X, W, k, m, p, e, h => by
    simp only [chE] at h
    cases h
  | .bm .append a (.cons b (.star c r)), X, W, k, m, p, e, h => by
    simp only [chE] at h
    cases h
  | .bm .pop a (.cons b r), X, W, k, m, p, e, h => by
    simp only [chE] at h
    cases h
  | .bm .pop a (.star b r), X, W, k, m, p, e, h => by
    simp only [chE] at h
    cases h
  | .bm .extend a as, X, W, k, m, p, e, h => by
    simp only [chE] at h
    cases h
  | .bm .join a as, X, W, k, m, p, e, h => by
    simp only [chE] at h
    cases h
  | .bm .split a as, X, W, k, m, p, e, h => by
    simp only [chE] at h
    cases h
  | .bm .splitm a as, X, W, k, m, p, e, h => by
    simp only [chE] at h
    cases h
  | .mkv a as, X, W, k, m, p, e, h => by
    simp only [chE, Bool.and_eq_true] at h
    obtain ⟨hf, h⟩ := h
    have c := p.full hf
    split at h
    · rename_i x p1 es p2
      simp only [Bool.and_eq_true] at h
      obtain ⟨⟨h5, h2⟩, h6⟩ := h
      have hA := chA_ok as p h6
      exact se_mkv c p.prg (chE_ok a p h2) (ck_cw p h5 hA (fun e0 ps e1 => by
        subst e1
        exact chL_ok as p h6) (fun e1 => by
        subst e1
        exact chA_nil h6))
    · cases h
  | .callP f as pm, X, W, k, m, p, e, h => by
    simp only [chE, Bool.and_eq_true] at h
    obtain ⟨⟨hf, hk⟩, h⟩ := h
    have c := p.full hf
    split at h
    · rename_i x p1 kws p2
      split at h
      · rename_i ks hks
        simp only [Bool.and_eq_true, Bool.or_eq_true, Bool.not_eq_true', decide_eq_true_eq] at h
        obtain ⟨⟨⟨⟨⟨h1, h2⟩, h3⟩, h4⟩, h5⟩, h6⟩ := h
        obtain ⟨m1, m2⟩ := fnB_of p h3
        obtain ⟨k1, k2, k3, k4⟩ := sh_kw (env := X.env) (pos := p2) hks
        obtain ⟨hK, hl⟩ := chK_ok as p h6
        exact se_callP c (p.kwf hk hf) (glb_of h1 p.sc) m1 m2 (p.plain f h4) (p.kw _ _ _ _ h5) k4 (cwk hK k1 k2 (by rw [k3]; rfl)) (fun r M xs M1 e1 => evA_len hl e1) (ndb_of h2).1
      · cases h
    · cases h
  | .mkP cn as pm, X, W, k, m, p, e, h => by
    simp only [chE] at h
    cases h
  | .meP n a as pm, X, W, k, m, p, e, h => by
    simp only [chE, Bool.and_eq_true] at h
    obtain ⟨⟨hf, hk⟩, h⟩ := h
    have c := p.full hf
    split at h
    · rename_i o nm ap kws p2
      split at h
      · rename_i ks hks
        simp only [Bool.and_eq_true, decide_eq_true_eq] at h
        obtain ⟨⟨⟨⟨⟨⟨h1, h2⟩, h3⟩, h4⟩, h5⟩, h6⟩, h7⟩ := h
        obtain ⟨k1, k2, k3, k4⟩ := sh_kw (env := X.env) (pos := p2) hks
        obtain ⟨hK, hl⟩ := chK_ok as p h7
        refine se_meP c p.prg (p.kwf hk hf) (fun _ _ => rfl) (by rw [p.on]; exact h1) (chE_ok a p h6) (fun cn f hh => ?_) k4 (cwk hK k1 k2 (by rw [k3]; rfl)) (fun r M xs M1 e1 => evA_len hl e1) (sh_meP h2 hks h3 h4)
        exact p.kw _ _ _ _ (kwMe_of h5 hh)
      · cases h
    · cases h
  | .sl mt a lo hi, X, W, k, m, p, e, h => by
    simp only [chE, Bool.and_eq_true] at h
    obtain ⟨hf, h⟩ := h
    split at h
    · simp only [Bool.and_eq_true] at h
      exact se_sl p.K (chE_ok a p h.1.1) (chO_ok lo p h.1.2) (chO_ok hi p h.2)
    · cases h
  | .cp mt it is ts a, X, W, k, m, p, e, h => by
    simp only [chE, Bool.and_eq_true] at h
    obtain ⟨hf, h⟩ := h
    have c := p.full hf
    split at h
    · rename_i elt tg iter ifs scope p2
      split at h
      · rename_i xs hxs
        simp only [Bool.and_eq_true, decide_eq_true_eq] at h
        obtain ⟨⟨⟨⟨⟨⟨h1, h2⟩, h3⟩, h4⟩, h5⟩, h6⟩, h7⟩ := h
        have ok : BlkOk X.N X.env.scope scope (xs.zip is) := blkOk_by (by rw [p.N, p.sc]; exact h2)
        exact se_cp p.K c.calm (by rw [p.N]; exact p.nd) (tgNames_len hxs h1) (chI_ok it p h5) ok (fun s H D cl fp => ck_tg (p.blk s H scope cl D fp) c.calm h4) (fun s H D cl fp => chTs_ok ts (p.blk s H scope cl D fp) h6) (fun s H D cl fp => chE_ok a (p.blk s H scope cl D fp) h7) (sh_set h3)
      · cases h
    · cases h
  | .hear g a, X, W, k, m, p, e, h => by
    simp only [chE, Bool.and_eq_true] at h
    obtain ⟨⟨hf, hm⟩, h⟩ := h
    have c := p.full hf
    split at h
    · rename_i x p1 ps body scope p2 p3
      simp only [Bool.and_eq_true, Bool.or_eq_true, Bool.not_eq_true'] at h
      obtain ⟨⟨⟨⟨⟨⟨h1, h2⟩, h3⟩, h4⟩, h5⟩, h6⟩, h7⟩ := h
      obtain ⟨m1, m2⟩ := fnB_of p h3
      obtain ⟨a1, a2, a3, cd, Pt, a4, a5, a6, a7⟩ := p.lam hm hf
      unfold noPar at h6
      split at h6
      · exact se_hear c a1 a2 a3 (p.plain g h4) (glb_of h1 p.sc) m1 m2 a4 a5 a6 a7 (by rw [p.sc]; exact LamX.lamS_by h5) rfl (fun _ _ _ _ _ => rfl) (fun A outer s H E f c' hr tk => chE_ok a (p.lm hf hr tk) h7) (ndb_of h2).1
      · cases h6
    · cases h
  | .ask, X, W, k, m, p, e, h => by
    simp only [chE, Bool.and_eq_true] at h
    obtain ⟨⟨hf, hm⟩, h⟩ := h
    have c := p.full hf
    split at h
    · rename_i x p1 p2
      simp only [Bool.and_eq_true, decide_eq_true_eq] at h
      have n := ndb_of h.2
      obtain ⟨T0, S0, f, g, k0, a1, a2, a3, a4, a5, a6, a7⟩ := p.ask hm hf
      subst a1 a2
      exact se_ask (by rw [p.N]; exact h.1.1) (vis_of h.1.2 p.sc) c.tk a3 a4 a5 a6 a7 n.1 n.2.1
    · cases h
theorem chO_ok : ∀ (il : Eo) {X : Cx} {W : WX} {k : Nat} {m : Md} (p : PlE B X T C q W k m) {e : Option Expr}, chO B m il e = true → PO X e (tO T B.P C q X.pn W il)
  | .none, X, W, k, m, p, e, h => by
    cases e with
    | none => exact so_none
    | some e => simp only [chO] at h; cases h
  | .some a, X, W, k, m, p, e, h => by
    cases e with
    | none => simp only [chO] at h; cases h
    | some e =>
      simp only [chO] at h
      exact so_some (chE_ok a p h)
theorem chA_ok : ∀ (il : As) {X : Cx} {W : WX} {k : Nat} {m : Md} (p : PlE B X T C q W k m) {es : List Expr}, chA B m il es = true → PA X es (tA T B.P C q X.pn W il)
  | .nil, X, W, k, m, p, es, h => by
    cases es with
    | nil => exact sa_nil
    | cons e es => simp only [chA] at h; cases h
  | .cons a r, X, W, k, m, p, es, h => by
    cases es with
    | nil => simp only [chA] at h; cases h
    | cons e es =>
      simp only [chA, Bool.and_eq_true] at h
      exact sa_cons (chE_ok a p h.1.2) (chA_ok r p h.2) (sh_star h.1.1)
  | .star a r, X, W, k, m, p, es, h => by
    cases es with
    | nil => simp only [chA] at h; cases h
    | cons e es =>
      cases e <;> first | (simp only [chA] at h; cases h; done) | skip
      simp only [chA, Bool.and_eq_true] at h
      exact sa_star p.K (chE_ok a p h.1.2) (chA_ok r p h.2)
theorem chL_ok : ∀ (il : As) {X : Cx} {W : WX} {k : Nat} {m : Md} (p : PlE B X T C q W k m) {e : Expr} {ps : Pos}, chA B m il [.Starred e ps] = true → ∃ ie, il = .star ie .nil ∧ PE X e (tE T B.P C q X.pn W ie)
  | .nil, X, W, k, m, p, e, ps, h => by simp only [chA] at h; cases h
  | .cons a r, X, W, k, m, p, e, ps, h => by
    simp only [chA, Bool.and_eq_true] at h
    cases h.1.1
  | .star a .nil, X, W, k, m, p, e, ps, h => by
    simp only [chA, Bool.and_eq_true] at h
    exact ⟨a, rfl, chE_ok a p h.1.2⟩
  | .star a (.cons b r), X, W, k, m, p, e, ps, h => by
    simp only [chA, Bool.and_eq_true] at h
    cases h.2
  | .star a (.star b r), X, W, k, m, p, e, ps, h => by
    simp only [chA, Bool.and_eq_true] at h
    cases h.2
theorem chK_ok : ∀ (il : As) {X : Cx} {W : WX} {k : Nat} {m : Md} (p : PlE B X T C q W k m) {kws : List Keyword}, chK B m il kws = true → PK X kws (tA T B.P C q X.pn W il) ∧ asLen il = some kws.length
  | .nil, X, W, k, m, p, kws, h => by
    cases kws with
    | nil => exact ⟨sk_nil, rfl⟩
    | cons e es => simp only [chK] at h; cases h
  | .cons a r, X, W, k, m, p, kws, h => by
    cases kws with
    | nil => simp only [chK] at h; cases h
    | cons e es =>
      obtain ⟨x, e, ps⟩ := e
      simp only [chK, Bool.and_eq_true] at h
      obtain ⟨h1, h2⟩ := chK_ok r p h.2
      refine ⟨sk_cons (chE_ok a p h.1) h1, ?_⟩
      simp only [asLen, h2, List.length_cons]
  | .star a r, X, W, k, m, p, kws, h => by
    simp only [chK] at h
    cases h
theorem chT_ok : ∀ (il : Te) {X : Cx} {W : WX} {k : Nat} {m : Md} (p : PlE B X T C q W k m) {e : Expr}, chT B m il e = true → PT X e (tT T B.P C q X.pn W il)
  | .tr (.o2 k2 a b), X, W, k, m, p, e, h => by
    simp only [chT, Bool.and_eq_true] at h
    obtain ⟨hf, h⟩ := h
    have c := p.full hf
    have t := tr_truth c p.prg
    split at h
    · simp only [Bool.and_eq_true] at h
      obtain ⟨⟨⟨h1, h2⟩, h3⟩, h4⟩ := h
      exact st_cmp t (ck_cmp p c h1) (chE_ok a p h3) (chE_ok b p h4) (sh_in h2)
    · simp only [Bool.and_eq_true, decide_eq_true_eq] at h
      obtain ⟨⟨⟨h1, h2⟩, h3⟩, h4⟩ := h
      subst h1
      exact st_tr t (se_get (ix_f2 c p.prg) (chE_ok a p h3) (chE_ok b p h4) (sh_ix h2) (sh_ix2 h2)) (sh_tr rfl)
    · simp only [Bool.and_eq_true] at h
      obtain ⟨⟨h1, h2⟩, h3⟩ := h
      exact st_tr t (se_bin (ck_bin p c h1) (chE_ok a p h2) (chE_ok b p h3)) (sh_tr rfl)
    · cases h
  | .tr (.chain k2 l2 a b c0), X, W, k, m, p, e, h => by
    simp only [chT, Bool.and_eq_true] at h
    obtain ⟨hf, h⟩ := h
    have c := p.full hf
    split at h
    · simp only [Bool.and_eq_true] at h
      obtain ⟨⟨⟨⟨⟨h1, h2⟩, h3⟩, h4⟩, h5⟩, h6⟩ := h
      exact st_chain (tr_truth c p.prg) (ck_cmp p c h1) (ck_cmp p c h2) (chE_ok a p h4) (chE_ok b p h5) (chE_ok c0 p h6) (sh_in2 h3)
    · cases h
  | .tr (.v i), X, W, k, m, p, e, h => by
    simp only [chT, Bool.and_eq_true] at h
    exact st_tr (tr_truth (p.full h.1.1) p.prg) (chE_ok (.v i) p h.2) (sh_tr h.1.2)
  | .tr (.c d), X, W, k, m, p, e, h => by
    simp only [chT, Bool.and_eq_true] at h
    exact st_tr (tr_truth (p.full h.1.1) p.prg) (chE_ok (.c d) p h.2) (sh_tr h.1.2)
  | .tr (.o1 kk a), X, W, k, m, p, e, h => by
    simp only [chT, Bool.and_eq_true] at h
    exact st_tr (tr_truth (p.full h.1.1) p.prg) (chE_ok (.o1 kk a) p h.2) (sh_tr h.1.2)
  | .tr (.andV a b), X, W, k, m, p, e, h => by
    simp only [chT, Bool.and_eq_true] at h
    exact st_tr (tr_truth (p.full h.1.1) p.prg) (chE_ok (.andV a b) p h.2) (sh_tr h.1.2)
  | .tr (.orV a b), X, W, k, m, p, e, h => by
    simp only [chT, Bool.and_eq_true] at h
    exact st_tr (tr_truth (p.full h.1.1) p.prg) (chE_ok (.orV a b) p h.2) (sh_tr h.1.2)
  | .tr (.tst t), X, W, k, m, p, e, h => by
    simp only [chT, Bool.and_eq_true] at h
    exact st_tr (tr_truth (p.full h.1.1) p.prg) (chE_ok (.tst t) p h.2) (sh_tr h.1.2)
  | .tr (.ite t a b), X, W, k, m, p, e, h => by
    simp only [chT, Bool.and_eq_true] at h
    exact st_tr (tr_truth (p.full h.1.1) p.prg) (chE_ok (.ite t a b) p h.2) (sh_tr h.1.2)
  | .tr (.dsp kk as), X, W, k, m, p, e, h => by
    simp only [chT, Bool.and_eq_true] at h
    exact st_tr (tr_truth (p.full h.1.1) p.prg) (chE_ok (.dsp kk as) p h.2) (sh_tr h.1.2)
  | .tr (.call f as), X, W, k, m, p, e, h => by
    simp only [chT, Bool.and_eq_true] at h
    exact st_tr (tr_truth (p.full h.1.1) p.prg) (chE_ok (.call f as) p h.2) (sh_tr h.1.2)
  | .tr (.mk c as), X, W, k, m, p, e, h => by
    simp only [chT, Bool.and_eq_true] at h
    exact st_tr (tr_truth (p.full h.1.1) p.prg) (chE_ok (.mk c as) p h.2) (sh_tr h.1.2)
  | .tr (.bi kk as), X, W, k, m, p, e, h => by
    simp only [chT, Bool.and_eq_true] at h
    exact st_tr (tr_truth (p.full h.1.1) p.prg) (chE_ok (.bi kk as) p h.2) (sh_tr h.1.2)
  | .tr (.me n a as), X, W, k, m, p, e, h => by
    simp only [chT, Bool.and_eq_true] at h
    exact st_tr (tr_truth (p.full h.1.1) p.prg) (chE_ok (.me n a as) p h.2) (sh_tr h.1.2)
  | .tr (.bm kk a as), X, W, k, m, p, e, h => by
    simp only [chT, Bool.and_eq_true] at h
    exact st_tr (tr_truth (p.full h.1.1) p.prg) (chE_ok (.bm kk a as) p h.2) (sh_tr h.1.2)
  | .tr (.mkv a as), X, W, k, m, p, e, h => by
    simp only [chT, Bool.and_eq_true] at h
    exact st_tr (tr_truth (p.full h.1.1) p.prg) (chE_ok (.mkv a as) p h.2) (sh_tr h.1.2)
  | .tr (.meP n a as pm), X, W, k, m, p, e, h => by
    simp only [chT, Bool.and_eq_true] at h
    exact st_tr (tr_truth (p.full h.1.1) p.prg) (chE_ok (.meP n a as pm) p h.2) (sh_tr h.1.2)
  | .tr (.mkP c as pm), X, W, k, m, p, e, h => by
    simp only [chT, Bool.and_eq_true] at h
    exact st_tr (tr_truth (p.full h.1.1) p.prg) (chE_ok (.mkP c as pm) p h.2) (sh_tr h.1.2)
  | .tr (.callP f as pm), X, W, k, m, p, e, h => by
    simp only [chT, Bool.and_eq_true] at h
    exact st_tr (tr_truth (p.full h.1.1) p.prg) (chE_ok (.callP f as pm) p h.2) (sh_tr h.1.2)
  | .tr (.sl mt a lo hi), X, W, k, m, p, e, h => by
    simp only [chT, Bool.and_eq_true] at h
    exact st_tr (tr_truth (p.full h.1.1) p.prg) (chE_ok (.sl mt a lo hi) p h.2) (sh_tr h.1.2)
  | .tr (.cp mt it is ts a), X, W, k, m, p, e, h => by
    simp only [chT, Bool.and_eq_true] at h
    exact st_tr (tr_truth (p.full h.1.1) p.prg) (chE_ok (.cp mt it is ts a) p h.2) (sh_tr h.1.2)
  | .tr (.dct ks as), X, W, k, m, p, e, h => by
    simp only [chT, Bool.and_eq_true] at h
    exact st_tr (tr_truth (p.full h.1.1) p.prg) (chE_ok (.dct ks as) p h.2) (sh_tr h.1.2)
  | .tr (.hear g a), X, W, k, m, p, e, h => by
    simp only [chT, Bool.and_eq_true] at h
    exact st_tr (tr_truth (p.full h.1.1) p.prg) (chE_ok (.hear g a) p h.2) (sh_tr h.1.2)
  | .tr (.ask), X, W, k, m, p, e, h => by
    simp only [chT, Bool.and_eq_true] at h
    exact st_tr (tr_truth (p.full h.1.1) p.prg) (chE_ok (.ask) p h.2) (sh_tr h.1.2)
  | .and a b, X, W, k, m, p, e, h => by
    simp only [chT] at h
    split at h
    · simp only [Bool.and_eq_true] at h
      exact (sw_and (chT_ok a p h.1) (pw_and_one (chT_ok b p h.2))).pt
    · cases h
  | .or a b, X, W, k, m, p, e, h => by
    simp only [chT] at h
    split at h
    · simp only [Bool.and_eq_true] at h
      exact (sw_or (chT_ok a p h.1) (pw_or_one (chT_ok b p h.2))).pt
    · cases h
  | .not a, X, W, k, m, p, e, h => by
    simp only [chT] at h
    split at h
    · exact st_not (chT_ok a p h)
    · cases h
theorem chTs_ok : ∀ (il : Tes) {X : Cx} {W : WX} {k : Nat} {m : Md} (p : PlE B X T C q W k m) {es : List Expr}, chTs B m il es = true → PTs X es (tTs T B.P C q X.pn W il)
  | .nil, X, W, k, m, p, es, h => by
    cases es with
    | nil => exact sts_nil
    | cons e es => simp only [chTs] at h; cases h
  | .cons t .nil, X, W, k, m, p, es, h => by
    cases es with
    | nil => simp only [chTs] at h; cases h
    | cons e es =>
      cases es with
      | nil =>
        simp only [chTs] at h
        exact sts_one (chT_ok t p h)
      | cons e2 es => simp only [chTs] at h; cases h
  | .cons t (.cons t2 r), X, W, k, m, p, es, h => by
    simp only [chTs] at h
    cases h
theorem chI_ok : ∀ (il : It) {X : Cx} {W : WX} {k : Nat} {m : Md} (p : PlE B X T C q W k m) {tg : Expr} {many : Bool} {e : Expr}, chI B m il tg many e = true → PI X tg e (tI T B.P C q X.pn W il many)
  | .e a, X, W, k, m, p, tg, many, e, h => by
    simp only [chI] at h
    exact si_seq p.K (chE_ok a p h)
  | .rng (.cons a .nil), X, W, k, m, p, tg, many, e, h => by
    simp only [chI, Bool.and_eq_true] at h
    obtain ⟨hm, h⟩ := h
    split at h
    · simp only [Bool.and_eq_true, decide_eq_true_eq] at h
      obtain ⟨⟨⟨⟨h1, h2⟩, h3⟩, h4⟩, h5⟩ := h
      subst h2
      have e1 : many = false := by simpa using hm
      subst e1
      exact si_rng1 (glb_of h1 p.sc) (btB_of p h3) (chE_ok a p h5) (sh_star h4) (sh_star h4)
    · cases h
  | .rng (.cons a (.cons b .nil)), X, W, k, m, p, tg, many, e, h => by
    simp only [chI, Bool.and_eq_true] at h
    obtain ⟨hm, h⟩ := h
    split at h
    · simp only [Bool.and_eq_true, decide_eq_true_eq] at h
      obtain ⟨⟨⟨⟨⟨⟨h1, h2⟩, h3⟩, h4⟩, h5⟩, h6⟩, h7⟩ := h
      subst h2
      have e1 : many = false := by simpa using hm
      subst e1
      exact si_rng2 (glb_of h1 p.sc) (btB_of p h3) (chE_ok a p h6) (chE_ok b p h7) (by rw [sh_star h4, sh_star h5]; rfl) (sh_star h5) (sh_star h4) (sh_star h5)
    · cases h
  | .rng (.cons a (.cons b (.cons c0 .nil))), X, W, k, m, p, tg, many, e, h => by
    simp only [chI, Bool.and_eq_true] at h
    obtain ⟨hm, h⟩ := h
    split at h
    · simp only [Bool.and_eq_true, decide_eq_true_eq] at h
      obtain ⟨⟨⟨⟨⟨⟨⟨⟨h1, h2⟩, h3⟩, h4⟩, h5⟩, h6⟩, h7⟩, h8⟩, h9⟩ := h
      subst h2
      have e1 : many = false := by simpa using hm
      subst e1
      exact si_rng3 (glb_of h1 p.sc) (btB_of p h3) (chE_ok a p h7) (chE_ok b p h8) (chE_ok c0 p h9) (sh_star h4) (sh_any (by rw [List.all_cons, List.all_cons, h5, h6]; rfl)) (sh_star h5) (sh_star h6)
    · cases h
  | .rng .nil, X, W, k, m, p, tg, many, e, h => by
    simp only [chI] at h
    cases h
  | .rng (.star a r), X, W, k, m, p, tg, many, e, h => by
    simp only [chI] at h
    cases h
  | .rng (.cons a (.star b r)), X, W, k, m, p, tg, many, e, h => by
    simp only [chI] at h
    cases h
  | .rng (.cons a (.cons b (.star c r))), X, W, k, m, p, tg, many, e, h => by
    simp only [chI] at h
    cases h
  | .rng (.cons a (.cons b (.cons c (.cons d r)))), X, W, k, m, p, tg, many, e, h => by
    simp only [chI] at h
    cases h
  | .rng (.cons a (.cons b (.cons c (.star d r)))), X, W, k, m, p, tg, many, e, h => by
    simp only [chI] at h
    cases h
  | .zip a b, X, W, k, m, p, tg, many, e, h => by
    simp only [chI, Bool.and_eq_true] at h
    obtain ⟨⟨hm, ht⟩, h⟩ := h
    subst hm
    unfold isTup at ht
    split at ht
    · split at h
      · simp only [Bool.and_eq_true, decide_eq_true_eq] at h
        obtain ⟨⟨⟨⟨⟨⟨h1, h2⟩, h3⟩, h4⟩, h5⟩, h6⟩, h7⟩ := h
        subst h2
        exact si_zip p.K (glb_of h1 p.sc) (btB_of p h3) (chE_ok a p h6) (chE_ok b p h7) (sh_star h4) (sh_any (by rw [List.all_cons, h5]; rfl)) (sh_star h5)
      · cases h
    · cases ht
  | .enum a i, X, W, k, m, p, tg, many, e, h => by
    simp only [chI, Bool.and_eq_true] at h
    obtain ⟨⟨⟨hm, ht⟩, hi⟩, h⟩ := h
    subst hm
    obtain rfl := of_decide_eq_true hi
    unfold isTup at ht
    split at ht
    · split at h
      · simp only [Bool.and_eq_true, decide_eq_true_eq] at h
        obtain ⟨⟨⟨⟨h1, h2⟩, h3⟩, h4⟩, h5⟩ := h
        subst h2
        exact si_enum p.K (glb_of h1 p.sc) (btB_of p h3) (chE_ok a p h5) (sh_star h4)
      · cases h
    · cases ht
end
end
end BV

set_option Elab.async false
set_option maxRecDepth 100000
set_option maxHeartbeats 8000000
/-! BV46: statements against the text, by a Bool. -/
namespace BV
open PySem PySem.Spec PyProof.Rows
open L2 hiding St It

/-! ### stores that are swapped, or not -/
def namesOf (sc : Scope) (line : Nat) (ts : List Expr) : List Str := ts.filterMap fun
  | .Name id pos => if sc.names.lookup id == some .local && pos.line == line then some id else none
  | _ => none
def lineOf (ts : List Expr) : Nat := (ts.head?.map (·.pos.line)).getD 0
/-- no swap -/
def swNone (sc : Scope) (ts vs : List Expr) : Bool := !(ts.length == 2 || ts.length == 3) || vs.length != ts.length || !(vs.all notStar) || ((namesOf sc (lineOf ts) ts).length != ts.length || (namesOf sc (lineOf ts) ts).eraseDups.length != (namesOf sc (lineOf ts) ts).length) || vs.all (foldedForSure 8)
/-- a swap -/
def swSome (sc : Scope) (ts vs : List Expr) : Bool := (ts.length == 2 || ts.length == 3) && vs.length == ts.length && sc.kind == .function && vs.all notStar && (namesOf sc (lineOf ts) ts).length == ts.length && (namesOf sc (lineOf ts) ts).eraseDups.length == (namesOf sc (lineOf ts) ts).length && !(vs.all (foldedForSure 8)) && !(vs.all (constantsAlone 8))
theorem any_star {vs : List Expr} : (vs.any fun | .Starred .. => true | _ => false) = !(vs.all notStar) := by
  induction vs with
  | nil => rfl
  | cons e r ih =>
    rw [List.any_cons, List.all_cons, ih]
    cases e <;> rfl
theorem sw_none {env : PySem.Env} {ts vs : List Expr} {k k2 : Nat} {p p2 : Pos} (h : swNone env.scope ts vs = true) : swappedStores [.Tuple ts k p] (.Tuple vs k2 p2) env = pure none := by
  unfold swappedStores
  dsimp only
  erw [any_star]
  unfold swNone at h
  by_cases c1 : (!(ts.length == 2 || ts.length == 3) || vs.length != ts.length || env.blockKind != .function) = true
  · rw [if_pos c1] <;> rfl
  rw [if_neg c1]
  by_cases c2 : (!(vs.all notStar)) = true
  · rw [if_pos c2] <;> rfl
  rw [if_neg c2]
  have en : (ts.filterMap fun
    | .Name id pos => if env.kindOf id == some .local && pos.line == (ts.head?.map (·.pos.line)).getD 0 then some id else none
    | _ => none) = namesOf env.scope (lineOf ts) ts := rfl
  erw [en]
  by_cases c3 : ((namesOf env.scope (lineOf ts) ts).length != ts.length || (namesOf env.scope (lineOf ts) ts).eraseDups.length != (namesOf env.scope (lineOf ts) ts).length) = true
  · rw [if_pos c3] <;> rfl
  rw [if_neg c3]
  by_cases c4 : vs.all (foldedForSure 8) = true
  · rw [if_pos c4] <;> rfl
  exfalso
  simp only [Bool.not_eq_true] at c1 c2 c3 c4
  simp only [Bool.or_eq_false_iff] at c1
  rw [c1.1.1, c1.1.2, c2, c3, c4] at h
  cases h
theorem sw_some {env : PySem.Env} {ts vs : List Expr} {k k2 : Nat} {p p2 : Pos} (h : swSome env.scope ts vs = true) : swappedStores [.Tuple ts k p] (.Tuple vs k2 p2) env = pure (some (namesOf env.scope (lineOf ts) ts)) := by
  unfold swSome at h
  simp only [Bool.and_eq_true, beq_iff_eq, Bool.not_eq_true'] at h
  obtain ⟨⟨⟨⟨⟨⟨⟨h1, h2⟩, h3⟩, h4⟩, h5⟩, h6⟩, h7⟩, h8⟩ := h
  unfold swappedStores
  dsimp only
  erw [any_star]
  have hb : (env.blockKind != .function) = false := by unfold Env.blockKind; rw [h3]; rfl
  have en : (ts.filterMap fun
    | .Name id pos => if env.kindOf id == some .local && pos.line == (ts.head?.map (·.pos.line)).getD 0 then some id else none
    | _ => none) = namesOf env.scope (lineOf ts) ts := rfl
  erw [en]
  rw [hb, h1, h2, h4, h5, h6, h7, h8]
  simp
  exact fun hx => absurd h5 hx
/-- x = [..] within the block's end -/
def swCp (sc : Scope) (x : Str) (py : Pos) (v : Expr) : Bool := match v with
  | .ListComp _ _ scope pos => sc.kind == .function && lclB sc x && (py.line == pos.line) && !(scope.names.any fun (n, k) => n == x && (k == .local || k == .cell))
  | _ => false
/-- x = [..], x no plain local -/
def noSw (sc : Scope) (x : Str) (v : Expr) : Bool := noComp v || !(lclB sc x)
theorem sw_no {env : PySem.Env} {x : Str} {py : Pos} {v : Expr} {l : Nat} (h : noSw env.scope x v = true) : swapsWith v (some (.Name x py)) l env = pure false := by
  unfold noSw at h
  cases z : noComp v with
  | true => exact sh_swap z
  | false =>
    rw [z, Bool.false_or, Bool.not_eq_true'] at h
    have kx : (env.kindOf x == some .local) = false := by
      show (env.scope.names.lookup x == some .local) = false
      unfold lclB at h
      cases w : env.scope.names.lookup x with
      | none => rfl
      | some k =>
        rw [w] at h
        cases k <;> first | rfl | cases h
    unfold swapsWith
    cases v <;> first | rfl | (simp only [kx]; simp; rfl) | (simp [kx])

def strConst : Expr → Bool
  | .Constant (.str _) _ _ => true
  | _ => false
def isCp : E → Bool
  | .cp .. => true
  | _ => false

def someS : Option Nat → Bool
  | some (_ + 1) => true
  | _ => false
def pairB : List Nat → Bool
  | [i, j] => decide (i ≠ j)
  | _ => false
def tg1B (B : Tb) (m : Md) : Tg1 → Expr → Bool
  | .nm i, .Name x _ => stoB m i x
  | .sub a i, .Subscript o j _ => notSlice j && chE B m a o && chE B m i j
  | _, _ => false
def tg1sB (B : Tb) (m : Md) : List Tg1 → List Expr → Bool
  | [], [] => true
  | t :: ts, e :: es => tg1B B m t e && tg1sB B m ts es
  | _, _ => false
mutual
def chS (B : Tb) (m : Md) : Sm → Stmt → Bool
  | .asg i a, st => (match st with
    | .Assign [.Name x py] v _ => stoB m i x && chE B m a v && (noSw m.sc x v || (swCp m.sc x py v && isCp a && m.full))
    | _ => false)
  | .asgs is a, st => m.full && (match st with
    | .Assign [.Tuple es _ _] v _ => tgsB m is es && !(isTup v) && chE B m a v
    | _ => false)
  | .par is as, st => m.full && (match st with
    | .Assign [.Tuple es _ _] (.Tuple vs _ _) _ => tgsB m is es && chA B m as vs && decide (is.length ≤ 1000) && (swNone m.sc es vs || (swSome m.sc es vs && pairB is))
    | _ => false)
  | .fld a n b, st => (match st with
    | .Assign [.Attribute o f _] v _ => decide (f = B.nm n) && chE B m a o && chE B m b v
    | _ => false)
  | .sub a b c, st => (match st with
    | .Assign [.Subscript o i _] v _ => notSlice i && chE B m a o && chE B m b i && chE B m c v
    | _ => false)
  | .aug i k a, st => m.full && (match st with
    | .AugAssign (.Name x _) op v _ => stoB m i x && chE B m a v && decide (augOp k = some op)
    | _ => false)
  | .augF _ _ _ _, _ => false
  | .ex a, st => (match st with
    | .Expr v _ => noComp v && chE B m a v
    | _ => false)
  | .ret a, st => (match st with
    | .Return (some v) _ => chE B m a v
    | .Return none _ => (match a with
      | .c .non => true
      | _ => false)
    | _ => false)
  | .ifs t a b, st => (match st with
    | .If c x y _ => chT B m t c && chSs B m a x && chSs B m b y
    | _ => false)
  | .whl _ t a, st => m.full && (match st with
    | .While c x [] _ => chT B m t c && chSs B m a x
    | _ => false)
  | .for is it a, st => m.full && (match st with
    | .For tg iter body [] _ => tgB m is tg && notSet iter && chI B m it tg (is.length != 1) iter && chSs B m a body
    | _ => false)
  | .raise c as, st => m.full && (match st with
    | .Raise (some (.Call (.Name x _) (e :: es) [] _)) none _ => glbB m.sc x && ndb x && B.clB x c && someS (B.ex.lookup c) && (e :: es).all notStar && chA B m as (e :: es)
    | _ => false)
  | .try a hs, st => m.full && (match st with
    | .Try body (h0 :: hds) [] [] _ => chSs B m a body && chH B m hs (h0 :: hds)
    | _ => false)
  | .brk, st => (match st with
    | .Break _ => true
    | _ => false)
  | .cont, st => (match st with
    | .Continue _ => true
    | _ => false)
  | .sto ts as, st => m.full && (match st with
    | .Assign [.Tuple es _ _] (.Tuple vs _ _) _ => tg1sB B m ts es && chA B m as vs && decide (ts.length ≤ 1000) && swNone m.sc es vs
    | _ => false)
  | .pass, st => (match st with
    | .Pass _ => true
    | .Expr (.Constant (.str _) _ _) _ => true
    | _ => false)
def chSs (B : Tb) (m : Md) : Ss → List Stmt → Bool
  | .nil, [] => true
  | .cons s r, st :: sts => chS B m s st && chSs B m r sts
  | _, _ => false
def chH (B : Tb) (m : Md) : Hs → List ExceptHandler → Bool
  | .nil, [] => true
  | .cons c i b r, h :: hs => (match h with
    | .ExceptHandler (some (.Name x _)) nm (st :: sts) _ => glbB m.sc x && ndb x && B.clB x c && (match i, nm with
      | none, none => true
      | some i, some n => decide (m.N[i]? = some n) && lclB m.sc n
      | _, _ => false) && chSs B { m with full := false } b (st :: sts)
    | _ => false) && chH B m r hs
  | _, _ => false
end
end BV

set_option Elab.async false
set_option maxRecDepth 100000
set_option maxHeartbeats 8000000
/-! BV47: what the Bool tells of statements. -/
namespace BV
open PySem PySem.Spec PyProof.Rows
open L2 hiding St It

/-- what is known of a place where statements stand -/
structure PlS (B : Tb) (X : Cx) (T : Ad) (C : Caller) (q : Asker) (W : WX) (k : Nat) (m : Md) : Prop where
  e : PlE B X T C q W k m
  ps : m.full = true → PassesOwn (model X.prog X.w) X.A X.env X.xe
  st : m.full = true → X.stack = X.env :: X.outer
  fr : m.full = true → X.env.frame = some X.env.locals
  one : m.full = true → 1 ≤ k
  err : m.full = true → ∀ c n, B.P.exc c = some n → n ≠ 0 → ErrC X.prog X.w X.K X.mg X.base T c n
section
variable {B : Tb} {X : Cx} {T : Ad} {C : Caller} {q : Asker} {W : WX} {k : Nat} {m : Md}
theorem PlE.gl' (p : PlE B X T C q W k m) {X' : Cx} (e1 : X'.mg = X.mg) (e2 : X'.K = X.K) : ∀ x g, B.gl.lookup x = some g → GkOk X' T x g := fun x g h => by
  have z := p.gl x g h
  cases g with
  | fn f => exact ⟨by rw [e1]; exact z.1, by rw [e2]; exact z.2⟩
  | cls c => exact (congrFun e1 x).trans z
  | con d =>
    obtain ⟨v, u, z1, z2, z3⟩ := z
    exact ⟨v, u, (congrFun e1 x).trans z1, z2, z3⟩
  | bt => exact (congrFun e1 x).trans z
theorem PlS.tr (p : PlS B X T C q W k m) {V : WX} {pn : List (Addr × Obj)} {xe : Value → Shared → Prop} (tk : Takes (X.tr pn xe) V) (hp : PassesOwn (model X.prog X.w) X.A X.env xe) : PlS B (X.tr pn xe) T C q V k m where
  e := {
    K := p.e.K
    prg := p.e.prg
    on := p.e.on
    qt := p.e.qt
    N := p.e.N
    nd := p.e.nd
    sc := p.e.sc
    fn := p.e.fn
    gl := p.e.gl' rfl rfl
    plain := p.e.plain
    gd := p.e.gd
    un := p.e.un
    full := fun h => ⟨(p.e.full h).K, tk, (p.e.full h).room, (p.e.full h).calls, (p.e.full h).calm, (p.e.full h).rf⟩
    kwf := p.e.kwf
    kw := p.e.kw
    lam := p.e.lam
    ask := p.e.ask }
  ps := fun _ => hp
  st := p.st
  fr := p.fr
  one := p.one
  err := p.err
theorem PlS.suite (p : PlS B X T C q W k m) (a : Addr) (pn : List (Addr × Obj)) : PlS B (X.suite a pn) T C q W0 k { m with full := false } where
  e := {
    K := p.e.K
    prg := p.e.prg
    on := p.e.on
    qt := p.e.qt
    N := p.e.N
    nd := p.e.nd
    sc := p.e.sc
    fn := p.e.fn
    gl := p.e.gl' rfl rfl
    plain := fun f h => Plain.gd (p.e.plain f h) rfl
    gd := fun h => p.e.gd h
    un := p.e.un
    full := fun h => by cases h
    kwf := fun _ h => by cases h
    kw := p.e.kw
    lam := fun _ h => by cases h
    ask := fun _ h => by cases h }
  ps := fun h => by cases h
  st := fun h => by cases h
  fr := fun h => by cases h
  one := fun h => by cases h
  err := fun h => by cases h
theorem sh_sub {o i : Expr} {pos : Pos} {env : PySem.Env} (h : notSlice i = true) : ∀ v, assign (.Subscript o i pos) env v = (do
      let ov ← holding [v] (eval o env)
      let iv ← holding [v, ov] (eval i env)
      standAt pos
      holding [v, ov, iv] (setItem ov iv v)
      release [v, ov, iv] []) := fun v => by cases i <;> first | rfl | cases h
theorem sh_swT {es : List Expr} {kk : Nat} {tp : Pos} {v : Expr} {env : PySem.Env} (h : isTup v = false) : swappedStores [.Tuple es kk tp] v env = pure none := by cases v <;> first | rfl | cases h
theorem sh_swU {o i : Expr} {tp : Pos} {v : Expr} {env : PySem.Env} : swappedStores [.Subscript o i tp] v env = pure none := by cases v <;> rfl
/-- the parts of a comprehension that was looked at -/
theorem cp_parts {mt : Bool} {it : It} {is : List Nat} {ts : Tes} {a : E} {v : Expr} (p : PlE B X T C q W k m) (h : chE B m (.cp mt it is ts a) v = true) : ∃ elt tg iter ifs scope pos xs, v = .ListComp elt [⟨tg, iter, ifs, 0⟩] scope pos ∧ ((xs : List Str).zip is).map (·.2) = is ∧
    PI X tg iter (tI T B.P C q X.pn W it (is.length != 1)) ∧ BlkOk X.N X.env.scope scope (xs.zip is) ∧
    (∀ (s : Shared) (H : Hp) (D : Addr) (cl : List (Str × Addr)) (fp : List Addr), PG (X.blk s H scope (compEnvC scope cl D X.env) fp) tg (gTg X.K is (is.length != 1))) ∧
    (∀ (s : Shared) (H : Hp) (D : Addr) (cl : List (Str × Addr)) (fp : List Addr), PTs (X.blk s H scope (compEnvC scope cl D X.env) fp) ifs (tTs T B.P C q [] W0 ts)) ∧
    (∀ (s : Shared) (H : Hp) (D : Addr) (cl : List (Str × Addr)) (fp : List Addr), PE (X.blk s H scope (compEnvC scope cl D X.env) fp) elt (tE T B.P C q [] W0 a)) ∧ ∀ x, foldedSetIterable iter X.env x = pure x := by
  simp only [chE, Bool.and_eq_true] at h
  obtain ⟨hf, h⟩ := h
  have c := p.full hf
  split at h
  · rename_i elt tg iter ifs scope p2
    split at h
    · rename_i xs hxs
      simp only [Bool.and_eq_true, decide_eq_true_eq] at h
      obtain ⟨⟨⟨⟨⟨⟨h1, h2⟩, h3⟩, h4⟩, h5⟩, h6⟩, h7⟩ := h
      have ok : BlkOk X.N X.env.scope scope (xs.zip is) := blkOk_by (by rw [p.N, p.sc]; exact h2)
      exact ⟨elt, tg, iter, ifs, scope, p2, xs, rfl, tgNames_len hxs h1, chI_ok it p h5, ok, fun s H D cl fp => ck_tg (p.blk s H scope cl D fp) c.calm h4, fun s H D cl fp => chTs_ok ts (p.blk s H scope cl D fp) h6, fun s H D cl fp => chE_ok a (p.blk s H scope cl D fp) h7, sh_set h3⟩
    · cases h
  · cases h
theorem ck_asg (p : PlS B X T C q W k m) {i : Nat} {a : E} {x : Str} {py pos : Pos} {v : Expr} (h1 : stoB m i x = true) (h2 : chE B m a v = true) (h3 : (noSw m.sc x v || (swCp m.sc x py v && isCp a && m.full)) = true) : PS X (.Assign [.Name x py] v pos) (tS T B.P C q X.pn W (.asg i a)) := by
  have nd : X.N.Nodup := by rw [p.e.N]; exact p.e.nd
  obtain ⟨a1, a2, a3⟩ := sto_of p.e h1
  cases z : noSw m.sc x v with
  | true => exact ss_asg nd a1 a2 (chE_ok a p.e h2) (sw_no (by rw [p.e.sc]; exact z)) a3
  | false =>
    rw [z, Bool.false_or] at h3
    simp only [Bool.and_eq_true] at h3
    obtain ⟨⟨s1, s2⟩, hf⟩ := h3
    have c := p.e.full hf
    cases a <;> first | exact absurd (show false = true from s2) (by decide) | skip
    obtain ⟨elt, tg, iter, ifs, scope, p2, xs, ev, b1, b2, b3, b4, b5, b6, b7⟩ := cp_parts p.e h2
    subst ev
    unfold swCp at s1
    simp only [Bool.and_eq_true, Bool.not_eq_true', beq_iff_eq] at s1
    obtain ⟨⟨⟨k1, k2⟩, k3⟩, k4⟩ := s1
    have hl := lcl_of (X := X) k2 p.e.sc
    exact ss_asgC p.e.K c.calm nd b1 b2 b3 a1 hl (sw_true (by rw [p.e.sc]; exact k1) hl (by simpa using k3) k4) b4 b5 b6 b7
theorem ck_par (p : PlS B X T C q W k m) (hf : m.full = true) {is : List Nat} {as : As} {es vs : List Expr} {kk k2 : Nat} {tp p2 pos : Pos} (h1 : tgsB m is es = true) (h2 : chA B m as vs = true) (h3 : is.length ≤ 1000) (h4 : (swNone m.sc es vs || (swSome m.sc es vs && pairB is)) = true) : PS X (.Assign [.Tuple es kk tp] (.Tuple vs k2 p2) pos) (tS T B.P C q X.pn W (.par is as)) := by
  have nd : X.N.Nodup := by rw [p.e.N]; exact p.e.nd
  have c := p.e.full hf
  obtain ⟨g1, g2, g3⟩ := ck_tgs p.e h1
  obtain ⟨z1, z2⟩ := sh_tgs (env := X.env) g3
  have ha := chA_ok as p.e h2
  cases z : swNone m.sc es vs with
  | true => exact ss_parN p.e.K c.calm g1 ha h3 (z1.trans g2) z2 sh_swap2 (sw_none (by rw [p.e.sc]; exact z))
  | false =>
    rw [z, Bool.false_or, Bool.and_eq_true] at h4
    obtain ⟨s1, s2⟩ := h4
    have hw : swappedStores [.Tuple es kk tp] (.Tuple vs k2 p2) X.env = pure (some (namesOf X.env.scope (lineOf es) es)) := sw_some (by rw [p.e.sc]; exact s1)
    unfold pairB at s2
    split at s2
    · rename_i i j
      have hij := of_decide_eq_true s2
      match es, g2 with
      | [e1, e2], _ =>
        unfold tgsB at h1
        split at h1
        · rename_i heq1 heq2; cases heq2
        · rename_i i0 is0 x0 px0 es0 heq1 heq2
          cases heq1
          cases heq2
          obtain ⟨t1, t2⟩ := Bool.and_eq_true_iff.mp h1
          unfold tgsB at t2
          split at t2
          · rename_i heq1 heq2; cases heq2
          · rename_i i1 is1 y0 py0 es1 heq1 heq2
            cases heq1
            cases heq2
            obtain ⟨t3, _⟩ := Bool.and_eq_true_iff.mp t2
            obtain ⟨a1, a2, a3⟩ := sto_of p.e t1
            obtain ⟨b1, b2, b3⟩ := sto_of p.e t3
            have s0 := s1
            unfold swSome at s1
            simp only [Bool.and_eq_true, beq_iff_eq, Bool.not_eq_true'] at s1
            obtain ⟨⟨⟨⟨⟨⟨⟨_, l2⟩, _⟩, _⟩, l5⟩, _⟩, _⟩, _⟩ := s1
            have nm : namesOf m.sc (lineOf [.Name x0 px0, .Name y0 py0]) [.Name x0 px0, .Name y0 py0] = [x0, y0] ∧ m.sc.names.lookup x0 = some .local ∧ m.sc.names.lookup y0 = some .local := by
              unfold namesOf at l5 ⊢
              simp only [List.filterMap_cons, List.filterMap_nil] at l5 ⊢
              cases q1 : (m.sc.names.lookup x0 == some .local && px0.line == lineOf [.Name x0 px0, .Name y0 py0]) with
              | true =>
                cases q2 : (m.sc.names.lookup y0 == some .local && py0.line == lineOf [.Name x0 px0, .Name y0 py0]) with
                | true =>
                  rw [Bool.and_eq_true] at q1 q2
                  refine ⟨by simp, eq_of_beq q1.1, eq_of_beq q2.1⟩
                | false => rw [q1, q2] at l5; simp at l5
              | false =>
                cases q2 : (m.sc.names.lookup y0 == some .local && py0.line == lineOf [.Name x0 px0, .Name y0 py0]) with
                | true => rw [q1, q2] at l5; simp at l5
                | false => rw [q1, q2] at l5; simp at l5
            match vs, l2 with
            | [v1, v2], _ =>
              rw [p.e.sc, nm.1] at hw
              exact ss_par2 c.calm nd a1 b1 hij (by rw [p.e.sc]; exact nm.2.1) (by rw [p.e.sc]; exact nm.2.2) ha hw sh_swap2
          · cases t2
        · cases h1
    · cases s2
end
section
variable {B : Tb} {X : Cx} {T : Ad} {C : Caller} {q : Asker} {W : WX} {k : Nat} {m : Md}
theorem ck_tg1s (p : PlS B X T C q W k m) : ∀ {ts : List Tg1} {es : List Expr}, tg1sB B m ts es = true → PGs X es (gTs T B.P C q X.pn W ts) ∧ es.length = ts.length ∧ es.all notStar = true
  | [], [], _ => ⟨pgs_nil, rfl, rfl⟩
  | [], _ :: _, h => by cases h
  | t :: ts, [], h => by cases h
  | t :: ts, e :: es, h => by
    obtain ⟨h1, h2⟩ := Bool.and_eq_true_iff.mp (show (tg1B B m t e && tg1sB B m ts es) = true from h)
    obtain ⟨b1, b2, b3⟩ := ck_tg1s p h2
    unfold tg1B at h1
    split at h1
    · obtain ⟨a1, a2, a3⟩ := sto_of p.e h1
      refine ⟨pgs_cons (t := gT1 T B.P C q X.pn W (.nm _)) (pg_name (by rw [p.e.N]; exact p.e.nd) a1 a2 a3) b1 rfl, by rw [List.length_cons, List.length_cons, b2], ?_⟩
      rw [List.all_cons, b3]
      rfl
    · simp only [Bool.and_eq_true] at h1
      refine ⟨pgs_cons (t := gT1 T B.P C q X.pn W (.sub _ _)) (sg_sub (chE_ok _ p.e h1.1.2) (chE_ok _ p.e h1.2) (sh_sub h1.1.1)) b1 rfl, by rw [List.length_cons, List.length_cons, b2], ?_⟩
      rw [List.all_cons, b3]
      rfl
    · cases h1
end
section
variable {B : Tb} {T : Ad} {C : Caller} {q : Asker}
mutual
theorem chS_ok : ∀ (il : Sm) {X : Cx} {W : WX} {k : Nat} {m : Md} (p : PlS B X T C q W k m) {st : Stmt}, chS B m il st = true → PS X st (tS T B.P C q X.pn W il)
  | .asg i a, X, W, k, m, p, st, h => by
    simp only [chS] at h
    split at h
    · simp only [Bool.and_eq_true] at h
      exact ck_asg p h.1.1 h.1.2 h.2
    · cases h
  | .asgs is a, X, W, k, m, p, st, h => by
    simp only [chS, Bool.and_eq_true] at h
    obtain ⟨hf, h⟩ := h
    have c := p.e.full hf
    split at h
    · simp only [Bool.and_eq_true, Bool.not_eq_true'] at h
      obtain ⟨g1, g2, g3⟩ := ck_tgs p.e h.1.1
      obtain ⟨z1, z2⟩ := sh_tgs (env := X.env) g3
      exact ss_asgs p.e.K c.calm g1 (chE_ok a p.e h.2) (z1.trans g2) z2 sh_swap2 (sh_swT h.1.2)
    · cases h
  | .par is as, X, W, k, m, p, st, h => by
    simp only [chS, Bool.and_eq_true] at h
    obtain ⟨hf, h⟩ := h
    split at h
    · simp only [Bool.and_eq_true, decide_eq_true_eq] at h
      exact ck_par p hf h.1.1.1 h.1.1.2 h.1.2 h.2
    · cases h
  | .fld a n b, X, W, k, m, p, st, h => by
    simp only [chS] at h
    split at h
    · simp only [Bool.and_eq_true, decide_eq_true_eq] at h
      exact ss_fld p.e.K p.e.prg (by rw [p.e.on]; exact h.1.1) (chE_ok a p.e h.1.2) (chE_ok b p.e h.2) sh_swapA
    · cases h
  | .sub a b c, X, W, k, m, p, st, h => by
    simp only [chS] at h
    split at h
    · simp only [Bool.and_eq_true] at h
      exact ss_sub (sg_sub (chE_ok a p.e h.1.1.2) (chE_ok b p.e h.1.2) (sh_sub h.1.1.1)) (chE_ok c p.e h.2) sh_swapS sh_swU
    · cases h
  | .aug i kk a, X, W, k, m, p, st, h => by
    simp only [chS, Bool.and_eq_true] at h
    obtain ⟨hf, h⟩ := h
    split at h
    · simp only [Bool.and_eq_true, decide_eq_true_eq] at h
      obtain ⟨⟨h1, h2⟩, h3⟩ := h
      have nd : X.N.Nodup := by rw [p.e.N]; exact p.e.nd
      obtain ⟨a1, a2, a3⟩ := sto_of p.e h1
      exact ss_aug (p.e.full hf) p.e.prg (by have := p.e.un; omega) h3 nd a1 a2 (chE_ok a p.e h2) a3
    · cases h
  | .augF a n kk b, X, W, k, m, p, st, h => by
    simp only [chS] at h
    cases h
  | .ex a, X, W, k, m, p, st, h => by
    simp only [chS] at h
    split at h
    · simp only [Bool.and_eq_true] at h
      exact ss_ex (chE_ok a p.e h.2) (sh_swap h.1)
    · cases h
  | .ret a, X, W, k, m, p, st, h => by
    simp only [chS] at h
    split at h
    · exact ss_ret (chE_ok a p.e h)
    · split at h
      · exact ss_retN
      · cases h
    · cases h
  | .ifs t a b, X, W, k, m, p, st, h => by
    simp only [chS] at h
    split at h
    · simp only [Bool.and_eq_true] at h
      exact ss_if (chT_ok t p.e h.1.1) (chSs_ok a p h.1.2) (chSs_ok b p h.2)
    · cases h
  | .whl fu t a, X, W, k, m, p, st, h => by
    simp only [chS, Bool.and_eq_true] at h
    obtain ⟨hf, h⟩ := h
    split at h
    · simp only [Bool.and_eq_true] at h
      exact ss_whl (p.ps hf) (chT_ok t p.e h.1) (chSs_ok a p h.2)
    · cases h
  | .for is it a, X, W, k, m, p, st, h => by
    simp only [chS, Bool.and_eq_true] at h
    obtain ⟨hf, h⟩ := h
    have c := p.e.full hf
    split at h
    · simp only [Bool.and_eq_true] at h
      obtain ⟨⟨⟨h1, h2⟩, h3⟩, h4⟩ := h
      exact ss_for p.e.K (p.ps hf) c.calm (chI_ok it p.e h3) (ck_tg p.e c.calm h1) (chSs_ok a p h4) (sh_set h2)
    · cases h
  | .raise cn as, X, W, k, m, p, st, h => by
    simp only [chS, Bool.and_eq_true] at h
    obtain ⟨hf, h⟩ := h
    have c := p.e.full hf
    split at h
    · rename_i x p1 e es p2 p3
      simp only [Bool.and_eq_true] at h
      obtain ⟨⟨⟨⟨⟨h1, h2⟩, h3⟩, h4⟩, h5⟩, h6⟩ := h
      obtain ⟨n, hn, n0⟩ : ∃ n, B.ex.lookup cn = some n ∧ n ≠ 0 := by
        unfold someS at h4
        split at h4
        · rename_i n hn
          exact ⟨n + 1, hn, by omega⟩
        · cases h4
      have hs := h5
      rw [List.all_cons, Bool.and_eq_true] at hs
      exact ss_raise c (p.one hf) hn (p.err hf cn n hn n0) (glb_of h1 p.e.sc) (clB_of p.e h3) (chA_ok as p.e h6) (ndb_of h2).1 (sh_star hs.1) (sh_any hs.2)
    · cases h
  | .try a hs, X, W, k, m, p, st, h => by
    simp only [chS, Bool.and_eq_true] at h
    obtain ⟨hf, h⟩ := h
    have c := p.e.full hf
    split at h
    · simp only [Bool.and_eq_true] at h
      exact ss_try p.e.K p.e.prg (p.st hf) (p.fr hf) (by rw [p.e.N]; exact p.e.nd) c.tk (fun V pn xe tk hp => chSs_ok a (p.tr tk hp) h.1) (chH_ok hs p h.2)
    · cases h
  | .brk, X, W, k, m, p, st, h => by
    simp only [chS] at h
    split at h
    · exact ss_brk
    · cases h
  | .cont, X, W, k, m, p, st, h => by
    simp only [chS] at h
    split at h
    · exact ss_cont
    · cases h
  | .sto ts as, X, W, k, m, p, st, h => by
    simp only [chS, Bool.and_eq_true] at h
    obtain ⟨hf, h⟩ := h
    split at h
    · simp only [Bool.and_eq_true, decide_eq_true_eq] at h
      obtain ⟨⟨⟨h1, h2⟩, h3⟩, h4⟩ := h
      obtain ⟨g1, g2, g3⟩ := ck_tg1s p h1
      obtain ⟨z1, z2⟩ := sh_tgs (env := X.env) g3
      exact ss_sto (p.e.full hf).calm g1 (chA_ok as p.e h2) h3 (z1.trans g2) z2 sh_swap2 (sw_none (by rw [p.e.sc]; exact h4))
    · cases h
  | .pass, X, W, k, m, p, st, h => by
    simp only [chS] at h
    split at h
    · exact ss_pass
    · exact ss_doc
    · cases h
theorem chSs_ok : ∀ (il : Ss) {X : Cx} {W : WX} {k : Nat} {m : Md} (p : PlS B X T C q W k m) {st : List Stmt}, chSs B m il st = true → PSs X st (tSs T B.P C q X.pn W il)
  | .nil, X, W, k, m, p, st, h => by
    cases st with
    | nil => exact ss_nil
    | cons a b => simp only [chSs] at h; cases h
  | .cons s r, X, W, k, m, p, st, h => by
    cases st with
    | nil => simp only [chSs] at h; cases h
    | cons a b =>
      simp only [chSs, Bool.and_eq_true] at h
      exact ss_cons (chS_ok s p h.1) (chSs_ok r p h.2)
theorem chH_ok : ∀ (il : Hs) {X : Cx} {W : WX} {k : Nat} {m : Md} (p : PlS B X T C q W k m) {hds : List ExceptHandler}, chH B m il hds = true → ClsOk X hds (clOf T B.P C q il)
  | .nil, X, W, k, m, p, hds, h => by
    cases hds with
    | nil => exact .nil
    | cons a b => simp only [chH] at h; cases h
  | .cons cn i b r, X, W, k, m, p, hds, h => by
    cases hds with
    | nil => simp only [chH] at h; cases h
    | cons a t =>
      simp only [chH, Bool.and_eq_true] at h
      obtain ⟨h, hr⟩ := h
      split at h
      · rename_i x p1 nm st sts p2
        simp only [Bool.and_eq_true] at h
        obtain ⟨⟨⟨⟨h1, h2⟩, h3⟩, h4⟩, h5⟩ := h
        have n : Names X x (.ref (T.ca cn)) := ⟨glb_of h1 p.e.sc, (ndb_of h2).1, .inl (clB_of p.e h3)⟩
        have su : ∀ (a : Addr) (oe : Obj) (cls : Value) (d : Option Addr) (pn : List (Addr × Obj)), Zc cls d oe → (∃ vs, oe.data = .fields vs) → PSs (X.suite a ((a, oe) :: pn)) (st :: sts) (tSuite T B.P C q i b a cls d) := fun a oe cls d pn hz hd =>
          sb_suite hz hd (chSs_ok b (p.suite a ((a, oe) :: pn)) h5)
        split at h4
        · exact .plain (k := ⟨.ref (T.ca cn), none, tSuite T B.P C q none b⟩) n rfl su (chH_ok r p hr)
        · rename_i j nm2
          simp only [Bool.and_eq_true, decide_eq_true_eq] at h4
          exact .named (k := ⟨.ref (T.ca cn), some j, tSuite T B.P C q (some j) b⟩) n rfl (by rw [p.e.N]; exact h4.1) (lcl_of h4.2 p.e.sc) su (chH_ok r p hr)
        · cases h4
      · cases h
end
end
end BV

set_option Elab.async false
set_option maxRecDepth 100000
set_option maxHeartbeats 8000000
/-! BV48: a law's tables; what the head's heap must tell of them; classes. -/
namespace BV
open PySem PySem.Spec PyProof.Rows
open L2 hiding St It
open He (ga ma fAd ba)

/-- where a def stands: a global, a method, a property's getter, a classmethod -/
inductive At where
  | glo (x : Str) | me (C m : Str) | pr (C m : Str) | cm (C m : Str)
structure Row where
  at_ : At
  N : List Str
  /-- it holds a lambda -/
  lam : Bool
structure Tx where
  B : Tb
  cn : List Str
  fl : List (List Str)
  rows : List (Option Row)
  lams : List (He.Defn × Str)
def At.adr (K : PySem.W.Frag) : At → Addr
  | .glo x => ga K x
  | .me C m => ma K (ga K C) m
  | .pr C m => (match PySem.W.recIn K (ma K (ga K C) m) "property" with
    | some (.ref g :: _) => g
    | _ => 0)
  | .cm C m => (match PySem.W.recIn K (ma K (ga K C) m) "classmethod" with
    | some (.ref g :: _) => g
    | _ => 0)
def caL (K : PySem.W.Frag) (l : List Str) : List Addr := l.map (ga K)
def caOf (l : List Addr) (c : Nat) : Addr := match l[c]? with
  | some a => a
  | none => l.sum + 1 + c
def faOf (K : PySem.W.Frag) (rows : List (Option Row)) (f : Nat) : Addr := match rows[f]? with
  | some (some r) => r.at_.adr K
  | _ => 0
/-- the places -/
def Tx.T (X : Tx) (K : PySem.W.Frag) : Ad where
  K := K
  ca := caOf (caL K X.cn)
  fa := faOf K X.rows
  fl c := (X.fl[c]?).getD []
  tb := X.lams.map fun p => ((He.cT K p.1).2, p.2)
  on i := (X.B.on[i - 30]?).getD "__none__"
  qt := X.B.qt
  am := fun _ => False
  sl := none
theorem Tx.nm (X : Tx) (K : PySem.W.Frag) (i : Nat) : (X.T K).nm i = X.B.nm i := rfl

/-! ### classes -/
def clsOB (K : PySem.W.Frag) (C : Addr) : Bool :=
  PySem.W.plainGet K C Str.empty && PySem.W.hasDictIn K C && PySem.W.plainOver K C && decide (PySem.W.findIn K (.ref C) "__setattr__" = some (some (.builtin "object.__setattr__"))) &&
  decide (PySem.W.findIn K (.ref C) "__class__" = some (some (.builtin "object.__class__"))) && decide (PySem.W.specialIn K (.builtin "object.__class__") "__get__" = some (some (.builtin "getset_descriptor.__get__"))) &&
  decide (PySem.W.takesIn K (.builtin "object.__class__") = some true) && decide (PySem.W.mroIn K C (.type "object") = some true)
theorem clsOB_ok {K : PySem.W.Frag} {C : Addr} (h : clsOB K C = true) : ClsO K C := by
  unfold clsOB at h
  simp only [Bool.and_eq_true, decide_eq_true_eq] at h
  obtain ⟨⟨⟨⟨⟨⟨⟨h1, h2⟩, h3⟩, h4⟩, h5⟩, h6⟩, h7⟩, h8⟩ := h
  exact ⟨⟨h1, h2, h3, h4⟩, h5, h6, h7, h8⟩
def mkB (K : PySem.W.Frag) (C f : Addr) : Bool := PySem.W.makesIn K C && decide (PySem.W.findIn K (.ref C) "__init__" = some (some (.ref f))) && PySem.W.isFn K (.ref f) && PySem.W.keepIn K (.ref C)
theorem mkB_ok {K : PySem.W.Frag} {C f : Addr} (h : mkB K C f = true) : Mk K C f := by
  unfold mkB at h
  simp only [Bool.and_eq_true, decide_eq_true_eq] at h
  exact ⟨h.1.1.1, h.1.1.2, h.1.2, h.2⟩
def methB (K : PySem.W.Frag) (C : Addr) (m : Str) (f : Addr) : Bool := decide (PySem.W.findIn K (.ref C) m = some (some (.ref f))) && PySem.W.isFn K (.ref f) && PySem.W.keepIn K (.ref f)
theorem methB_ok {K : PySem.W.Frag} {C f : Addr} {m : Str} (h : methB K C m f = true) : Meth K C m f := by
  unfold methB at h
  simp only [Bool.and_eq_true, decide_eq_true_eq] at h
  exact ⟨h.1.1, h.1.2, h.2⟩
def propB (K : PySem.W.Frag) (C : Addr) (m : Str) (g : Addr) : Bool := match PySem.W.findIn K (.ref C) m with
  | some (some (.ref p)) => decide (PySem.W.specialIn K (.ref p) "__get__" = some (some (.builtin "property.__get__"))) && decide (PySem.W.takesIn K (.ref p) = some true) && (match PySem.W.recIn K p "property" with
    | some (.ref h :: _) => decide (h = g)
    | _ => false)
  | _ => false
theorem propB_ok {K : PySem.W.Frag} {C g : Addr} {m : Str} (h : propB K C m g = true) : ∃ p, PropOf K C m p g := by
  unfold propB at h
  split at h
  · rename_i p hp
    simp only [Bool.and_eq_true, decide_eq_true_eq] at h
    obtain ⟨⟨h1, h2⟩, h3⟩ := h
    split at h3
    · rename_i g' rest hr
      have e := of_decide_eq_true h3
      subst e
      exact ⟨p, hp, h1, h2, rest, hr⟩
    · cases h3
  · cases h
/-- a value of the text for a datum -/
def rpB (K : PySem.W.Frag) : D → Value → Bool
  | .non, .none => true
  | .bl a, .bool b => a == b
  | .int a, .int b _ => decide (a = b)
  | .str a, .str b _ => decide (a = b)
  | .tup l, .ref a => (match K.lookup a with
    | some ⟨.type c, _, .seq its _, _⟩ => decide (c = "tuple") && decide (its.size ≤ sizeLine) && rpBs l its.toList
    | _ => false)
  | _, _ => false
where rpBs : List D → List Value → Bool
  | [], [] => true
  | .non :: l, .none :: r => rpBs l r
  | .bl a :: l, .bool b :: r => (a == b) && rpBs l r
  | .int a :: l, .int b _ :: r => decide (a = b) && rpBs l r
  | .str a :: l, .str b _ :: r => decide (a = b) && rpBs l r
  | _, _ => false
theorem rpBs_ok {T : Ad} : ∀ {l : List D} {us : List Value}, rpB.rpBs l us = true → ∃ vs, Vals vs us ∧ ∀ F, RepL T F l vs
  | [], [], _ => ⟨[], .nil, fun F => by simp [RepL]⟩
  | .non :: l, .none :: r, h => by
    obtain ⟨vs, h1, h2⟩ := rpBs_ok (T := T) (show rpB.rpBs l r = true from h)
    exact ⟨.non :: vs, .cons rfl h1, fun F => by simp only [RepL]; exact ⟨_, _, rfl, rp_non, h2 F⟩⟩
  | .bl a :: l, .bool b :: r, h => by
    obtain ⟨h0, h⟩ := ba (show ((a == b) && rpB.rpBs l r) = true from h)
    obtain ⟨vs, h1, h2⟩ := rpBs_ok (T := T) h
    rw [eq_of_beq h0]
    exact ⟨.bl b :: vs, .cons rfl h1, fun F => by simp only [RepL]; exact ⟨_, _, rfl, rp_bl, h2 F⟩⟩
  | .int a :: l, .int b t :: r, h => by
    obtain ⟨h0, h⟩ := ba (show (decide (a = b) && rpB.rpBs l r) = true from h)
    obtain ⟨vs, h1, h2⟩ := rpBs_ok (T := T) h
    rw [of_decide_eq_true h0]
    exact ⟨.int b :: vs, .cons ⟨t, rfl⟩ h1, fun F => by simp only [RepL]; exact ⟨_, _, rfl, rp_int, h2 F⟩⟩
  | .str a :: l, .str b t :: r, h => by
    obtain ⟨h0, h⟩ := ba (show (decide (a = b) && rpB.rpBs l r) = true from h)
    obtain ⟨vs, h1, h2⟩ := rpBs_ok (T := T) h
    rw [of_decide_eq_true h0]
    exact ⟨.str b :: vs, .cons ⟨t, rfl⟩ h1, fun F => by simp only [RepL]; exact ⟨_, _, rfl, rp_str, h2 F⟩⟩
theorem rpB_ok {T : Ad} {K : PySem.W.Frag} (hK : T.K = K) {d : D} {u : Value} (h : rpB K d u = true) : ∃ v, RelV v u ∧ ∀ F, RepD T F d v := by
  unfold rpB at h
  split at h
  · exact ⟨.non, rfl, fun F => rp_non⟩
  · rw [eq_of_beq h]
    exact ⟨.bl _, rfl, fun F => rp_bl⟩
  · rw [of_decide_eq_true h]
    exact ⟨.int _, ⟨_, rfl⟩, fun F => rp_int⟩
  · rw [of_decide_eq_true h]
    exact ⟨.str _, ⟨_, rfl⟩, fun F => rp_str⟩
  · rename_i l a
    split at h
    · rename_i c dt its n sl hl
      simp only [Bool.and_eq_true, decide_eq_true_eq] at h
      obtain ⟨⟨h1, h2⟩, h3⟩ := h
      obtain ⟨vs, h4, h5⟩ := rpBs_ok (T := T) h3
      refine ⟨.ref a, rfl, fun F => ?_⟩
      simp only [RepD]
      exact ⟨a, vs, rfl, .inr ⟨_, its, n, by rw [hK]; exact hl, congrArg Value.type h1, rfl, h2, h4⟩, h5 F⟩
    · cases h
  · cases h
/-- how C's attributes are read: the metaclass -/
def creadB (K : PySem.W.Frag) (C : Addr) : Option Value := match PySem.W.typeIn K (.ref C) with
  | some mc => if PySem.W.readsIn K C mc && decide (PySem.W.specialIn K (.ref C) "__getattribute__" = some (some (.builtin "type.__getattribute__"))) then some mc else none
  | none => none
theorem creadB_ok {K : PySem.W.Frag} {C : Addr} {mc : Value} (h : creadB K C = some mc) : ClX.CRead K C mc := by
  unfold creadB at h
  split at h
  · split at h
    · rename_i h1
      cases h
      simp only [Bool.and_eq_true, decide_eq_true_eq] at h1
      exact ⟨h1.1, h1.2⟩
    · cases h
  · cases h
def cmetB (K : PySem.W.Frag) (C : Addr) (m : Str) (g : Addr) : Bool := match creadB K C with
  | some mc => (match PySem.W.findCls K (.ref C) mc m with
    | some (.get (.builtin s) (.ref p) .none (.ref C')) => decide (s = "classmethod.__get__") && decide (C' = C) && PySem.W.fnIn K g && (match PySem.W.recIn K p "classmethod" with
      | some (.ref h :: _) => decide (h = g)
      | _ => false)
    | _ => false)
  | none => false
theorem cmetB_ok {K : PySem.W.Frag} {C g : Addr} {m : Str} (h : cmetB K C m g = true) : ∃ mc p, ClX.CRead K C mc ∧ ClX.CMet K C mc m p g := by
  unfold cmetB at h
  split at h
  · rename_i mc hmc
    split at h
    · rename_i s p C' hf
      simp only [Bool.and_eq_true, decide_eq_true_eq] at h
      obtain ⟨⟨⟨h1, h2⟩, h3⟩, h4⟩ := h
      split at h4
      · rename_i g' rest hr
        have e := of_decide_eq_true h4
        subst e h1 h2
        exact ⟨mc, p, creadB_ok hmc, hf, ⟨rest, hr⟩, h3⟩
      · cases h4
    · cases h
  · cases h
def conB (K : PySem.W.Frag) (C : Addr) (m : Str) (d : D) : Bool := match PySem.W.findIn K (.ref C) m with
  | some (some u) => decide (PySem.W.specialIn K u "__get__" = some none) && !(PySem.W.copiedNames.contains m) && rpB K d u && (match creadB K C with
    | some mc => (match PySem.W.findCls K (.ref C) mc m with
      | some (.val u') => decide (u' = u)
      | _ => false)
    | none => false)
  | _ => false
theorem conB_ok {T : Ad} {K : PySem.W.Frag} {C : Addr} {m : Str} {d : D} (hK : T.K = K) (h : conB K C m d = true) : ∃ v u, Con K C m v u ∧ (∀ F, RepD T F d v) ∧ ∃ mc, ClX.CRead K C mc ∧ ClX.CVal K C mc m v u := by
  unfold conB at h
  split at h
  · rename_i u hu
    simp only [Bool.and_eq_true, decide_eq_true_eq, Bool.not_eq_true'] at h
    obtain ⟨⟨⟨h1, h2⟩, h3⟩, h4⟩ := h
    obtain ⟨v, r1, r2⟩ := rpB_ok hK h3
    split at h4
    · rename_i mc hmc
      split at h4
      · rename_i u' hf
        have e := of_decide_eq_true h4
        subst e
        exact ⟨v, _, ⟨hu, r1, h1, h2⟩, r2, mc, creadB_ok hmc, hf, r1⟩
      · cases h4
    · cases h4
  · cases h
def btNames : List String := ["NoneType", "bool", "int", "str", "list", "tuple", "dict"]
def osNames : List String := ["int", "bool", "str", "list", "tuple"]
/-- a class with operators of its own -/
def ownB (X : Tx) (K : PySem.W.Frag) (c : Nat) : Bool :=
  let T := X.T K
  (["NoneType", "bool", "int", "str", "list", "tuple", "dict"].all fun n => decide (PySem.W.subIn K (.type n) (.ref (T.ca c)) = some false)) &&
  (X.B.fz.all fun e => PySem.W.notFirst K (T.ca c) (.ref (T.ca e.1))) &&
  PySem.W.selfFirst K (T.ca c) &&
  (binL.all fun op => (match PySem.W.clsIn K (T.ca c) with
    | some cd => cd.mro.all fun b => decide (PySem.W.findIn K b (dunderI op.info.2) = some none)
    | none => false)) &&
  (binL.all fun op => (match PySem.W.findIn K (.ref (T.ca c)) (dunderR op.info.2) with
    | some none => true
    | some (some (.ref _)) => true
    | _ => false) && (PySem.W.findIn K (.type "int") (PySem.dunder op.info.2)).isSome && (PySem.W.findIn K (.type "int") (dunderR op.info.2)).isSome)
theorem ownB_ok {X : Tx} {K : PySem.W.Frag} {c : Nat} (h : ownB X K c = true) : OwnF (X.T K) X.B.P c := by
  unfold ownB at h
  simp only [Bool.and_eq_true] at h
  obtain ⟨⟨⟨⟨h1, h2⟩, h3⟩, h5⟩, h4⟩ := h
  refine ⟨fun n hn => of_decide_eq_true (List.all_eq_true.mp h1 n hn), fun c' hc' => ?_, h3, fun op ho => ?_, fun op ho => ?_⟩
  · obtain ⟨b, hb⟩ := Option.isSome_iff_exists.mp hc'
    exact List.all_eq_true.mp h2 _ (mem_of_lookup hb)
  · have z := List.all_eq_true.mp h5 op ho
    split at z
    · rename_i cd hcd
      exact ⟨cd, hcd, fun b hb => of_decide_eq_true (List.all_eq_true.mp z b hb)⟩
    · cases z
  · have z := List.all_eq_true.mp h4 op ho
    simp only [Bool.and_eq_true] at z
    obtain ⟨⟨z1, z2⟩, z3⟩ := z
    refine ⟨?_, Option.isSome_iff_exists.mp z2, Option.isSome_iff_exists.mp z3⟩
    split at z1
    · rename_i e
      exact ⟨_, e, .inl rfl⟩
    · rename_i g e
      exact ⟨_, e, .inr ⟨g, rfl⟩⟩
    · cases z1
/-- all that the program must have, of the classes -/
def prgB (X : Tx) (K : PySem.W.Frag) : Bool :=
  let T := X.T K
  let B := X.B
  (B.fz.all fun e => clsOB K (T.ca e.1) && decide ((T.fl e.1).length ≤ 100) && decide (T.fl e.1).Nodup) &&
  decide (caL K X.cn).Nodup &&
  (B.ini.all fun e => mkB K (T.ca e.1) (T.fa e.2) && B.qt e.2) &&
  (B.me.all fun e => (B.fz.lookup e.1.1).isSome && methB K (T.ca e.1.1) (B.nm e.1.2) (T.fa e.2) && B.qt e.2 && decide (B.nm e.1.2 ∉ T.fl e.1.1) && (decide (e.1.2 ≠ 14) || PySem.W.fnIn K (T.fa e.2))) &&
  (B.fd.all fun e => (B.fz.lookup e.1.1).isSome && decide (PySem.W.findIn K (.ref (T.ca e.1.1)) (B.nm e.1.2) = some none) && decide ((T.fl e.1.1)[e.2]? = some (B.nm e.1.2))) &&
  (B.pr.all fun e => (B.fz.lookup e.1.1).isSome && B.qt e.2 && propB K (T.ca e.1.1) (B.nm e.1.2) (T.fa e.2)) &&
  (B.cc.all fun e => (B.fz.lookup e.1.1).isSome && decide (B.nm e.1.2 ∉ T.fl e.1.1) && conB K (T.ca e.1.1) (B.nm e.1.2) e.2) &&
  (B.xf.all fun e => xfB K (T.ca e.1.1) && decide (T.fl e.1.1).Nodup && decide (PySem.W.findIn K (.ref (T.ca e.1.1)) (B.nm e.1.2) = some none) && decide ((T.fl e.1.1)[e.2]? = some (B.nm e.1.2))) &&
  (B.ex.all fun e => B.ex.all fun e' => decide (PySem.W.exmOne K (.ref (T.ca e.1)) (.ref (T.ca e'.1)) = some (B.sb.contains (e.1, e'.1)))) &&
  (B.cm.all fun e => B.qt e.2 && cmetB K (T.ca e.1.1) (B.nm e.1.2) (T.fa e.2)) &&
  (B.fz.all fun c => (btNames.all fun n => decide (PySem.W.kitOne K (.type n) (.ref (T.ca c.1)) = some false)) && (B.fz.all fun t => decide (PySem.W.kitOne K (.ref (T.ca t.1)) (.ref (T.ca c.1)) = some (B.sb.contains (t.1, c.1))))) &&
  (osNames.all fun o => (btNames.all fun n => decide (PySem.W.kitOne K (.type n) (.type o) = some (n == o || (n == "bool" && o == "int")))) && (B.fz.all fun t => decide (PySem.W.kitOne K (.ref (T.ca t.1)) (.type o) = some false))) &&
  (B.me.all fun e => !(decide (1 ≤ e.1.2) && decide (e.1.2 ≤ 12)) || ownB X K e.1.1)
theorem le_sum_of_mem : ∀ {l : List Nat} {a : Nat}, a ∈ l → a ≤ l.sum
  | b :: l, a, h => by
    rw [List.sum_cons]
    rcases List.mem_cons.mp h with e | h
    · omega
    · have := le_sum_of_mem h
      omega
theorem caOf_inj {l : List Addr} (h : l.Nodup) {c d : Nat} (e : caOf l c = caOf l d) : c = d := by
  unfold caOf at e
  split at e
  · rename_i a ha
    split at e
    · rename_i b hb
      subst e
      obtain ⟨hc, ec⟩ := List.getElem?_eq_some_iff.mp ha
      obtain ⟨hd, ed⟩ := List.getElem?_eq_some_iff.mp hb
      exact (List.getElem_inj h).mp (ec.trans ed.symm)
    · have := le_sum_of_mem (List.mem_of_getElem? ha)
      have e' : @Eq Nat a (@List.sum Nat _ _ l + 1 + d) := e
      omega
  · split at e
    · rename_i b hb
      have := le_sum_of_mem (List.mem_of_getElem? hb)
      have e' : @Eq Nat (@List.sum Nat _ _ l + 1 + c) b := e
      omega
    · have e' : @Eq Nat (@List.sum Nat _ _ l + 1 + c) (@List.sum Nat _ _ l + 1 + d) := e
      omega
theorem okTg_cases {P : Pg} {t : Tg} (h : okTg P t = true) : (∃ n ∈ btNames, t = .bt n) ∨ ∃ c b, P.frz c = some b ∧ t = .ow c := by
  cases t with
  | bt n =>
    refine .inl ⟨n, ?_, rfl⟩
    have h' : (n == "NoneType" || n == "bool" || n == "int" || n == "str" || n == "list" || n == "tuple" || n == "dict") = true := h
    simp only [Bool.or_eq_true, beq_iff_eq] at h'
    unfold btNames
    rcases h' with (((((h | h) | h) | h) | h) | h) | h <;> subst h <;> simp
  | ow c =>
    obtain ⟨b, hb⟩ := Option.isSome_iff_exists.mp (show (P.frz c).isSome = true from h)
    exact .inr ⟨c, b, hb, rfl⟩
theorem okOs_mem {o : String} (h : okOs o = true) : o ∈ osNames := by
  unfold okOs at h
  simp only [Bool.or_eq_true, beq_iff_eq] at h
  unfold osNames
  rcases h with (((h | h) | h) | h) | h <;> subst h <;> simp
theorem prgB_ok {X : Tx} {K : PySem.W.Frag} (h : prgB X K = true) : Prg (X.T K) X.B.P := by
  unfold prgB at h
  simp only [Bool.and_eq_true] at h
  obtain ⟨⟨⟨⟨⟨⟨⟨⟨⟨⟨⟨⟨h1, h2⟩, h3⟩, h4⟩, h5⟩, h6⟩, h7⟩, h8⟩, h9⟩, h10⟩, h11⟩, h12⟩, h13⟩ := h
  have fz : ∀ {c : Nat}, (X.B.P.frz c).isSome = true → ∃ b, (c, b) ∈ X.B.fz := fun {c} hh => by
    obtain ⟨b, hb⟩ := Option.isSome_iff_exists.mp hh
    exact ⟨b, mem_of_lookup hb⟩
  constructor
  · intro c hc
    obtain ⟨b, hb⟩ := fz hc
    have z := List.all_eq_true.mp h1 _ hb
    simp only [Bool.and_eq_true, decide_eq_true_eq] at z
    exact ⟨clsOB_ok z.1.1, z.1.2, z.2⟩
  · intro c d e
    exact caOf_inj (of_decide_eq_true h2) e
  · intro c f hf
    have z := List.all_eq_true.mp h3 _ (mem_of_lookup hf)
    simp only [Bool.and_eq_true] at z
    exact ⟨mkB_ok z.1, z.2⟩
  · intro c m f hf
    have z := List.all_eq_true.mp h4 _ (mem_of_lookup hf)
    simp only [Bool.and_eq_true, decide_eq_true_eq] at z
    exact ⟨z.1.1.1.1, methB_ok z.1.1.1.2, z.1.1.2, z.1.2⟩
  · intro c f hf
    have z := List.all_eq_true.mp h4 _ (mem_of_lookup hf)
    simp only [Bool.and_eq_true, Bool.or_eq_true, decide_eq_true_eq] at z
    rcases z.2 with z | z
    · exact absurd rfl z
    · exact z
  · intro c m k hf
    have z := List.all_eq_true.mp h5 _ (mem_of_lookup hf)
    simp only [Bool.and_eq_true, decide_eq_true_eq] at z
    exact ⟨z.1.1, z.1.2, z.2⟩
  · intro c m g hf
    have z := List.all_eq_true.mp h6 _ (mem_of_lookup hf)
    simp only [Bool.and_eq_true] at z
    exact ⟨z.1.1, z.1.2, propB_ok z.2⟩
  · intro c m d hf
    have z := List.all_eq_true.mp h7 _ (mem_of_lookup hf)
    simp only [Bool.and_eq_true, decide_eq_true_eq] at z
    exact ⟨z.1.1, z.1.2, conB_ok (T := X.T K) rfl z.2⟩
  · intro c m k hf
    have z := List.all_eq_true.mp h8 _ (mem_of_lookup hf)
    simp only [Bool.and_eq_true, decide_eq_true_eq] at z
    exact ⟨xfB_ok z.1.1.1, z.1.1.2, z.1.2, z.2⟩
  · intro c hc e1 e2
    obtain ⟨b1, hb1⟩ := Option.isSome_iff_exists.mp e1
    obtain ⟨b2, hb2⟩ := Option.isSome_iff_exists.mp e2
    exact of_decide_eq_true (List.all_eq_true.mp (List.all_eq_true.mp h9 _ (mem_of_lookup hb1)) _ (mem_of_lookup hb2))
  · intro c m f hf
    have z := List.all_eq_true.mp h10 _ (mem_of_lookup hf)
    simp only [Bool.and_eq_true] at z
    exact ⟨z.1, cmetB_ok z.2⟩
  · intro t c ok hc
    obtain ⟨b, hb⟩ := fz hc
    have z := List.all_eq_true.mp h11 _ hb
    rw [Bool.and_eq_true] at z
    rcases okTg_cases ok with ⟨n, hn, rfl⟩ | ⟨d, b2, hd, rfl⟩
    · exact of_decide_eq_true (List.all_eq_true.mp z.1 _ hn)
    · exact of_decide_eq_true (List.all_eq_true.mp z.2 _ (mem_of_lookup hd))
  · intro t o ok ho
    have z := List.all_eq_true.mp h12 _ (okOs_mem ho)
    rw [Bool.and_eq_true] at z
    rcases okTg_cases ok with ⟨n, hn, rfl⟩ | ⟨d, b2, hd, rfl⟩
    · exact of_decide_eq_true (List.all_eq_true.mp z.1 _ hn)
    · exact of_decide_eq_true (List.all_eq_true.mp z.2 _ (mem_of_lookup hd))
  · intro c i f hf h1 h2
    have z := List.all_eq_true.mp h13 _ (mem_of_lookup hf)
    simp only [decide_eq_true h1, decide_eq_true h2, Bool.and_self, Bool.not_true, Bool.false_or] at z
    exact ownB_ok z
end BV

set_option Elab.async false
set_option maxRecDepth 100000
set_option maxHeartbeats 8000000
/-! BV49: the defs of a law, row by row. -/
namespace BV
open PySem PySem.Spec PyProof.Rows
open L2 hiding St It
open He (ga ma fAd ba)

def fnScB (N ps : List Str) (sc : Scope) : Bool := decide (sc.kind = .function) && !sc.isCoroutine && !sc.isGenerator && decide N.Nodup && decide (N.take ps.length = ps) && ps.all (locB sc) && sc.names.all fun y => decide (y.2 ≠ .free)
theorem fnScB_ok {N ps : List Str} {sc : Scope} (h : fnScB N ps sc = true) : FnScope N ps sc := by
  unfold fnScB at h
  simp only [Bool.and_eq_true, decide_eq_true_eq, Bool.not_eq_true', List.all_eq_true] at h
  obtain ⟨⟨⟨⟨⟨⟨h1, h2⟩, h3⟩, h4⟩, h5⟩, h6⟩, h7⟩ := h
  refine ⟨h1, h2, h3, h4, h5, fun x hx => ?_, h7⟩
  have z := h6 x hx
  unfold locB at z
  split at z
  · exact .inl (by assumption)
  · exact .inr (by assumption)
  · cases z
/-- the defaults -/
def dfB (K : PySem.W.Frag) (dV : Value) (dfl : List D) : Bool := match dV with
  | .none => dfl.isEmpty
  | .ref t => (match K.lookup t with
    | some ⟨_, _, .seq its _, _⟩ => rpB.rpBs dfl its.toList
    | _ => false)
  | _ => false
theorem dfB_ok {T : Ad} {K : PySem.W.Frag} {dV : Value} {dfl : List D} (h : dfB K dV dfl = true) : ∃ ds vs, Vals vs ds ∧ vs.length = dfl.length ∧ (∀ F, RepL T F dfl vs) ∧ ∀ s : Shared, K.In s.heap → (dV = .none ∧ ds = []) ∨ ∃ (t : Addr) (o : Obj) (n : Nat), dV = .ref t ∧ s.heap.get? t = some o ∧ o.data = .seq ds.toArray n := by
  unfold dfB at h
  split at h
  · have e : dfl = [] := by simpa using h
    subst e
    exact ⟨[], [], .nil, rfl, fun F => by simp [RepL], fun s _ => .inl ⟨rfl, rfl⟩⟩
  · rename_i t
    split at h
    · rename_i oc od its n sl hl
      obtain ⟨vs, h1, h2⟩ := rpBs_ok (T := T) h
      refine ⟨its.toList, vs, h1, (RepL.length (h2 (fun _ => none))), h2, fun s KX => .inr ⟨t, _, n, rfl, KX _ _ hl, ?_⟩⟩
      show Data.seq its n = Data.seq its.toList.toArray n
      rw [Array.toArray_toList]
    · cases h
  · cases h
def lamB (X : Tx) (K : PySem.W.Frag) (r : Row) (qual : Str) : Bool := !r.lam || X.lams.any fun p => decide (fAd K p.1 = r.at_.adr K) && decide (p.2 = qual ++ ".<locals>." ++ "<lambda>") && X.lams.all fun q => decide ((He.cT K q.1).2 ≠ (He.cT K p.1).2) || decide (q.2 = p.2)
def Row.md (B : Tb) (f : Nat) (r : Row) (I : FnI) (sc : Scope) : Md := ⟨r.N, sc, true, B.qt f, r.lam && !I.hr, I.hr, !I.hr, fun _ => true⟩
def rowB (X : Tx) (K : PySem.W.Frag) (f : Nat) (r : Row) (I : FnI) : Bool := match K.lookup (r.at_.adr K) with
  | some ⟨_, _, .func ⟨_, qual, ⟨[], as, va, [], kd, none, _⟩, .stmts body, scope, g, [], dV, _, _, _, _, cdv, _, bn⟩, _⟩ =>
    decide (g = mainGlobals) && decide (bn = builtinsNs) && PySem.W.codeIn K cdv qual && decide (as.map (·.arg)).Nodup && decide (r.N.length = I.ns) && lamB X K r qual && chSs X.B (r.md X.B f I scope) I.body body &&
    (match va with
    | none => fnScB r.N (as.map (·.arg)) scope && decide (I.star = false) && decide (as.length = I.np) && dfB K dV I.dfl && decide (I.dfl.length ≤ I.np) && (!I.hr || (decide (as.length = 1) && decide (dV = .none)))
    | some a => fnScB r.N (as.map (·.arg) ++ [a.arg]) scope && decide (I.star = true) && decide (as.length + 1 = I.np) && decide (dV = .none) && !I.hr)
  | _ => false
/-- what the module's names stand for -/
def GkM (mg : Str → Option Value) (T : Ad) (x : Str) : Gk → Prop
  | .fn f => mg x = some (.ref (T.fa f)) ∧ PySem.W.keepIn T.K (.ref (T.fa f)) = true
  | .cls c => mg x = some (.ref (T.ca c))
  | .con d => ∃ v u, mg x = some u ∧ RelV v u ∧ ∀ F, RepD T F d v
  | .bt => mg x = none

theorem Prg.at {T : Ad} {P : Pg} (g : Prg T P) (S0 : S8) (f0 : Addr) : Prg (T.at S0 f0) P where
  cls := g.cls
  inj := g.inj
  ini := g.ini
  meth := g.meth
  gi := g.gi
  fld := g.fld
  prop := g.prop
  ccon := fun c m d h => by
    obtain ⟨h1, h2, v, u, h3, h4, h5⟩ := g.ccon c m d h
    exact ⟨h1, h2, v, u, h3, fun F => RepD.same (sameAt S0 f0) d v (h4 F), h5⟩
  xfl := g.xfl
  exm := g.exm
  cmeth := g.cmeth
  kito := fun t c h1 h2 => by
    have z := g.kito t c h1 h2
    cases t <;> exact z
  kitb := fun t o h1 h2 => by
    have z := g.kitb t o h1 h2
    cases t <;> exact z
  own := fun c i f h1 h2 h3 => by
    have z := g.own c i f h1 h2 h3
    exact ⟨z.sub, z.subo, z.first, z.inp, z.bin⟩
section
variable {Pr : Program} {w : World} {mg : Str → Option Value} {base : Heap} {X : Tx} {K : PySem.W.Frag}
/-- all that a law's defs lean on -/
structure Base (Pr : Program) (w : World) (mg : Str → Option Value) (base : Heap) (X : Tx) (K : PySem.W.Frag) : Prop where
  prg : Prg (X.T K) X.B.P
  gl : ∀ x g, X.B.gl.lookup x = some g → GkM mg (X.T K) x g
  kw : ∀ f ks pre pm, (f, ks, pre, pm) ∈ X.B.kw → KwFn K X.B.P f ((X.T K).fa f) ks pre pm
  tb : ∀ p ∈ X.lams, LamX.TabB base mg (He.cT K p.1).1 (He.cT K p.1).2
  err : ∀ c n, X.B.P.exc c = some n → n ≠ 0 → ErrC Pr w K mg base (X.T K) c n
theorem body_pl (b : Base Pr w mg base X K) {f : Nat} {r : Row} {I : FnI} {qual : Str} {scope : Scope} {cdv : Value} (hI : I.hr = false) (nd : r.N.Nodup) (hl : lamB X K r qual = true) (hcd : ∀ p : He.Defn, fAd K p = r.at_.adr K → cdv = .ref (He.cT K p).1)
    {fa : Addr} {C : Caller} {k : Nat} {A : Around} {outer : List PySem.Env} {s : Shared} {H : Hp} {E : XK} (hp : Plain (X.T K) A f) (pl : Pls (plc Pr w mg base (X.T K) r.N qual scope fa cdv A outer s H E) (X.T K) X.B.P C k (fun cls d _ H' => E cls d H')) :
    PlS X.B (plc Pr w mg base (X.T K) r.N qual scope fa cdv A outer s H E) (X.T K) C none (fun cls d _ H' => E cls d H') k (r.md X.B f I scope) where
  e := {
    K := rfl
    prg := b.prg
    on := fun _ => rfl
    qt := fun _ => rfl
    N := rfl
    nd := nd
    sc := rfl
    fn := fun _ _ => rfl
    gl := fun x g h => by
      have z := b.gl x g h
      cases g <;> exact z
    plain := fun g h => by
      rcases h with h | h
      · exact .inl h
      · rcases hp with hp | hp
        · exact absurd (show X.B.qt f = true from hp) (by rw [show X.B.qt f = false from h]; decide)
        · exact .inr hp
    gd := fun h => by
      rcases hp with hp | hp
      · exact absurd (show X.B.qt f = true from hp) (by rw [show X.B.qt f = false from h]; decide)
      · exact hp
    un := by
      have := pl.cok.room.un
      omega
    full := fun _ => pl.cok
    kwf := fun _ _ => pl.kw
    kw := b.kw
    lam := fun h _ => by
      have hr : r.lam = true := by
        have : (r.lam && !I.hr) = true := h
        rw [hI] at this
        simpa using this
      unfold lamB at hl
      rw [hr, Bool.not_true, Bool.false_or, List.any_eq_true] at hl
      obtain ⟨p, hp1, hp2⟩ := hl
      simp only [Bool.and_eq_true, decide_eq_true_eq] at hp2
      obtain ⟨⟨h1, h2⟩, h3⟩ := hp2
      refine ⟨pl.hear, pl.room, fun _ z => z, (He.cT K p.1).1, (He.cT K p.1).2, b.tb p hp1, hcd p.1 h1, ?_, ?_⟩
      · show _ ∈ X.lams.map fun p => ((He.cT K p.1).2, p.2)
        exact List.mem_map.mpr ⟨p, hp1, by rw [h2] <;> rfl⟩
      · intro q hq e
        obtain ⟨q0, hq1, rfl⟩ := List.mem_map.mp (show q ∈ X.lams.map fun p => ((He.cT K p.1).2, p.2) from hq)
        have z := List.all_eq_true.mp h3 q0 hq1
        simp only [Bool.or_eq_true, decide_eq_true_eq] at z
        rcases z with z | z
        · exact absurd e z
        · show q0.2 = _
          rw [z, h2] <;> rfl
    ask := fun h => by
      have : I.hr = true := h
      rw [hI] at this
      cases this }
  ps := fun _ => passes_of (K := fun e s'' => L2.CX Pr w outer H s E e s'') rfl
  st := fun _ => rfl
  fr := fun _ => rfl
  one := fun _ => pl.one
  err := fun _ c n h h0 => b.err c n h h0
theorem body_plH (b : Base Pr w mg base X K) {f : Nat} {r : Row} {I : FnI} {qual : Str} {scope : Scope} {cdv : Value} (hI : I.hr = true) (nd : r.N.Nodup)
    {fa : Addr} {C : Caller} {k : Nat} {A : Around} {outer : List PySem.Env} {s : Shared} {S : S8} {E : XK} {f0 : Addr} {g : Store → R Val} (hp : Plain (X.T K) A f) (c : Cok (plc Pr w mg base (X.T K) r.N qual scope fa cdv A outer s S.H E) ((X.T K).at S f0) C k (fun cls d _ H' => E cls d H')) (hk : 1 ≤ k)
    (hr : Room (k + 6) (plc Pr w mg base (X.T K) r.N qual scope fa cdv A outer s S.H E).A) (as : Asks Pr w (X.T K).K mg base (X.T K) outer S s f0 (k + 6) g) :
    PlS X.B (plc Pr w mg base (X.T K) r.N qual scope fa cdv A outer s S.H E) ((X.T K).at S f0) C (some g) (fun cls d _ H' => E cls d H') k (r.md X.B f I scope) where
  e := {
    K := rfl
    prg := b.prg.at S f0
    on := fun _ => rfl
    qt := fun _ => rfl
    N := rfl
    nd := nd
    sc := rfl
    fn := fun _ _ => rfl
    gl := fun x g h => by
      have z := b.gl x g h
      cases g with
      | fn f => exact z
      | cls c => exact z
      | bt => exact z
      | con d =>
        obtain ⟨v, u, z1, z2, z3⟩ := z
        exact ⟨v, u, z1, z2, fun F => RepD.same (sameAt S f0) d v (z3 F)⟩
    plain := fun g h => by
      rcases h with h | h
      · exact .inl h
      · rcases hp with hp | hp
        · exact absurd (show X.B.qt f = true from hp) (by rw [show X.B.qt f = false from h]; decide)
        · exact .inr hp
    gd := fun h => by
      rcases hp with hp | hp
      · exact absurd (show X.B.qt f = true from hp) (by rw [show X.B.qt f = false from h]; decide)
      · exact hp
    un := by
      have := c.room.un
      omega
    full := fun _ => c
    kwf := fun h => by
      have : (!I.hr) = true := h
      rw [hI] at this
      cases this
    kw := b.kw
    lam := fun h => by
      have : (r.lam && !I.hr) = true := h
      rw [hI] at this
      simp at this
    ask := fun _ _ => ⟨X.T K, S, f0, g, k + 6, rfl, rfl, hr, rfl, rfl, as, fun _ z => z⟩ }
  ps := fun _ => passes_of (K := fun e s'' => L2.CX Pr w outer S.H s E e s'') rfl
  st := fun _ => rfl
  fr := fun _ => rfl
  one := fun _ => hk
  err := fun _ c n h h0 => ⟨(b.err c n h h0).oex, (b.err c n h h0).fl, (b.err c n h h0).fn⟩
theorem row_ok (b : Base Pr w mg base X K) {f : Nat} {r : Row} {I : FnI} (hr : X.rows[f]? = some (some r)) (h : rowB X K f r I = true) : DefX Pr w mg base (X.T K) X.B.P f I := by
  have efa : (X.T K).fa f = r.at_.adr K := by
    show faOf K X.rows f = _
    unfold faOf
    rw [hr]
  unfold rowB at h
  split at h
  · rename_i oc od nm qual as va kd dfs body scope g dV kV doc pm an cdv ct bn osl lk
    simp only [Bool.and_eq_true, decide_eq_true_eq] at h
    obtain ⟨⟨⟨⟨⟨⟨⟨h1, h2⟩, h3⟩, h4⟩, h5⟩, h6⟩, h7⟩, h8⟩ := h
    subst h1 h2
    have hcd : ∀ p : He.Defn, fAd K p = r.at_.adr K → cdv = .ref (He.cT K p).1 := fun p hp => by
      obtain ⟨c, ec⟩ := He.codeIn_ref h3
      have z : He.codeOf K p = c := He.codeOf_eq (K := K) (p := p) (by rw [hp]; exact lk) ec
      rw [ec]
      show Value.ref c = Value.ref (He.codeOf K p)
      rw [z]
    refine ⟨nm, qual, ⟨[], as, va, [], kd, none, dfs⟩, body, scope, dV, kV, doc, pm, cdv, ct, oc, an, od, osl, r.N, as.map (·.arg) ++ va.toList.map (·.arg), by rw [efa]; exact lk, h3, ?_, h5, ?_, ?_⟩
    · cases va with
      | none =>
        simp only [Bool.and_eq_true, decide_eq_true_eq] at h8
        simpa using fnScB_ok h8.1.1.1.1.1
      | some a =>
        simp only [Bool.and_eq_true, decide_eq_true_eq] at h8
        exact fnScB_ok h8.1.1.1.1
    · intro hI
      have ndN : r.N.Nodup := by
        cases va with
        | none =>
          simp only [Bool.and_eq_true, decide_eq_true_eq] at h8
          exact (fnScB_ok h8.1.1.1.1.1).nd
        | some a =>
          simp only [Bool.and_eq_true, decide_eq_true_eq] at h8
          exact (fnScB_ok h8.1.1.1.1).nd
      refine ⟨fun hst => ?_, ?_, fun C k A outer s H E hp pl => chSs_ok I.body (body_pl b hI ndN h6 hcd hp pl) h7⟩
      · cases va with
        | none =>
          simp only [Bool.and_eq_true, decide_eq_true_eq] at h8
          refine ⟨by simp, ?_⟩
          simpa using h8.1.1.1.2
        | some a =>
          simp only [Bool.and_eq_true, decide_eq_true_eq] at h8
          rw [h8.1.1.1.2] at hst
          cases hst
      · cases va with
        | none =>
          simp only [Bool.and_eq_true, decide_eq_true_eq] at h8
          obtain ⟨⟨⟨⟨⟨g1, g2⟩, g3⟩, g4⟩, g5⟩, g6⟩ := h8
          obtain ⟨ds, vs, d1, d2, d3, d4⟩ := dfB_ok (T := X.T K) g4
          have ld : ds.length = I.dfl.length := by rw [← Paired.length d1]; exact d2
          have z : BindX Pr w mg base (X.T K) (PySem.W.fnOf nm qual ⟨[], as, none, [], kd, none, dfs⟩ body scope dV kV doc pm an cdv ct) (as.map (·.arg)) I := by
            refine bindX_plain (ds := ds) g2 (by rw [List.length_map]; exact g3) ⟨vs, d1, d2, d3⟩ fun s us KX l1 l2 => ?_
            have zz := bindArgs_plain (fd := PySem.W.fnOf nm qual ⟨[], as, none, [], kd, none, dfs⟩ body scope dV kV doc pm an cdv ct) (us := us) (ds := ds) rfl h4 (by omega) (by omega) (by omega) (d4 s KX)
            rw [g3] at zz
            exact zz
          simpa using z
        | some a =>
          simp only [Bool.and_eq_true, decide_eq_true_eq] at h8
          obtain ⟨⟨⟨⟨g1, g2⟩, g3⟩, g4⟩, g5⟩ := h8
          subst g4
          exact bindX_star (ps := as.map (·.arg)) (pv := a.arg) g2 (by rw [List.length_map]; exact g3) fun us rest hl => bindArgs_star (fd := PySem.W.fnOf nm qual ⟨[], as, some a, [], kd, none, dfs⟩ body scope .none kV doc pm an cdv ct) rfl h4 (by rw [hl, List.length_map]) rfl
    · intro hI
      cases va with
      | some a =>
        simp only [Bool.and_eq_true, decide_eq_true_eq] at h8
        rw [hI] at h8
        cases h8.2
      | none =>
        simp only [Bool.and_eq_true, decide_eq_true_eq, Bool.or_eq_true, Bool.not_eq_true'] at h8
        obtain ⟨⟨⟨⟨⟨g1, g2⟩, g3⟩, g4⟩, g5⟩, g6⟩ := h8
        have g6' : as.length = 1 ∧ dV = .none := by
          rcases g6 with z | z
          · rw [hI] at z
            cases z
          · exact z
        obtain ⟨la, ed⟩ := g6'
        subst ed
        have ndN := (fnScB_ok g1).nd
        refine ⟨?_, ?_, fun C k A outer s S E f0 g hp c hk hr' ha as' => chSs_ok I.body (body_plH b hI ndN hp c hk hr' as') h7⟩
        · match as, la with
          | [a0], _ => exact ⟨a0.arg, rfl⟩
        · intro s us KX hl
          have hl' : us.length = as.length := by simpa using hl
          have zz := bindArgs_plain (fd := PySem.W.fnOf nm qual ⟨[], as, none, [], kd, none, dfs⟩ body scope .none kV doc pm an cdv ct) (us := us) (ds := []) (s := s) rfl h4 (by omega) (by simp; omega) (by simp) (.inl ⟨rfl, rfl⟩)
          simpa using zz
  · cases h
/-- all rows -/
def rowsB (X : Tx) (K : PySem.W.Frag) : Nat → List (Option FnI) → List (Option Row) → Bool
  | _, [], _ => true
  | f, none :: l, _ :: r => rowsB X K (f + 1) l r
  | f, none :: l, [] => rowsB X K (f + 1) l []
  | f, some I :: l, some r :: rs => rowB X K f r I && rowsB X K (f + 1) l rs
  | _, some _ :: _, _ => false
theorem rowsB_ok : ∀ {l : List (Option FnI)} {rs : List (Option Row)} {n : Nat}, rowsB X K n l rs = true → ∀ {i : Nat} {I : FnI}, l[i]? = some (some I) → ∃ r, rs[i]? = some (some r) ∧ rowB X K (n + i) r I = true
  | [], rs, n, h, i, I, e => by simp at e
  | none :: l, r :: rs, n, h, i, I, e => by
    cases i with
    | zero => simp at e
    | succ i =>
      obtain ⟨r', h1, h2⟩ := rowsB_ok (l := l) (rs := rs) (n := n + 1) h (i := i) (by simpa using e)
      exact ⟨r', by simpa using h1, by rw [show n + (i + 1) = n + 1 + i by omega]; exact h2⟩
  | none :: l, [], n, h, i, I, e => by
    cases i with
    | zero => simp at e
    | succ i =>
      obtain ⟨r', h1, h2⟩ := rowsB_ok (l := l) (rs := []) (n := n + 1) h (i := i) (by simpa using e)
      simp at h1
  | some J :: l, some r :: rs, n, h, i, I, e => by
    obtain ⟨h1, h2⟩ := ba (show (rowB X K n r J && rowsB X K (n + 1) l rs) = true from h)
    cases i with
    | zero =>
      simp at e
      subst e
      exact ⟨r, rfl, h1⟩
    | succ i =>
      obtain ⟨r', h3, h4⟩ := rowsB_ok (l := l) (rs := rs) (n := n + 1) h2 (i := i) (by simpa using e)
      exact ⟨r', by simpa using h3, by rw [show n + (i + 1) = n + 1 + i by omega]; exact h4⟩
  | some J :: l, [], n, h, i, I, e => by cases h
  | some J :: l, none :: rs, n, h, i, I, e => by cases h
theorem defs_ok (b : Base Pr w mg base X K) (h : rowsB X K 0 X.B.fns X.rows = true) : ∀ f I, X.B.P.fn f = some I → DefX Pr w mg base (X.T K) X.B.P f I := fun f I hf => by
  have e : X.B.fns[f]? = some (some I) := by
    have z : (X.B.fns[f]?).join = some I := hf
    cases q : X.B.fns[f]? with
    | none => rw [q] at z; cases z
    | some o =>
      rw [q] at z
      cases o with
      | none => cases z
      | some J =>
        cases z
        rfl
  obtain ⟨r, h1, h2⟩ := rowsB_ok h e
  rw [Nat.zero_add] at h2
  exact row_ok b h1 h2
end
end BV

set_option Elab.async false
set_option maxRecDepth 100000
set_option maxHeartbeats 1000000
/-! BV50: errors' classes; names of the module; keywords. -/
namespace BV
open PySem PySem.Spec PyProof.Rows
open L2 hiding St It
open He (ga ma fAd ba)

def oexB (K : PySem.W.Frag) (C : Addr) : Bool := (match K.lookup C with
  | some ⟨.type c, _, .cls ⟨_, _, .ref C' :: bm, _, _, hd, _, _, _, _, del⟩, sl⟩ => decide (c = "type") && decide (C' = C) && hd && !del && PySem.HandSPX.refsVE bm && (match sl.toList with
    | [_, _, _, _, some (.builtin n), _] => decide (n = "ValueError.__new__")
    | _ => false)
  | _ => false) && decide (PySem.W.findIn K (.ref C) "__setattr__" = some (some (.builtin "object.__setattr__"))) && decide (PySem.W.subIn K (.ref C) (.type "BaseException") = some true) && decide (PySem.W.typeIn K (.ref C) = some (.type "type")) && PySem.W.keepIn K (.ref C)
theorem oexB_ok {K : PySem.W.Frag} {C : Addr} (h : oexB K C = true) : OexC K C := by
  unfold oexB at h
  simp only [Bool.and_eq_true, decide_eq_true_eq] at h
  obtain ⟨⟨⟨⟨h1, h2⟩, h3⟩, h4⟩, h5⟩ := h
  refine ⟨?_, h2, h3, h4, h5⟩
  split at h1
  · rename_i c dd nm bs C' bm ns q hd sn sub ab col del sl lk
    simp only [Bool.and_eq_true, decide_eq_true_eq, Bool.not_eq_true'] at h1
    obtain ⟨⟨⟨⟨⟨g1, g2⟩, g3⟩, g4⟩, g5⟩, g6⟩ := h1
    split at g6
    · rename_i k0 k1 k2 k3 n k5 hsl
      have e := of_decide_eq_true g6
      subst e g1 g2 g3 g4
      have es : sl = #[k0, k1, k2, k3, some (.builtin "ValueError.__new__"), k5] := by
        rw [← Array.toArray_toList (xs := sl), hsl]
      subst es
      exact ⟨nm, q, ns, bs, bm, sn, sub, ab, col, dd, k0, k1, k2, k3, k5, lk, g5⟩
    · cases g6
  · cases h1
def supScB (ps : List Str) (sc : Scope) : Bool := decide (sc.kind = .function) && !sc.isCoroutine && !sc.isGenerator && decide ps.Nodup && ps.all (lclB sc) && (sc.names.all fun y => decide (y.2 ≠ .cell) && (decide (y.2 ≠ .free) || decide (y.1 = "__class__"))) && glbB sc "super" && decide (sc.names.lookup ("__class__" : Str) = some .free)
theorem lookup_mem2 {x : Str} {k : NameKind} : ∀ {l : List (Str × NameKind)}, l.lookup x = some k → (x, k) ∈ l := fun h => mem_of_lookup h
theorem supScB_ok {ps : List Str} {sc : Scope} (h : supScB ps sc = true) : BVS.SupScope ps sc := by
  unfold supScB at h
  simp only [Bool.and_eq_true, decide_eq_true_eq, Bool.not_eq_true', List.all_eq_true, Bool.or_eq_true] at h
  obtain ⟨⟨⟨⟨⟨⟨⟨h1, h2⟩, h3⟩, h4⟩, h5⟩, h6⟩, h7⟩, h8⟩ := h
  refine ⟨h1, h2, h3, h4, fun x hx => ?_, fun x hx => (h6 x hx).1, fun x hx => ?_, ?_, h8⟩
  · have z := h5 x hx
    unfold lclB at z
    split at z
    · assumption
    · cases z
  · rcases (h6 _ (lookup_mem2 hx)).2 with z | z
    · exact absurd rfl z
    · exact z
  · unfold glbB at h7
    split at h7
    · assumption
    · cases h7
theorem evS_of {p0 p1 p2 p3 : Pos} {es : List Expr} (hs : es.all notStar = true) (hn : es.length < 30) (hl : (p2.endLine == p3.line) = true) : BVS.EvS p0 p1 p2 p3 es := fun env => by
  refine ⟨plainOf (.Call (.Name "super" p0) [] [] p1) env, ?_⟩
  have e0 : eval (.Call (.Attribute (.Call (.Name "super" p0) [] [] p1) "__init__" p2) es [] p3) env = (do
      let ov ← attributeBase (.Call (.Name "super" p0) [] [] p1) "__init__" env (eval (.Call (.Name "super" p0) [] [] p1) env)
      standAt p2.atName
      methodCall (.Call (.Name "super" p0) [] [] p1) "__init__" p2 p3 env ov (es.length + 0) (backTo p3 (starEach es env)) []) := rfl
  rw [e0]
  have hf : methodCallForm (es.length + 0) (backTo p3 (starEach es env)) ([] : List (Option Str × Sem Value)) = true := by
    unfold methodCallForm
    rw [sh_all hs]
    show (true && true && decide (es.length + 0 + 0 < 30)) = true
    rw [decide_eq_true (show es.length + 0 + 0 < 30 by omega)]
    rfl
  congr 1
  funext ov
  congr 1
  funext _
  exact mcall_line hf hl
def nmB (x : Str) : Bool := !(x == ("__debug__" : Str)) && !(x == ("__classdict__" : Str))
def asName : Expr → Option (Str × Pos)
  | .Name x p => some (x, p)
  | _ => none
theorem asName_ok {e : Expr} {x : Str} {p : Pos} (h : asName e = some (x, p)) : e = .Name x p := by
  cases e <;> first | (cases h; rfl) | cases h
def asCall : Expr → Option (Expr × List Expr × List Keyword × Pos)
  | .Call f es ks p => some (f, es, ks, p)
  | _ => none
theorem asCall_ok {e f : Expr} {es : List Expr} {ks : List Keyword} {p : Pos} (h : asCall e = some (f, es, ks, p)) : e = .Call f es ks p := by
  cases e <;> first | (cases h; rfl) | cases h
def asAttr : Expr → Option (Expr × Str × Pos)
  | .Attribute o f p => some (o, f, p)
  | _ => none
theorem asAttr_ok {e o : Expr} {f : Str} {p : Pos} (h : asAttr e = some (o, f, p)) : e = .Attribute o f p := by
  cases e <;> first | (cases h; rfl) | cases h
def asExS : Stmt → Option (Expr × Pos)
  | .Expr e p => some (e, p)
  | _ => none
theorem asExS_ok {s : Stmt} {e : Expr} {p : Pos} (h : asExS s = some (e, p)) : s = .Expr e p := by
  cases s <;> first | (cases h; rfl) | cases h
def asAsg : Stmt → Option (List Expr × Expr × Pos)
  | .Assign ts e p => some (ts, e, p)
  | _ => none
theorem asAsg_ok {s : Stmt} {ts : List Expr} {e : Expr} {p : Pos} (h : asAsg s = some (ts, e, p)) : s = .Assign ts e p := by
  cases s <;> first | (cases h; rfl) | cases h
structure SupP where
  p0 : Pos
  p1 : Pos
  p2 : Pos
  p3 : Pos
  p4 : Pos
  es : List Expr
def supOf (s : Stmt) : Option SupP := match asExS s with
  | some (e, p4) => (match asCall e with
    | some (f, es, [], p3) => (match asAttr f with
      | some (o, i0, p2) => (match asCall o with
        | some (g, [], [], p1) => (match asName g with
          | some (s0, p0) => if s0 = "super" ∧ i0 = "__init__" then some ⟨p0, p1, p2, p3, p4, es⟩ else none
          | none => none)
        | _ => none)
      | none => none)
    | _ => none)
  | none => none
theorem supOf_ok {s : Stmt} {r : SupP} (h : supOf s = some r) : s = .Expr (.Call (.Attribute (.Call (.Name "super" r.p0) [] [] r.p1) "__init__" r.p2) r.es [] r.p3) r.p4 := by
  unfold supOf at h
  split at h <;> try cases h
  rename_i e p4 h1
  split at h <;> try cases h
  rename_i f es p3 h2
  split at h <;> try cases h
  rename_i o i0 p2 h3
  split at h <;> try cases h
  rename_i g p1 h4
  split at h <;> try cases h
  rename_i s0 p0 h5
  split at h <;> try cases h
  rename_i hh
  obtain ⟨rfl, rfl⟩ := hh
  rw [asExS_ok h1, asCall_ok h2, asAttr_ok h3, asCall_ok h4, asName_ok h5]
structure FldP where
  sf : Str
  f : Str
  n : Str
  q1 : Pos
  q2 : Pos
  q3 : Pos
  q4 : Pos
def fldOf (s : Stmt) : Option FldP := match asAsg s with
  | some ([t], v, q4) => (match asAttr t with
    | some (o, f, q2) => (match asName o with
      | some (sf, q1) => (match asName v with
        | some (n, q3) => some ⟨sf, f, n, q1, q2, q3, q4⟩
        | none => none)
      | none => none)
    | none => none)
  | _ => none
theorem fldOf_ok {s : Stmt} {r : FldP} (h : fldOf s = some r) : s = .Assign [.Attribute (.Name r.sf r.q1) r.f r.q2] (.Name r.n r.q3) r.q4 := by
  unfold fldOf at h
  split at h <;> try cases h
  rename_i t v q4 h1
  split at h <;> try cases h
  rename_i o f q2 h2
  split at h <;> try cases h
  rename_i sf q1 h3
  split at h <;> try cases h
  rename_i n q3 h4
  rw [asAsg_ok h1, asAttr_ok h2, asName_ok h3, asName_ok h4]
/-- the body of an error's own init: one field, two fields -/
def initB1 (K : PySem.W.Frag) (C : Addr) (fl : List Str) (x0 x1 : Str) (s1 s2 : Stmt) : Bool := match supOf s1, fldOf s2 with
  | some r, some g => (match r.es with
    | [a] => (match asName a with
      | some (a0, _) => decide (a0 = x1) && decide (g.n = x1) && decide (g.sf = x0) && decide (fl = [g.f]) && (r.p2.endLine == r.p3.line) && decide (PySem.W.findIn K (.ref C) g.f = some none)
      | none => false)
    | _ => false)
  | _, _ => false
def initB2 (K : PySem.W.Frag) (C : Addr) (fl : List Str) (x0 x1 x2 : Str) (s1 s2 s3 : Stmt) : Bool := match supOf s1, fldOf s2, fldOf s3 with
  | some r, some g, some g2 => (match r.es with
    | [a, b] => (match asName a, asName b with
      | some (a0, _), some (b0, _) => decide (a0 = x1) && decide (b0 = x2) && decide (g.n = x1) && decide (g2.n = x2) && decide (g.sf = x0) && decide (g2.sf = x0) && decide (fl = [g.f, g2.f]) && decide (g.f ≠ g2.f) && (r.p2.endLine == r.p3.line) &&
        decide (PySem.W.findIn K (.ref C) g.f = some none) && decide (PySem.W.findIn K (.ref C) g2.f = some none)
      | _, _ => false)
    | _ => false)
  | _, _, _ => false
def initB (K : PySem.W.Frag) (C : Addr) (fl : List Str) (as : List Arg) (body : List Stmt) : Bool := match as, body with
  | [x0, x1], [s1, s2] => initB1 K C fl x0.arg x1.arg s1 s2
  | [x0, x1, x2], [s1, s2, s3] => initB2 K C fl x0.arg x1.arg x2.arg s1 s2 s3
  | _, _ => false
def errB (Pr : Program) (K : PySem.W.Frag) (C : Addr) (fl : List Str) (n : Nat) : Bool := oexB K C && decide (fl.length = n) && decide (n ≤ 100) && decide (PySem.W.subIn K (.ref C) (.type "ValueError") = some true) && decide (PySem.W.mroIn K C (.ref C) = some true) &&
  decide (PySem.W.ks_superIn K C C "__init__" = some (some (.builtin "ValueError.__init__"))) && decide (PySem.W.nsIn K cStatics "thirdparty.any" = some none) && decide (PySem.W.nsIn K mainGlobals "super" = some none) && !(Pr.main.scope.names.lookup ("super" : Str)).isSome &&
  (match PySem.W.findIn K (.ref C) "__init__" with
  | some (some (.ref fI)) => decide (PySem.W.typeIn K (.ref fI) = some (.type "function")) && (match K.lookup fI with
    | some ⟨_, _, .func ⟨_, qual, ⟨[], as, none, [], _, none, _⟩, .stmts body, scope, g, [(x, cc)], dV, _, _, _, _, .ref cda, _, bn⟩, _⟩ =>
      decide (g = mainGlobals) && decide (bn = builtinsNs) && decide (x = "__class__") && decide (dV = .none) && PySem.W.codeIn K (.ref cda) qual && (as.map (·.arg)).all nmB && decide (as.map (·.arg)).Nodup && supScB (as.map (·.arg)) scope && initB K C fl as body &&
      (match K.lookup cc with
      | some ⟨_, _, .cell (some (.ref C')), _⟩ => decide (C' = C)
      | _ => false) &&
      (match K.lookup cda with
      | some ⟨_, _, .fields vs, _⟩ => (match (vs[2]? : Option Value) with
        | some (.str file _) => (Pr.main.file : Str) == file
        | _ => false)
      | _ => false)
    | _ => false)
  | _ => false)
theorem errB_ok {Pr : Program} {w : World} {mg : Str → Option Value} {base : Heap} {T : Ad} {c n : Nat} (hmg : mg "super" = none) (h : errB Pr T.K (T.ca c) (T.fl c) n = true) : ErrC Pr w T.K mg base T c n := by
  unfold errB at h
  simp only [Bool.and_eq_true, decide_eq_true_eq, Bool.not_eq_true'] at h
  obtain ⟨⟨⟨⟨⟨⟨⟨⟨⟨h1, h2⟩, h3⟩, h4⟩, h5⟩, h6⟩, h7⟩, h8⟩, h9⟩, h10⟩ := h
  have ox := oexB_ok h1
  refine ⟨ox, ⟨h2, h3⟩, ?_⟩
  split at h10
  · rename_i fI hfI
    rw [Bool.and_eq_true] at h10
    obtain ⟨hty, h10⟩ := h10
    split at h10
    · rename_i oc od nm qual as kd dfs body scope g x cc dV kV doc pm an cda ct bn osl lk
      simp only [Bool.and_eq_true, decide_eq_true_eq] at h10
      obtain ⟨⟨⟨⟨⟨⟨⟨⟨⟨⟨g1, g2⟩, g3⟩, g4⟩, g5⟩, g6⟩, g7⟩, g8⟩, g9⟩, g10⟩, g11⟩ := h10
      subst g1 g2 g3 g4
      have S := supScB_ok g8
      have cell : ∃ cl cld csl, T.K.lookup cc = some ⟨cl, cld, .cell (some (.ref (T.ca c))), csl⟩ := by
        split at g10
        · rename_i cl cld C' csl hl
          have e := of_decide_eq_true g10
          rw [e] at hl
          exact ⟨cl, cld, csl, hl⟩
        · cases g10
      have code : ∃ ccl cdd vs ccs file tf, T.K.lookup cda = some ⟨ccl, cdd, .fields vs, ccs⟩ ∧ vs[2]? = some (.str file tf) ∧ ((Pr.main.file : Str) == file) = true := by
        split at g11
        · rename_i ccl cdd vs ccs hl
          split at g11
          · rename_i file tf hv
            exact ⟨ccl, cdd, vs, ccs, file, tf, hl, hv, g11⟩
          · cases g11
        · cases g11
      have SC : BVS.SupC Pr T.K mg (T.ca c) cda cc := ⟨ox, h4, h5, cell, code, h6, h7, hmg, h9⟩
      have nms : BVS.NmOk (as.map (·.arg)) := fun y hy => by
        have z := List.all_eq_true.mp g6 y hy
        unfold nmB at z
        simp only [Bool.and_eq_true, Bool.not_eq_true'] at z
        exact z
      have bnd : ∀ fd : FuncData, fd.params = ⟨[], as, none, [], kd, none, dfs⟩ → fd.defaults = .none → Binds T.K fd (as.map (·.arg)) [] := fun fd e1 e2 s us KX hl => by
        have hl' : us.length = as.length := by simpa using hl
        have zz := bindArgs_plain (fd := fd) (us := us) (ds := []) (s := s) e1 g7 (by omega) (by simp; omega) (by simp) (.inl ⟨e2, rfl⟩)
        simpa using zz
      unfold initB at g9
      split at g9
      · rename_i x0 x1 s1 s2
        unfold initB1 at g9
        split at g9
        · rename_i r g hr hg
          split at g9
          · rename_i a hes
            split at g9
            · rename_i a0 q0 ha
              simp only [Bool.and_eq_true, decide_eq_true_eq] at g9
              obtain ⟨⟨⟨⟨⟨e3, e4⟩, e5⟩, e6⟩, e7⟩, e8⟩ := g9
              have z1 := supOf_ok hr
              rw [hes, asName_ok ha, e3] at z1
              have z2 := fldOf_ok hg
              rw [e4, e5] at z2
              rw [z1, z2] at lk
              have F := (BVS.init1 (k := 0) (CX := L2.CX Pr w) (P := Pr) (w := w) (base := base) SC lk g5 S (ar := x0) rfl rfl nms e8 (evS_of rfl (by simp) e7)).imp SpX.one
              rw [← e6] at F
              exact ⟨fI, _, _, hfI, of_decide_eq_true hty, bnd _ rfl rfl, F⟩
            · cases g9
          · cases g9
        · cases g9
      · rename_i x0 x1 x2 s1 s2 s3
        unfold initB2 at g9
        split at g9
        · rename_i r g g2 hr hg hg2
          split at g9
          · rename_i a b hes
            split at g9
            · rename_i a0 q0 b0 q5 ha hb
              simp only [Bool.and_eq_true, decide_eq_true_eq] at g9
              obtain ⟨⟨⟨⟨⟨⟨⟨⟨⟨⟨e3, e4⟩, e5⟩, e6⟩, e7⟩, e8⟩, e9⟩, e10⟩, e11⟩, e12⟩, e13⟩ := g9
              have z1 := supOf_ok hr
              rw [hes, asName_ok ha, asName_ok hb, e3, e4] at z1
              have z2 := fldOf_ok hg
              rw [e5, e7] at z2
              have z3 := fldOf_ok hg2
              rw [e6, e8] at z3
              rw [z1, z2, z3] at lk
              have F := (BVS.init2 (k := 0) (CX := L2.CX Pr w) (P := Pr) (w := w) (base := base) SC lk g5 S (ar := x0) rfl rfl nms e10 e12 e13 (evS_of rfl (by simp) e11)).imp SpX.two
              rw [← e9] at F
              exact ⟨fI, _, _, hfI, of_decide_eq_true hty, bnd _ rfl rfl, F⟩
            · cases g9
          · cases g9
        · cases g9
      · cases g9
    · cases h10
  · cases h10
/-! ### names, keywords -/
def gkK (K : PySem.W.Frag) (T : Ad) (x : Str) : Gk → Bool
  | .fn f => decide (PySem.W.nsIn K mainGlobals x = some (some (.ref (T.fa f)))) && PySem.W.keepIn K (.ref (T.fa f))
  | .cls c => decide (PySem.W.nsIn K mainGlobals x = some (some (.ref (T.ca c))))
  | .con d => (match PySem.W.nsIn K mainGlobals x with
    | some (some u) => rpB K d u
    | _ => false)
  | .bt => decide (PySem.W.nsIn K mainGlobals x = some none)
theorem gkK_ok {K : PySem.W.Frag} {T : Ad} (hK : T.K = K) {h : Heap} {mg : Str → Option Value} (KX : K.In h) (G : h.Ns mainGlobals mg) {x : Str} {g : Gk} (e : gkK K T x g = true) : GkM mg T x g := by
  cases g with
  | fn f =>
    obtain ⟨h1, h2⟩ := ba (show (decide (PySem.W.nsIn K mainGlobals x = some (some (.ref (T.fa f)))) && PySem.W.keepIn K (.ref (T.fa f))) = true from e)
    exact ⟨PySem.W.mg_of KX G (of_decide_eq_true h1), by rw [hK]; exact h2⟩
  | cls c => exact PySem.W.mg_of KX G (of_decide_eq_true (show decide (PySem.W.nsIn K mainGlobals x = some (some (.ref (T.ca c)))) = true from e))
  | con d =>
    have e' : (match PySem.W.nsIn K mainGlobals x with
      | some (some u) => rpB K d u
      | _ => false) = true := e
    split at e'
    · rename_i u hu
      obtain ⟨v, r1, r2⟩ := rpB_ok hK e'
      exact ⟨v, u, PySem.W.mg_of KX G hu, r1, r2⟩
    · cases e'
  | bt => exact PySem.W.mg_none_of KX G (of_decide_eq_true (show decide (PySem.W.nsIn K mainGlobals x = some none) = true from e))
def kwB (X : Tx) (K : PySem.W.Frag) (e : Nat × List Str × Nat × List Nat) : Bool := (match (X.B.fns[e.1]?).join with
  | some I => !I.star
  | none => true) && (match K.lookup ((X.T K).fa e.1) with
  | some ⟨_, _, .func fd, _⟩ => (match fd.params with
    | ⟨[], as, none, [], _, none, _⟩ => decide (fd.defaults = .none) && kwOkB (as.map (·.arg)) e.2.1 e.2.2.1 e.2.2.2
    | _ => false)
  | _ => false)
theorem kwB_ok {X : Tx} {K : PySem.W.Frag} {f : Nat} {ks : List Str} {pre : Nat} {pm : List Nat} (h : kwB X K (f, ks, pre, pm) = true) : KwFn K X.B.P f ((X.T K).fa f) ks pre pm := by
  unfold kwB at h
  rw [Bool.and_eq_true] at h
  obtain ⟨h1, h2⟩ := h
  refine ⟨fun I hI => ?_, ?_⟩
  · have z : (X.B.fns[f]?).join = some I := hI
    dsimp only at h1
    rw [z] at h1
    simpa using h1
  · split at h2
    · rename_i oc od fd osl lk
      split at h2
      · rename_i as kd dfs hp
        simp only [Bool.and_eq_true, decide_eq_true_eq] at h2
        exact ⟨oc, od, fd, osl, lk, kwBind_of hp h2.1 h2.2⟩
      · cases h2
    · cases h2
/-- the whole check -/
def allB (Pr : Program) (X : Tx) (K : PySem.W.Frag) : Bool :=
  prgB X K && (X.B.gl.all fun p => gkK K (X.T K) p.1 p.2) && (X.B.kw.all fun e => kwB X K e) && (X.B.ex.all fun e => decide (e.2 = 0) || errB Pr K ((X.T K).ca e.1) ((X.T K).fl e.1) e.2) && rowsB X K 0 X.B.fns X.rows && decide (PySem.W.nsIn K mainGlobals "super" = some none)
theorem base_ok {Pr : Program} {w : World} {X : Tx} {K : PySem.W.Frag} {h : Heap} {mg : Str → Option Value} (KX : K.In h) (G : h.Ns mainGlobals mg) (e : allB Pr X K = true) {base : Heap} (tb : ∀ p ∈ X.lams, LamX.TabB base mg (He.cT K p.1).1 (He.cT K p.1).2) : Base Pr w mg base X K ∧ rowsB X K 0 X.B.fns X.rows = true := by
  unfold allB at e
  simp only [Bool.and_eq_true, decide_eq_true_eq] at e
  obtain ⟨⟨⟨⟨⟨h1, h2⟩, h3⟩, h4⟩, h5⟩, h6⟩ := e
  refine ⟨⟨prgB_ok h1, fun x g hg => ?_, fun f ks pre pm hm => kwB_ok (List.all_eq_true.mp h3 _ hm), tb, fun c n hc h0 => ?_⟩, h5⟩
  · have z : gkK K (X.T K) x g = true := List.all_eq_true.mp h2 (x, g) (mem_of_lookup hg)
    exact gkK_ok rfl KX G z
  · have hm : (c, n) ∈ X.B.ex := mem_of_lookup hc
    have z0 : (decide (n = 0) || errB Pr K ((X.T K).ca c) ((X.T K).fl c) n) = true := List.all_eq_true.mp h4 (c, n) hm
    have z : errB Pr K ((X.T K).ca c) ((X.T K).fl c) n = true := by
      rw [Bool.or_eq_true] at z0
      rcases z0 with z0 | z0
      · exact absurd (of_decide_eq_true z0) h0
      · exact z0
    have m : mg "super" = none := PySem.W.mg_none_of KX G h6
    exact errB_ok (T := X.T K) m z
end BV

set_option Elab.async false
set_option maxRecDepth 100000
set_option maxHeartbeats 1000000
/-! BV51: the law's entry. -/
namespace BV
open PySem PySem.Spec PyProof.Rows
open L2 hiding St It
open He (ga ma fAd ba)

def lawB (X : Tx) (K : PySem.W.Frag) (f : Nat) (x : Str) : Bool := X.B.fnB "law" f && X.B.qt f && (match (X.B.fns[f]?).join with
  | some I => !I.star
  | none => false) && (match K.lookup ((X.T K).fa f) with
  | some ⟨_, _, .func fd, _⟩ => (match fd.params with
    | ⟨[], [a], none, [], _, none, _⟩ => decide (a.arg = x) && decide (fd.defaults = .none)
    | _ => false)
  | _ => false)
/-- the states of the law's def -/
def spL (T : Ad) (C : Caller) (f : Nat) : Sp := fun vs H Q E => vs.length = 1 ∧ ∃ S as, S.H = H ∧ Wf T S ∧ RepVs T [] S as vs ∧ Post T [] (C f none as S.M) S Q E
theorem repL_ints {T : Ad} {F : Hp} : ∀ ns : List Int, RepL T F (ns.map .int) (ns.map V.int)
  | [] => by simp [RepL]
  | n :: ns => by
    simp only [List.map_cons, RepL]
    exact ⟨_, _, rfl, rp_int, repL_ints ns⟩
/-- the state at the entry -/
theorem entry {T : Ad} {H : Hp} {a : Addr} {ns : List Int} (ha : ∀ S, ¬ T.am S) (ht : ∀ p ∈ T.tb, H p.1 = some (.tbl #[])) (hS : SqL T.K H a (ns.map V.int)) : ∃ S, S.H = H ∧ S.M = [] ∧ Wf T S ∧ RepVs T [] S [.d (.scr (ns.map .int))] [.ref a] := by
  have tabs : LamX.Tabs T.tb H := fun p hp => ⟨#[], ht p hp, by trivial, fun pos cv z => by cases z⟩
  have wf : ∀ F : Hp, (∀ b o, F b = some o → H b = some o) → (∀ b ps, F b ≠ some (.tbl ps)) → Wf T ⟨F, H, fun _ => 0, []⟩ := fun F h1 h2 =>
    ⟨h1, fun n c z => by simp at z, fun n m ⟨c, z⟩ => by simp at z, h2, tabs, fun _ _ _ => trivial, fun S0 z => absurd z (ha S0)⟩
  have fin : ∀ F : Hp, (∀ b o, F b = some o → H b = some o) → (∀ b ps, F b ≠ some (.tbl ps)) → SqL T.K F a (ns.map V.int) → ∃ S, S.H = H ∧ S.M = [] ∧ Wf T S ∧ RepVs T [] S [.d (.scr (ns.map .int))] [.ref a] := fun F h1 h2 h3 => by
    refine ⟨⟨F, H, fun _ => 0, []⟩, rfl, rfl, wf F h1 h2, .ref a, [], rfl, ?_, rfl⟩
    show RepD T F (.scr (ns.map .int)) (.ref a)
    simp only [RepD]
    exact ⟨a, _, rfl, h3, repL_ints ns⟩
  rcases hS with (h | ⟨o, h⟩) | h
  · refine fin (fun b => if b = a then H b else none) (fun b o z => ?_) (fun b ps z => ?_) (.inl (.inl ?_))
    · split at z
      · exact z
      · cases z
    · split at z
      · rename_i e
        rw [e, h] at z
        cases z
      · cases z
    · show (if a = a then H a else none) = _
      rw [if_pos rfl, h]
  · refine fin (fun b => if b = a then H b else none) (fun b o z => ?_) (fun b ps z => ?_) (.inl (.inr ⟨o, ?_⟩))
    · split at z
      · exact z
      · cases z
    · split at z
      · rename_i e
        rw [e, h] at z
        cases z
      · cases z
    · show (if a = a then H a else none) = _
      rw [if_pos rfl, h]
  · exact fin (fun _ => none) (fun b o z => by cases z) (fun b ps z => by cases z) (.inr h)
theorem law_at {l : PySem.W.OpenLaw} {X : Tx} {N f n0 : Nat} {x : Str} (hp : ∀ ns : List Int, ns.length ≤ 63 → (∀ z ∈ ns, Builtin.Int.intBits z ≤ 1048576) → ∃ M, callF X.B.P N f none [.d (.scr (ns.map .int))] [] = .ok (.d (.bl true)) M)
    {w : World} {mg : Str → Option Value} {fa : Addr} {h : Heap} (Y : (He.hookX n0 [] [] [] (X.lams.map (·.1)) (fun K => allB l.prog X K && lawB X K f x)).says w h) (G : h.Ns mainGlobals mg) (hmg : mg "law" = some (.ref fa)) :
    ∃ K : PySem.W.Frag, K.In h ∧ LamX.LawAtS l w K (L2.CX l.prog w) (4 * N + 1) 63 x mg fa h := by
  obtain ⟨K, KX, c⟩ := Y
  obtain ⟨m1, m2⟩ := ba c.more
  have am : ∀ S, ¬ (X.T K).am S := fun _ z => z
  unfold lawB at m2
  simp only [Bool.and_eq_true] at m2
  obtain ⟨⟨⟨n1, n2⟩, n3⟩, n4⟩ := m2
  have efa : fa = (X.T K).fa f := by
    unfold allB at m1
    simp only [Bool.and_eq_true, decide_eq_true_eq] at m1
    unfold Tb.fnB at n1
    split at n1
    · rename_i g hg
      have e := of_decide_eq_true n1
      subst e
      have z : gkK K (X.T K) "law" (.fn f) = true := List.all_eq_true.mp m1.1.1.1.1.2 ("law", .fn f) (mem_of_lookup hg)
      have z2 := gkK_ok (T := X.T K) rfl KX G z
      have z3 : mg "law" = some (.ref ((X.T K).fa f)) := z2.1
      rw [hmg] at z3
      cases z3
      rfl
    · cases n1
  subst efa
  split at n4
  · rename_i oc od fd osl lk
    split at n4
    · rename_i a kd dfs hpar
      simp only [Bool.and_eq_true, decide_eq_true_eq] at n4
      obtain ⟨ex, ed⟩ := n4
      subst ex
      refine ⟨K, KX, fd, X.lams.map fun p => He.cT K p.1, spL (X.T K) (callF X.B.P N) f, ?_, ?_, ?_, ?_, ?_, ?_⟩
      · intro p hp'
        obtain ⟨q, hq, rfl⟩ := List.mem_map.mp hp'
        exact c.empty q.1 (List.mem_map.mpr ⟨q, hq, rfl⟩)
      · intro p hp'
        obtain ⟨q, hq, rfl⟩ := List.mem_map.mp hp'
        exact c.out q.1 (List.mem_map.mpr ⟨q, hq, rfl⟩)
      · intro p hp'
        obtain ⟨q, hq, rfl⟩ := List.mem_map.mp hp'
        exact PySem.W.codeHd_of_K KX (c.hd q.1 (List.mem_map.mpr ⟨q, hq, rfl⟩))
      · intro s u
        have z := bindArgs_plain (fd := fd) (us := [u]) (ds := []) (s := s) hpar (by simp) (by simp) (by simp) (by simp) (.inl ⟨ed, rfl⟩)
        simpa using z
      · intro H a' ns hl hb ht hS
        obtain ⟨M, hM⟩ := hp ns hl hb
        obtain ⟨S, e1, e2, e3, e4⟩ := entry (T := X.T K) (H := H) (a := a') (ns := ns) am (fun p hp' => by
          obtain ⟨q, hq, rfl⟩ := List.mem_map.mp (show p ∈ X.lams.map fun p => ((He.cT K p.1).2, p.2) from hp')
          exact ht (He.cT K q.1) (List.mem_map.mpr ⟨q, hq, rfl⟩)) hS
        refine ⟨rfl, S, _, e1, e3, e4, ?_⟩
        rw [e2, hM]
        intro S' v g w' e r
        exact rl_bl (T := X.T K) (F := S'.F) r
      · intro base KB GB TB
        obtain ⟨b, rb⟩ := base_ok (Pr := l.prog) (w := w) (base := base) KX G m1 (fun p hp' => TB (He.cT K p.1) (List.mem_map.mpr ⟨p, hp', rfl⟩))
        obtain ⟨_, _, kw⟩ := all_ok am (defs_ok b rb) N
        refine ⟨fun vs H Q E z => z.1, fun A outer s H args us vs Q E hr e0 hb rv z => ?_⟩
        obtain ⟨zl, S, as, e1, e2, e3, e4⟩ := z
        subst e1
        refine kw f oc od fd osl A outer s S args as us vs Q E lk (fun I hI => ?_) hr (.inl n2) e0 ?_ rv ?_ e2 e3 e4
        · have z : (X.B.fns[f]?).join = some I := hI
          rw [z] at n3
          simpa using n3
        · rw [hpar]
          exact hb
        · rw [hpar, ← Paired.length rv, zl]
          rfl
    · cases n4
  · cases n4
theorem cx_false {P : Program} {w : World} {H : Hp} {s : Shared} {e : Value} {s' : Shared} (z : L2.CX P w [] H s (fun _ _ _ => False) e s') : False := by
  obtain ⟨_, _, _, _, _, _, _, _, _, _, _, z⟩ := z
  exact z.2
end BV

set_option Elab.async false
set_option maxRecDepth 100000
set_option maxHeartbeats 1000000
/-! BV52: the law's def is run from the place of the claim's caller, where no guards stand. -/
namespace BV
open PySem PySem.Spec PyProof.Rows
open L2 hiding St It
open He (ga ma fAd ba)

/-- what lies in the heap tracked at first: the tables, the script where it is no part of K -/
structure First (tb : List Addr) (K : PySem.W.Frag) (a : Addr) (xs : List V) (ob : Obj) (H : Hp) : Prop where
  tbl : ∀ b ∈ tb, H b = some (.tbl #[])
  only : ∀ b u, H b = some u → (b ∈ tb ∧ u = .tbl #[]) ∨ (b = a ∧ u = .frz ob (.lst xs) ∧ K.lookup a = none)
  scr : SqL K H a xs

/-- what is asked of the law's call -/
abbrev Goal1 (s1 s2 : Shared) (r : Result) : Prop := r = .ok (.ret (.bool true)) ∧ OldK s1.heap s2.heap ∧ s2.os = s1.os ∧ AllBare s2.gens

section
variable {P : Program} {w : World} {K : PySem.W.Frag} {mg mb : Str → Option Value} {s1 : Shared} {a f : Addr} {cs : List (Addr × Addr)} {vs : List Value} {xs : List V} {H : Hp}
/-- a call that keeps what is tracked, and says True, is what is asked -/
theorem goal_of (hlen : vs.length = xs.length) (ha : s1.heap.get? a = some { cls := .type "list", data := .seq vs.toArray }) (hT : ∀ p ∈ cs, s1.heap.get? p.2 = some { cls := .none, data := .fields #[] }) (hC : ∀ p ∈ cs, PySem.W.CodeHd s1.heap p.1 p.2)
    (F : First (cs.map (·.2)) K a xs { cls := .type "list", data := .seq vs.toArray } H) (ok : HOk P w H s1.heap) {r : Result} {s2 : Shared} (h : CR (L2.CX P w) [] P w H s1 (fun v _ => v = .bl true) (fun _ _ _ => False) r s2) : Goal1 s1 s2 r := by
  cases r with
  | error e => exact (cx_false h).elim
  | ok fl =>
    cases fl with
    | next => exact h.elim
    | brk => exact h.elim
    | cont => exact h.elim
    | ret u =>
      obtain ⟨v, H2, eos, ebare, un, ok2, rv, ev⟩ := h
      have ev' : v = V.bl true := ev
      rw [ev'] at rv
      have eu : u = Value.bool true := rv
      rw [eu]
      -- an object that stands at no table is as it was
      have same : ∀ {b : Addr} {o : Obj}, s1.heap.get? b = some o → ¬ b ∈ cs.map (·.2) → s2.heap.get? b = some o := fun {b o} eb nb => by
        cases hb : H b with
        | none => exact un.keep b o eb hb (fun z => nomatch z) (fun z => nomatch z)
        | some u =>
          rcases F.only b u hb with ⟨z, _⟩ | ⟨_, z, _⟩
          · exact absurd z nb
          · rw [z] at hb
            have o1 := (ok b _ hb).1
            have o2 := (ok2 b _ (un.frzs b _ _ hb)).1
            rw [eb] at o1
            rw [o2, Option.some.inj o1]
      -- a table has grown
      have more : ∀ {b : Addr}, b ∈ cs.map (·.2) → ∃ p ∈ cs, b = p.2 ∧ ∃ m : Array Value, s2.heap.get? b = some { cls := .none, data := .fields m } := fun {b} hb => by
        obtain ⟨p, hp, rfl⟩ := List.mem_map.mp hb
        obtain ⟨m, hm⟩ := un.tbls p.2 #[] (F.tbl p.2 hb)
        exact ⟨p, hp, rfl, _, ok2 p.2 _ hm⟩
      refine ⟨rfl, OldK.mk (fun b o eb => ?_) (fun b o eb => ?_), eos, ebare⟩
      · rcases Classical.em (b ∈ cs.map (·.2)) with hb | hb
        · obtain ⟨p, hp, rfl, m, hm⟩ := more hb
          have e0 := hT p hp
          rw [eb] at e0
          have eo := Option.some.inj e0
          rw [eo]
          refine Or.inr (Or.inl ⟨Heap.TableAt.isCodeTable (PySem.W.CodeHd.tab (hC p hp) (hT p hp)), rfl, #[], m, rfl, ?_⟩)
          rw [Array.empty_append]
          exact hm
        · exact Or.inl (same eb hb)
      · rcases Classical.em (b ∈ cs.map (·.2)) with hb | hb
        · obtain ⟨_, _, _, m, hm⟩ := more hb
          exact Exists.intro _ hm
        · exact Exists.intro o (same eb hb)
/-- the base: the heap without what is tracked; all that the walk leans on stands in it -/
theorem base_of (KX : K.In s1.heap) (hg : s1.heap.Ns mainGlobals mg) (hb : s1.heap.Ns builtinsNs mb) (hbb : ∀ x : Str, x ≠ "__name__" → mb x = bootBuiltins x) (hlim : s1.heap.NoLimit) (hgen : s1.gens = #[])
    (ha : s1.heap.get? a = some { cls := .type "list", data := .seq vs.toArray }) (hT : ∀ p ∈ cs, s1.heap.get? p.2 = some { cls := .none, data := .fields #[] }) (hK : ∀ p ∈ cs, K.lookup p.2 = none) (hC : ∀ p ∈ cs, PySem.W.CodeHd s1.heap p.1 p.2)
    (hbm : ∃ (bm : Addr) (ob : Obj), mg "__builtins__" = some (.ref bm) ∧ bm ≠ builtinsNs ∧ s1.heap.get? bm = some ob ∧ ob.cls = .type "module" ∧ ob.dict = some builtinsNs ∧ ob.data = .plain)
    (F : First (cs.map (·.2)) K a xs { cls := .type "list", data := .seq vs.toArray } H) (ok : HOk P w H s1.heap) :
    K.In (hidT s1.heap H) ∧ (hidT s1.heap H).Ns mainGlobals mg ∧ (∀ p ∈ cs, LamX.TabB (hidT s1.heap H) mg p.1 p.2) ∧ Env0 P w K mg (hidT s1.heap H) callerA [] s1 H := by
  -- what is neither a list nor an empty table is not tracked
  have out : ∀ {b : Addr} {o : Obj}, s1.heap.get? b = some o → (∀ is n, o.data ≠ .seq is n) → o.data ≠ .fields #[] → H b = none := fun {b o} eb n1 n2 => by
    cases hb : H b with
    | none => rfl
    | some u =>
      rcases F.only b u hb with ⟨z, _⟩ | ⟨z, _, _⟩
      · obtain ⟨p, hp, rfl⟩ := List.mem_map.mp z
        have e0 := hT p hp
        rw [eb] at e0
        exact absurd (congrArg Obj.data (Option.some.inj e0)) n2
      · rw [z, ha] at eb
        exact absurd (congrArg Obj.data (Option.some.inj eb)).symm (n1 _ _)
  have ns : ∀ {b : Addr} {m : Str → Option Value}, s1.heap.Ns b m → (hidT s1.heap H).Ns b m := fun {b m} hn => by
    obtain ⟨o, es, ep, e1, e2, e3⟩ := hn
    have nb : H b = none := out e1 (by rw [e2]; intro _ _ z; cases z) (by rw [e2]; intro z; cases z)
    exact ⟨o, es, ep, hidT_get e1 nb, e2, e3⟩
  have kin : K.In (hidT s1.heap H) := fun b o e => by
    refine hidT_get (KX b o e) ?_
    cases hb : H b with
    | none => rfl
    | some u =>
      rcases F.only b u hb with ⟨z, _⟩ | ⟨z, _, k⟩
      · obtain ⟨p, hp, rfl⟩ := List.mem_map.mp z
        rw [hK p hp] at e
        cases e
      · rw [z, k] at e
        cases e
  have lim : (hidT s1.heap H).NoLimit := by
    obtain ⟨m, l1, l2⟩ := hlim
    exact ⟨m, ns l1, l2⟩
  refine ⟨kin, ns hg, fun p hp => ?_, ?_⟩
  · refine LamX.TabB.mk ?_ ?_ ?_
    · obtain ⟨o, us, file, tf, flags, tg, inF, text, tt, c1, c2, c3, c4, rest⟩ := hC p hp
      have no : H p.1 = none := out c1 (by rw [c3]; intro _ _ z; cases z) (by
        rw [c3]
        intro z
        cases z
        simp at c4)
      exact ⟨o, us, file, tf, flags, tg, inF, text, tt, hidT_get c1 no, c2, c3, c4, rest⟩
    · obtain ⟨bm, ob, b1, b2, b3, b4, b5, b6⟩ := hbm
      have nm : H bm = none := out b3 (by rw [b6]; intro _ _ z; cases z) (by rw [b6]; intro z; cases z)
      refine ⟨bm, ob, b1, b2, fun z => ?_, fun z => ?_, hidT_get b3 nm, b4, b5, b6⟩
      · obtain ⟨o, es, ep, e1, e2, _⟩ := hg
        rw [z, e1] at b3
        rw [Option.some.inj b3, b6] at e2
        cases e2
      · rw [z, hT p hp] at b3
        rw [← Option.some.inj b3] at b6
        cases b6
    · intro z
      obtain ⟨o, es, ep, e1, e2, _⟩ := hg
      rw [z, hT p hp] at e1
      rw [← Option.some.inj e1] at e2
      cases e2
  · have md : L2.Mod K mg (hidT s1.heap H) := L2.Mod.mk kin (ns hg) ⟨mb, ns hb, hbb⟩ lim
    exact { frames := rfl, mod := md, bs := fun b o e => of_hidT e, bsz := by rw [hidT_size]; exact Nat.le_refl _, funs := trivial, frf := (fun b z => nomatch z), hok := ok, bare := AllBare.of_eq hgen }
/-- what is tracked at first, and that it stands so -/
theorem first_of {ns : List Int} (KX : K.In s1.heap) (hi : IntsAre vs ns) (hl : ns.length ≤ sizeLine) (ha : s1.heap.get? a = some { cls := .type "list", data := .seq vs.toArray }) (hT : ∀ p ∈ cs, s1.heap.get? p.2 = some { cls := .none, data := .fields #[] }) :
    ∃ H, First (cs.map (·.2)) K a (ns.map V.int) { cls := .type "list", data := .seq vs.toArray } H ∧ HOk P w H s1.heap := by
  have rv := vals_ints hi
  have na : ∀ b ∈ cs.map (·.2), b ≠ a := fun b hb z => by
    obtain ⟨p, hp, e⟩ := List.mem_map.mp hb
    have e0 := hT p hp
    rw [e, z, ha] at e0
    have e1 : Data.seq vs.toArray _ = Data.fields #[] := congrArg Obj.data (Option.some.inj e0)
    cases e1
  cases hk : K.lookup a with
  | some o =>
    refine ⟨fun b => if b ∈ cs.map (·.2) then some (.tbl #[]) else none, ⟨fun b hb => if_pos hb, fun b u hu => ?_, .inr ?_⟩, fun b u hu => ?_⟩
    · by_cases hb : b ∈ cs.map (·.2)
      · rw [if_pos hb] at hu
        exact .inl ⟨hb, (Option.some.inj hu).symm⟩
      · rw [if_neg hb] at hu
        cases hu
    · have e := KX a o hk
      rw [ha] at e
      have eo := Option.some.inj e
      subst eo
      exact ⟨_, vs.toArray, _, hk, rfl, rfl, rfl, by rw [List.size_toArray, hi.length]; exact hl, by rw [List.toList_toArray]; exact rv⟩
    · by_cases hb : b ∈ cs.map (·.2)
      · have hu' := (if_pos hb).symm.trans hu
        cases hu'
        obtain ⟨p, hp, e⟩ := List.mem_map.mp hb
        rw [← e]
        exact hT p hp
      · have hu' := (if_neg hb).symm.trans hu
        cases hu'
  | none =>
    refine ⟨fun b => if b ∈ cs.map (·.2) then some (.tbl #[]) else if b = a then some (.frz { cls := .type "list", data := .seq vs.toArray } (.lst (ns.map V.int))) else none, ⟨fun b hb => if_pos hb, fun b u hu => ?_, .inl (.inr ⟨{ cls := .type "list", data := .seq vs.toArray }, ?_⟩)⟩, fun b u hu => ?_⟩
    · by_cases hb : b ∈ cs.map (·.2)
      · rw [if_pos hb] at hu
        exact .inl ⟨hb, (Option.some.inj hu).symm⟩
      · rw [if_neg hb] at hu
        by_cases hba : b = a
        · rw [if_pos hba] at hu
          exact .inr ⟨hba, (Option.some.inj hu).symm, hk⟩
        · rw [if_neg hba] at hu
          cases hu
    · exact (if_neg fun z => na a z rfl).trans (if_pos rfl)
    · by_cases hb : b ∈ cs.map (·.2)
      · have hu' := (if_pos hb).symm.trans hu
        cases hu'
        obtain ⟨p, hp, e⟩ := List.mem_map.mp hb
        rw [← e]
        exact hT p hp
      · have hu' := (if_neg hb).symm.trans hu
        by_cases hba : b = a
        · have hu2 := (if_pos hba).symm.trans hu'
          cases hu2
          rw [hba]
          exact ⟨ha, by rw [List.length_map]; exact hl, vs, _, rv, ha⟩
        · have hu2 := (if_neg hba).symm.trans hu'
          cases hu2
end
def lawQ (X : Tx) (K : PySem.W.Frag) (f : Nat) (x : Str) : Bool := X.B.fnB "law" f && (match (X.B.fns[f]?).join with
  | some I => !I.star
  | none => false) && (match K.lookup ((X.T K).fa f) with
  | some ⟨_, _, .func fd, _⟩ => (match fd.params with
    | ⟨[], [a], none, [], _, none, _⟩ => decide (a.arg = x) && decide (fd.defaults = .none)
    | _ => false)
  | _ => false)
/-- the part of the heap that is looked at: the first n addresses -/
def asY (_ : Addr → Option Obj) (n : Nat) : List Addr := List.range n
structure SaysY (tf : List He.Defn) (ex : PySem.W.Frag → Bool) (h : Heap) (K : PySem.W.Frag) : Prop where
  more : ex K = true
  hd : ∀ p ∈ tf, PySem.W.codeHdIn K (He.cT K p).1 (He.cT K p).2 = true
  out : ∀ p ∈ tf, K.lookup (He.cT K p).2 = none
  empty : ∀ p ∈ tf, h.get? (He.cT K p).2 = some { cls := .none, data := .fields #[] }
def obsY (n : Nat) (tf : List He.Defn) (ex : PySem.W.Frag → Bool) (g : Addr → Option Obj) : Bool := ex (He.frT g (asY g n)) && He.tabsB g tf (He.frT g (asY g n))
theorem saysY_of {n : Nat} {tf : List He.Defn} {ex : PySem.W.Frag → Bool} {h : Heap} (e : obsY n tf ex h.get? = true) : SaysY tf ex h (He.frT h.get? (asY h.get? n)) := by
  obtain ⟨e1, e2⟩ := Bool.and_eq_true_iff.mp e
  have at_ : ∀ p ∈ tf, PySem.W.codeHdIn (He.frT h.get? (asY h.get? n)) (He.cT (He.frT h.get? (asY h.get? n)) p).1 (He.cT (He.frT h.get? (asY h.get? n)) p).2 = true ∧
      ∃ o, h.get? (He.cT (He.frT h.get? (asY h.get? n)) p).2 = some o ∧ He.emptyTab o = true := fun p hp => by
    obtain ⟨a1, a2⟩ := Bool.and_eq_true_iff.mp (List.all_eq_true.mp e2 p hp)
    refine And.intro a1 ?_
    split at a2
    · rename_i o ho
      exact ⟨o, ho, a2⟩
    · cases a2
  constructor
  · exact e1
  · exact fun p hp => (at_ p hp).1
  · intro p hp
    obtain ⟨_, o, h1, h2⟩ := at_ p hp
    exact He.frT_none h1 h2
  · intro p hp
    obtain ⟨_, o, h1, h2⟩ := at_ p hp
    rw [← He.emptyTab_eq h2]
    exact h1
def hookY (n : Nat) (tf : List He.Defn) (ex : PySem.W.Frag → Bool) : PySem.W.Hook where
  α := Bool
  obs := fun s => obsY n tf ex s.heap.get?
  val := fun _ => true
  says := fun _ h => ∃ K : PySem.W.Frag, K.In h ∧ SaysY tf ex h K
  of := fun _ _ e => Exists.intro _ (And.intro He.frT_in (saysY_of e))
  keeps := fun _ _ _ hh k => by
    obtain ⟨K, i, y⟩ := hh
    exact ⟨K, PySem.W.Frag.In.keeps i k, y.more, y.hd, y.out, fun p hp => k _ _ (y.empty p hp)⟩
theorem obsY_eq {n : Nat} {tf : List He.Defn} {ex : PySem.W.Frag → Bool} {g : Addr → Option Obj} {s : Shared} (h : ∀ a, g a = s.heap.get? a) : obsY n tf ex g = (hookY n tf ex).obs s := by
  have e := funext h
  show obsY n tf ex g = obsY n tf ex s.heap.get?
  rw [e]
/-- the law's Hook -/
abbrev hkL (l : PySem.W.OpenLaw) (X : Tx) (n0 f : Nat) (x : Str) : PySem.W.Hook := hookY n0 (X.lams.map (·.1)) (fun K => allB l.prog X K && lawQ X K f x)
theorem law_end {l : PySem.W.OpenLaw} {X : Tx} {N f n0 : Nat} {x : Str} (hp : ∀ ns : List Int, ns.length ≤ 63 → (∀ z ∈ ns, Builtin.Int.intBits z ≤ 1048576) → ∃ M, callF X.B.P N f none [.d (.scr (ns.map .int))] [] = .ok (.d (.bl true)) M)
    (hn : l.most = some 63) (hr : Room (4 * N + 1) callerA) {q : Program} {loose : List Str} {XP : (Str → Option Value) → Heap → Prop} {d : DefRec} (hdf : d.params.defaults = []) (hd : d.name = ("law" : Str)) :
    PySem.W.WalkO q loose XP (hkL l X n0 f x).says l.row.toRowW d [] (fun f vs => PySem.call f vs) := by
  refine Att.attach_callB hn hdf fun w s0 s1 mg mb fa o pm cd doc a vs ns G Y ho hdt hcd hmg hobj hints hlen hbits hgen => ?_
  rw [hd] at hmg
  obtain ⟨K, KX, c⟩ := Y
  have am : ∀ S, ¬ (X.T K).am S := fun _ z => z
  obtain ⟨m1, m2⟩ := ba c.more
  unfold lawQ at m2
  simp only [Bool.and_eq_true] at m2
  obtain ⟨⟨n1, n3⟩, n4⟩ := m2
  have GM := G.T.g
  have efa : fa = (X.T K).fa f := by
    unfold allB at m1
    simp only [Bool.and_eq_true, decide_eq_true_eq] at m1
    unfold Tb.fnB at n1
    split at n1
    · rename_i g hg
      have e := of_decide_eq_true n1
      subst e
      have z : gkK K (X.T K) "law" (.fn f) = true := List.all_eq_true.mp m1.1.1.1.1.2 ("law", .fn f) (mem_of_lookup hg)
      have z2 := gkK_ok (T := X.T K) rfl KX GM z
      have z3 : mg "law" = some (.ref ((X.T K).fa f)) := z2.1
      rw [hmg] at z3
      cases z3
      rfl
    · cases n1
  subst efa
  split at n4 <;> try cases n4
  rename_i oc od fd osl lk
  split at n4 <;> try cases n4
  rename_i a1 kd dfs hpar
  simp only [Bool.and_eq_true, decide_eq_true_eq] at n4
  obtain ⟨ex, ed⟩ := n4
  have hT : ∀ p ∈ X.lams.map fun p => He.cT K p.1, s1.heap.get? p.2 = some { cls := .none, data := .fields #[] } := fun p hp' => by
    obtain ⟨q, hq, rfl⟩ := List.mem_map.mp hp'
    exact c.empty q.1 (List.mem_map.mpr ⟨q, hq, rfl⟩)
  have hKo : ∀ p ∈ X.lams.map fun p => He.cT K p.1, K.lookup p.2 = none := fun p hp' => by
    obtain ⟨q, hq, rfl⟩ := List.mem_map.mp hp'
    exact c.out q.1 (List.mem_map.mpr ⟨q, hq, rfl⟩)
  have hC : ∀ p ∈ X.lams.map fun p => He.cT K p.1, PySem.W.CodeHd s1.heap p.1 p.2 := fun p hp' => by
    obtain ⟨q, hq, rfl⟩ := List.mem_map.mp hp'
    exact PySem.W.codeHd_of_K KX (c.hd q.1 (List.mem_map.mpr ⟨q, hq, rfl⟩))
  have hl2 : ns.length ≤ sizeLine := by
    rw [sizeLine_eq]
    omega
  obtain ⟨H, F, ok⟩ := first_of (P := l.prog) (w := w) (K := K) KX hints hl2 hobj hT
  obtain ⟨kin, gin, TB, e0⟩ := base_of KX GM G.T.b G.T.builtins G.T.nolimit hgen hobj hT hKo hC G.T.bmain F ok
  obtain ⟨b, rb⟩ := base_ok (Pr := l.prog) (w := w) (base := hidT s1.heap H) KX GM m1 (fun p hp' => TB (He.cT K p.1) (List.mem_map.mpr ⟨p, hp', rfl⟩))
  obtain ⟨_, _, kw⟩ := all_ok am (defs_ok b rb) N
  obtain ⟨M, hM⟩ := hp ns hlen hbits
  obtain ⟨S, e1, e2, e3, e4⟩ := entry (T := X.T K) (H := H) (a := a) (ns := ns) am (fun p hp' => by
    obtain ⟨q, hq, rfl⟩ := List.mem_map.mp (show p ∈ X.lams.map fun p => ((He.cT K p.1).2, p.2) from hp')
    exact F.tbl (He.cT K q.1).2 (List.mem_map.mpr ⟨He.cT K q.1, List.mem_map.mpr ⟨q, hq, rfl⟩, rfl⟩)) F.scr
  subst e1
  have bnd : BindsTo s1 fd ⟨[.ref a], []⟩ ((fd.params.args.map (·.arg)).zip [.ref a]) := by
    have z := bindArgs_plain (fd := fd) (us := [.ref a]) (ds := []) (s := s1) hpar (by simp) (by simp) (by simp) (by simp) (.inl ⟨ed, rfl⟩)
    rw [hpar]
    simpa using z
  refine codeAny_mono (kw f oc od fd osl callerA [] s1 S ⟨[.ref a], []⟩ _ [.ref a] [.ref a] (fun v _ => v = .bl true) (fun _ _ _ => False) lk (fun I hI => ?_) hr (.inr rfl) e0 bnd (.cons rfl .nil) (by rw [hpar]; rfl) e3 e4 ?_) fun r s2 hq => goal_of (by rw [List.length_map]; exact hints.length) hobj hT hC F ok hq
  · have z : (X.B.fns[f]?).join = some I := hI
    rw [z] at n3
    simpa using n3
  · rw [e2, hM]
    intro S' v g w' e r
    exact rl_bl (T := X.T K) (F := S'.F) r
end BV

set_option Elab.async false
set_option maxRecDepth 100000
set_option maxHeartbeats 0
namespace L16
open PySem BV
/-- is_integer -/
def b8 : Ss := (.cons (.ret (.andV (.bi (.isi [] ["int"]) (.cons (.v 0) .nil)) (.tst (.not (.tr (.bi (.isi [] ["bool"]) (.cons (.v 0) .nil))))))) .nil)
def i8 : FnI := ⟨1, false, [], true, 1, b8, false⟩
/-- is_within -/
def b9 : Ss := (.cons (.ret (.andV (.call 8 (.cons (.v 0) .nil)) (.chain .le .le (.v 1) (.v 0) (.v 2)))) .nil)
def i9 : FnI := ⟨3, false, [], true, 3, b9, false⟩
/-- is_number -/
def b10 : Ss := (.cons (.ret (.call 9 (.cons (.v 0) (.cons (.c (.int 0)) (.cons (.c (.int (999999999999999999999999999999999999999999999999999999999999))) .nil))))) .nil)
def i10 : FnI := ⟨1, false, [], true, 1, b10, false⟩
/-- is_size -/
def b11 : Ss := (.cons (.ret (.call 9 (.cons (.v 0) (.cons (.c (.int 1)) (.cons (.c (.int 9)) .nil))))) .nil)
def i11 : FnI := ⟨1, false, [], true, 1, b11, false⟩
/-- need_number -/
def b12 : Ss := (.cons (.ifs (.not (.tr (.call 10 (.cons (.v 0) .nil)))) (.cons (.raise 1 (.cons (.v 0) .nil)) .nil) .nil) .nil)
def i12 : FnI := ⟨1, false, [], true, 1, b12, false⟩
/-- need_size -/
def b13 : Ss := (.cons (.ifs (.not (.tr (.call 11 (.cons (.v 0) .nil)))) (.cons (.raise 2 (.cons (.v 0) .nil)) .nil) .nil) .nil)
def i13 : FnI := ⟨1, false, [], true, 1, b13, false⟩
/-- beyond -/
def b15 : Ss := (.cons (.asg 4 (.c (.int 0))) (.cons (.for [5] (.rng (.cons (.c (.int 1)) (.cons (.v 2) .nil))) (.cons (.asg 4 (.bi .max (.cons (.v 4) (.cons (.bi .int (.cons (.o2 .sub (.o2 .get (.v 0) (.o2 .sub (.v 5) (.c (.int 1)))) (.me 30 (.v 1) (.cons (.v 5) (.cons (.v 3) .nil)))) .nil)) .nil)))) .nil)) (.cons (.ret (.v 4)) .nil)))
def i15 : FnI := ⟨4, false, [], false, 6, b15, false⟩
/-- needs_of -/
def b16 : Ss := (.cons (.asg 2 (.dsp .mut .nil)) (.cons (.for [3] (.rng (.cons (.c (.int 1)) (.cons (.o2 .add (.c (.int 9)) (.c (.int 1))) .nil))) (.cons (.ex (.bm .append (.v 2) (.cons (.bi .min (.cons (.cp false (.rng (.cons (.c (.int 1)) (.cons (.o2 .add (.v 3) (.c (.int 1))) .nil))) [4] .nil (.bi .int (.cons (.o2 .add (.o2 .get (.v 0) (.v 4)) (.call 15 (.cons (.v 2) (.cons (.v 1) (.cons (.v 4) (.cons (.v 3) .nil)))))) .nil))) .nil)) .nil))) .nil)) (.cons (.ret (.o1 .fz (.v 2))) .nil)))
def i16 : FnI := ⟨2, false, [], true, 5, b16, false⟩
/-- Needs.__init__ -/
def b17 : Ss := (.cons (.fld (.v 0) 33 (.v 1)) (.cons (.fld (.v 0) 32 (.v 2)) (.cons (.fld (.v 0) 31 (.call 16 (.cons (.v 1) (.cons (.v 2) .nil)))) .nil)))
def i17 : FnI := ⟨3, false, [], false, 3, b17, false⟩
/-- Needs.__getitem__ -/
def b22 : Ss := (.cons (.ex (.call 13 (.cons (.v 1) .nil))) (.cons (.ret (.o2 .get (.o1 (.at 31) (.v 0)) (.o2 .sub (.v 1) (.c (.int 1))))) .nil))
def i22 : FnI := ⟨2, false, [], true, 2, b22, false⟩
/-- needs -/
def b25 : Ss := (.cons (.ret (.mk 8 (.cons (.v 0) (.cons (.v 1) .nil)))) .nil)
def i25 : FnI := ⟨2, false, [], true, 2, b25, false⟩
/-- Told.__init__ -/
def b36 : Ss := (.cons (.fld (.v 0) 34 (.v 1)) .nil)
def i36 : FnI := ⟨2, false, [], false, 2, b36, false⟩
/-- trimmed -/
def b37 : Ss := (.cons (.asg 1 (.bi .len (.cons (.v 0) .nil))) (.cons (.whl 1000 (.and (.tr (.o2 .gt (.v 1) (.c (.int 0)))) (.tr (.o2 .eq (.o2 .get (.v 0) (.o2 .sub (.v 1) (.c (.int 1)))) (.c (.int 0))))) (.cons (.asg 1 (.o2 .sub (.v 1) (.c (.int 1)))) .nil)) (.cons (.ret (.bi .tuple (.cons (.sl false (.v 0) .none (.some (.v 1))) .nil))) .nil)))
def i37 : FnI := ⟨1, false, [], true, 2, b37, false⟩
/-- checked -/
def b39 : Ss := (.cons (.ifs (.and (.tr (.o2 .eq (.bi .len (.cons (.v 0) .nil)) (.c (.int 1)))) (.tr (.bi (.isi [10] []) (.cons (.o2 .get (.v 0) (.c (.int 0))) .nil)))) (.cons (.ret (.call 37 (.cons (.o1 (.at 34) (.o2 .get (.v 0) (.c (.int 0)))) .nil))) .nil) .nil) (.cons (.for [1] (.e (.v 0)) (.cons (.ex (.call 12 (.cons (.v 1) .nil))) .nil)) (.cons (.ifs (.tr (.o2 .gt (.bi .len (.cons (.v 0) .nil)) (.c (.int 9)))) (.cons (.raise 6 (.cons (.c (.str "sizes")) (.cons (.c (.int 9)) .nil))) .nil) .nil) (.cons (.ret (.call 37 (.cons (.v 0) .nil))) .nil))))
def i39 : FnI := ⟨1, false, [], true, 2, b39, false⟩
/-- need_row -/
def b41 : Ss := (.cons (.ifs (.not (.tr (.bi (.isi [] ["list", "tuple"]) (.cons (.v 0) .nil)))) (.cons (.raise 3 (.cons (.v 0) .nil)) .nil) .nil) .nil)
def i41 : FnI := ⟨1, false, [], true, 1, b41, false⟩
/-- Counts.__init__ -/
def b45 : Ss := (.cons (.fld (.v 0) 35 (.call 39 (.cons (.v 1) .nil))) .nil)
def i45 : FnI := ⟨2, true, [], false, 2, b45, false⟩
/-- Counts.of_size -/
def b49 : Ss := (.cons (.ret (.ite (.tr (.o2 .le (.v 1) (.bi .len (.cons (.o1 (.at 35) (.v 0)) .nil)))) (.o2 .get (.o1 (.at 35) (.v 0)) (.o2 .sub (.v 1) (.c (.int 1)))) (.c (.int 0)))) .nil)
def i49 : FnI := ⟨2, false, [], true, 2, b49, false⟩
/-- Counts.between -/
def b52 : Ss := (.cons (.ex (.call 13 (.cons (.v 1) .nil))) (.cons (.ex (.call 13 (.cons (.v 2) .nil))) (.cons (.ret (.bi .sum (.cons (.sl false (.o1 (.at 35) (.v 0)) (.some (.o2 .sub (.v 1) (.c (.int 1)))) (.some (.o2 .sub (.v 2) (.c (.int 1))))) .nil))) .nil)))
def i52 : FnI := ⟨3, false, [], true, 3, b52, false⟩
/-- House.of -/
def b69 : Ss := (.cons (.ex (.call 41 (.cons (.v 1) .nil))) (.cons (.ret (.mkv (.v 0) (.star (.v 1) .nil))) .nil))
def i69 : FnI := ⟨2, false, [], true, 2, b69, false⟩
/-- checked_limits -/
def b75 : Ss := (.cons (.ifs (.and (.tr (.o2 .eq (.bi .len (.cons (.v 0) .nil)) (.c (.int 1)))) (.tr (.bi (.isi [10] []) (.cons (.o2 .get (.v 0) (.c (.int 0))) .nil)))) (.cons (.ret (.call 37 (.cons (.o1 (.at 34) (.o2 .get (.v 0) (.c (.int 0)))) .nil))) .nil) .nil) (.cons (.for [1] (.e (.v 0)) (.cons (.ex (.call 12 (.cons (.v 1) .nil))) .nil)) (.cons (.for [2] (.rng (.cons (.c (.int 1)) (.cons (.bi .len (.cons (.v 0) .nil)) .nil))) (.cons (.ifs (.tr (.o2 .lt (.o2 .get (.v 0) (.o2 .sub (.v 2) (.c (.int 1)))) (.o2 .get (.v 0) (.v 2)))) (.cons (.raise 4 (.cons (.v 2) .nil)) .nil) .nil) .nil)) (.cons (.ifs (.tr (.o2 .gt (.bi .len (.cons (.v 0) .nil)) (.c (.int 9)))) (.cons (.raise 6 (.cons (.c (.str "sizes")) (.cons (.c (.int 9)) .nil))) .nil) .nil) (.cons (.ret (.call 37 (.cons (.v 0) .nil))) .nil)))))
def i75 : FnI := ⟨1, false, [], true, 3, b75, false⟩
/-- Limits.__init__ -/
def b78 : Ss := (.cons (.fld (.v 0) 35 (.call 75 (.cons (.v 1) .nil))) .nil)
def i78 : FnI := ⟨2, true, [], false, 2, b78, false⟩
/-- Limits.of -/
def b79 : Ss := (.cons (.ifs (.not (.tr (.bi (.isi [] ["list", "tuple"]) (.cons (.v 1) .nil)))) (.cons (.raise 3 (.cons (.v 1) .nil)) .nil) .nil) (.cons (.ret (.mkv (.v 0) (.star (.v 1) .nil))) .nil))
def i79 : FnI := ⟨2, false, [], true, 2, b79, false⟩
/-- Limits.of_size -/
def b83 : Ss := (.cons (.ret (.ite (.tr (.o2 .le (.v 1) (.bi .len (.cons (.o1 (.at 35) (.v 0)) .nil)))) (.o2 .get (.o1 (.at 35) (.v 0)) (.o2 .sub (.v 1) (.c (.int 1)))) (.c (.int 0)))) .nil)
def i83 : FnI := ⟨2, false, [], true, 2, b83, false⟩
/-- Limits.__getitem__ -/
def b84 : Ss := (.cons (.ex (.call 13 (.cons (.v 1) .nil))) (.cons (.ret (.me 36 (.v 0) (.cons (.v 1) .nil))) .nil))
def i84 : FnI := ⟨2, false, [], true, 2, b84, false⟩
/-- _law_pen -/
def b101 : Ss := (.cons (.ret (.dsp .mut (.cons (.bi .list (.cons (.sl false (.v 0) .none (.some (.c (.int 63)))) .nil)) (.cons (.c (.int 0)) (.cons (.c (.int 0)) .nil))))) .nil)
def i101 : FnI := ⟨1, false, [], false, 1, b101, false⟩
/-- _law_draw -/
def b102 : Ss := (.cons (.ifs (.tr (.o2 .gt (.o2 .get (.v 0) (.c (.int 2))) (.c (.int 0)))) (.cons (.asg 5 (.o2 .mod (.bi .int (.cons (.o2 .get (.v 0) (.c (.int 2))) .nil)) (.v 1))) (.cons (.sub (.v 0) (.c (.int 2)) (.o2 .fdiv (.bi .int (.cons (.o2 .get (.v 0) (.c (.int 2))) .nil)) (.v 1))) (.cons (.ret (.v 5)) .nil))) .nil) (.cons (.asg 2 (.o2 .get (.v 0) (.c (.int 1)))) (.cons (.sub (.v 0) (.c (.int 1)) (.o2 .add (.v 2) (.c (.int 1)))) (.cons (.asg 3 (.o2 .add (.o2 .mul (.c (.int 88032)) (.v 2)) (.c (.int 3692)))) (.cons (.ifs (.tr (.o2 .ne (.o2 .get (.v 0) (.c (.int 0))) (.dsp .lst .nil))) (.cons (.asg 3 (.o2 .get (.o2 .get (.v 0) (.c (.int 0))) (.o2 .mod (.bi .int (.cons (.v 2) .nil)) (.bi .len (.cons (.o2 .get (.v 0) (.c (.int 0))) .nil))))) .nil) .nil) (.cons (.ifs (.and (.tr (.o2 .lt (.v 2) (.bi .len (.cons (.o2 .get (.v 0) (.c (.int 0))) .nil)))) (.tr (.o2 .ge (.bi .abs (.cons (.v 3) .nil)) (.o2 .pow (.c (.int 10)) (.c (.int 18)))))) (.cons (.asg 6 (.o2 .add (.o2 .mul (.c (.int 2)) (.o2 .sub (.bi .abs (.cons (.v 3) .nil)) (.o2 .pow (.c (.int 10)) (.c (.int 18))))) (.bi .int (.cons (.o2 .lt (.v 3) (.c (.int 0))) .nil)))) (.cons (.sub (.v 0) (.c (.int 2)) (.o2 .fdiv (.bi .int (.cons (.v 6) .nil)) (.v 1))) (.cons (.ret (.o2 .mod (.bi .int (.cons (.v 6) .nil)) (.v 1))) .nil))) .nil) (.cons (.asg 4 (.o2 .mod (.bi .int (.cons (.o2 .pow (.o2 .add (.o2 .add (.o2 .mod (.bi .int (.cons (.v 3) .nil)) (.c (.int 2147483549))) (.o2 .mul (.c (.int 80088)) (.v 2))) (.c (.int 3692))) (.c (.int 5))) .nil)) (.c (.int 2147483629)))) (.cons (.asg 4 (.o2 .mod (.bi .int (.cons (.o2 .pow (.o2 .add (.o2 .add (.o2 .mul (.v 4) (.o2 .add (.o2 .mul (.c (.int 2)) (.v 2)) (.c (.int 843)))) (.o2 .mul (.o2 .mul (.c (.int 71864)) (.v 2)) (.v 2))) (.c (.int 80088))) (.c (.int 3))) .nil)) (.c (.int 2147483587)))) (.cons (.ret (.o2 .mod (.bi .int (.cons (.o2 .fdiv (.v 4) (.c (.int 32))) .nil)) (.v 1))) .nil)))))))))
def i102 : FnI := ⟨2, false, [], false, 7, b102, false⟩
/-- _law_pick -/
def b103 : Ss := (.cons (.ret (.o2 .get (.v 1) (.call 102 (.cons (.v 0) (.cons (.bi .len (.cons (.v 1) .nil)) .nil))))) .nil)
def i103 : FnI := ⟨2, false, [], false, 2, b103, false⟩
/-- _law_told -/
def b104 : Ss := (.cons (.asg 3 (.dsp .mut .nil)) (.cons (.for [4] (.rng (.cons (.call 102 (.cons (.v 0) (.cons (.o2 .add (.v 1) (.c (.int 1))) .nil))) .nil)) (.cons (.asg 5 (.ite (.tr (.o2 .ne (.v 3) (.dsp .lst .nil))) (.o2 .get (.v 3) (.o1 .neg (.c (.int 1)))) (.v 2))) (.cons (.ex (.bm .append (.v 3) (.cons (.call 103 (.cons (.v 0) (.cons (.dsp .lst (.cons (.v 5) (.cons (.call 102 (.cons (.v 0) (.cons (.o2 .add (.v 5) (.c (.int 1))) .nil))) (.cons (.o2 .sub (.v 5) (.bi .int (.cons (.o2 .gt (.v 5) (.c (.int 0))) .nil))) .nil)))) .nil))) .nil))) .nil))) (.cons (.whl 1000 (.and (.tr (.o2 .ne (.v 3) (.dsp .lst .nil))) (.tr (.o2 .eq (.o2 .get (.v 3) (.o1 .neg (.c (.int 1)))) (.c (.int 0))))) (.cons (.ex (.bm .pop (.v 3) .nil)) .nil)) (.cons (.ret (.o1 .fz (.v 3))) .nil))))
def i104 : FnI := ⟨3, false, [], false, 6, b104, false⟩
/-- _law_row -/
def b105 : Ss := (.cons (.asg 3 (.o2 .mulm (.dsp .lst (.cons (.c (.int 0)) .nil)) (.v 2))) (.cons (.ifs (.tr (.o2 .eq (.call 102 (.cons (.v 0) (.cons (.c (.int 4)) .nil))) (.c (.int 0)))) (.cons (.ret (.cp false (.rng (.cons (.v 2) .nil)) [5] .nil (.call 102 (.cons (.v 0) (.cons (.c (.int 4)) .nil))))) .nil) .nil) (.cons (.asg 4 (.c (.int 1))) (.cons (.for [5] (.rng (.cons (.c (.int 1)) (.cons (.o2 .add (.bi .len (.cons (.v 1) .nil)) (.c (.int 1))) .nil))) (.cons (.ifs (.or (.tr (.o2 .eq (.v 5) (.bi .len (.cons (.v 1) .nil)))) (.tr (.o2 .eq (.call 102 (.cons (.v 0) (.cons (.c (.int 2)) .nil))) (.c (.int 0))))) (.cons (.asg 8 (.ite (.tr (.o2 .lt (.v 5) (.v 2))) (.o2 .add (.v 5) (.call 102 (.cons (.v 0) (.cons (.c (.int 2)) .nil)))) (.v 5))) (.cons (.sub (.v 3) (.o2 .sub (.v 8) (.c (.int 1))) (.o2 .add (.o2 .get (.v 3) (.o2 .sub (.v 8) (.c (.int 1)))) (.o2 .get (.v 1) (.o2 .sub (.v 4) (.c (.int 1)))))) (.cons (.asg 4 (.o2 .add (.v 5) (.c (.int 1)))) .nil))) .nil) .nil)) (.cons (.for [6] (.rng (.cons (.call 102 (.cons (.v 0) (.cons (.c (.int 3)) .nil))) .nil)) (.cons (.asg 7 (.call 102 (.cons (.v 0) (.cons (.v 2) .nil)))) (.cons (.sub (.v 3) (.v 7) (.o2 .add (.o2 .get (.v 3) (.v 7)) (.call 103 (.cons (.v 0) (.cons (.dsp .lst (.cons (.c (.int 1)) (.cons (.c (.int 1)) (.cons (.o2 .sub (.c (.int 0)) (.bi .int (.cons (.o2 .gt (.o2 .get (.v 3) (.v 7)) (.c (.int 0))) .nil))) .nil)))) .nil))))) .nil))) (.cons (.ret (.o1 .fz (.v 3))) .nil))))))
def i105 : FnI := ⟨3, false, [], false, 9, b105, false⟩
/-- _law_numbers -/
def b106 : Ss := (.cons (.asg 2 (.call 25 (.cons (.me 37 (.c (.cls 14)) (.cons (.v 0) .nil)) (.cons (.me 37 (.c (.cls 12)) (.cons (.v 1) .nil)) .nil)))) (.cons (.ret (.cp false (.rng (.cons (.c (.int 1)) (.cons (.c (.int 10)) .nil))) [3] .nil (.o2 .get (.v 2) (.v 3)))) .nil))
def i106 : FnI := ⟨2, false, [], true, 4, b106, false⟩
/-- _law_falls -/
def b107 : Ss := (.cons (.for [3] (.rng (.cons (.c (.int 1)) (.cons (.c (.int 10)) .nil))) (.cons (.asg 4 (.ite (.tr (.o2 .le (.v 3) (.bi .len (.cons (.v 1) .nil)))) (.o2 .get (.v 1) (.o2 .sub (.v 3) (.c (.int 1)))) (.c (.int 0)))) (.cons (.ifs (.or (.tr (.o2 .lt (.o2 .get (.v 0) (.o2 .sub (.v 3) (.c (.int 1)))) (.v 4))) (.tr (.o2 .gt (.o2 .get (.v 0) (.o2 .sub (.v 3) (.c (.int 1)))) (.ite (.tr (.o2 .ne (.v 1) (.dsp .lst .nil))) (.o2 .get (.v 1) (.c (.int 0))) (.c (.int 0)))))) (.cons (.ret (.c (.bl false))) .nil) .nil) (.cons (.for [5] (.rng (.cons (.c (.int 1)) (.cons (.v 3) .nil))) (.cons (.ifs (.or (.tr (.o2 .lt (.o2 .get (.v 0) (.o2 .sub (.v 5) (.c (.int 1)))) (.o2 .get (.v 0) (.o2 .sub (.v 3) (.c (.int 1)))))) (.tr (.o2 .lt (.o2 .add (.o2 .get (.v 0) (.o2 .sub (.v 3) (.c (.int 1)))) (.bi .sum (.cons (.sl false (.v 2) (.some (.o2 .sub (.v 5) (.c (.int 1)))) (.some (.o2 .sub (.v 3) (.c (.int 1))))) .nil))) (.o2 .get (.v 0) (.o2 .sub (.v 5) (.c (.int 1))))))) (.cons (.ret (.c (.bl false))) .nil) .nil) .nil)) .nil)))) (.cons (.ret (.c (.bl true))) .nil))
def i107 : FnI := ⟨3, false, [], true, 6, b107, false⟩
/-- law -/
def b108 : Ss := (.cons (.asg 1 (.call 101 (.cons (.v 0) .nil))) (.cons (.for [2] (.rng (.cons (.c (.int 6)) .nil)) (.cons (.par [11, 12] (.cons (.call 103 (.cons (.v 1) (.cons (.dsp .lst (.cons (.c (.int 2)) (.cons (.c (.int 3)) (.cons (.c (.int 5)) (.cons (.c (.int 9)) .nil))))) .nil))) (.cons (.call 103 (.cons (.v 1) (.cons (.dsp .lst (.cons (.c (.int 1)) (.cons (.c (.int 1)) (.cons (.o2 .pow (.c (.int 10)) (.c (.int 20))) (.cons (.o2 .pow (.c (.int 10)) (.c (.int 50))) .nil))))) .nil))) .nil))) (.cons (.asg 3 (.cp false (.e (.call 104 (.cons (.v 1) (.cons (.v 11) (.cons (.call 103 (.cons (.v 1) (.cons (.dsp .lst (.cons (.c (.int 2)) (.cons (.c (.int 4)) (.cons (.c (.int 9)) .nil)))) .nil))) .nil))))) [13] .nil (.o2 .mul (.v 12) (.v 13)))) (.cons (.asg 4 (.cp false (.e (.call 105 (.cons (.v 1) (.cons (.cp false (.e (.v 3)) [13] .nil (.o2 .fdiv (.v 13) (.v 12))) (.cons (.v 11) .nil))))) [13] .nil (.o2 .mul (.v 12) (.v 13)))) (.cons (.asg 5 (.call 106 (.cons (.v 3) (.cons (.v 4) .nil)))) (.cons (.ifs (.not (.tr (.call 107 (.cons (.v 5) (.cons (.v 3) (.cons (.v 4) .nil)))))) (.cons (.ret (.c (.bl false))) .nil) .nil) (.cons (.asg 6 (.cp false (.e (.v 3)) [13] .nil (.o2 .add (.v 13) (.call 103 (.cons (.v 1) (.cons (.dsp .lst (.cons (.c (.int 0)) (.cons (.c (.int 1)) (.cons (.v 12) .nil)))) .nil)))))) (.cons (.asg 6 (.cp false (.rng (.cons (.bi .len (.cons (.v 6) .nil)) .nil)) [14] .nil (.bi .max (.cons (.cp false (.e (.sl false (.v 6) (.some (.v 14)) .none)) [13] .nil (.bi .int (.cons (.v 13) .nil))) .nil)))) (.cons (.ifs (.tr (.o2 .ne (.cp false (.enum (.call 106 (.cons (.v 6) (.cons (.v 4) .nil))) 0) [14, 13] (.cons (.tr (.o2 .lt (.v 13) (.o2 .get (.v 5) (.v 14)))) .nil) (.v 14)) (.dsp .lst .nil))) (.cons (.ret (.c (.bl false))) .nil) .nil) (.cons (.asg 7 (.o2 .add (.c (.int 1)) (.call 102 (.cons (.v 1) (.cons (.v 11) .nil))))) (.cons (.asg 8 (.o2 .add (.o2 .add (.sl false (.v 4) .none (.some (.o2 .sub (.v 7) (.c (.int 1))))) (.dsp .lst (.cons (.o2 .add (.o2 .add (.o2 .get (.v 4) (.o2 .sub (.v 7) (.c (.int 1)))) (.c (.int 1))) (.call 102 (.cons (.v 1) (.cons (.c (.int 3)) .nil)))) .nil))) (.sl false (.v 4) (.some (.v 7)) .none))) (.cons (.asg 9 (.call 106 (.cons (.v 3) (.cons (.v 8) .nil)))) (.cons (.ifs (.or (.tr (.o2 .ne (.sl false (.v 9) .none (.some (.v 7))) (.sl false (.v 5) .none (.some (.v 7))))) (.tr (.o2 .ne (.cp false (.rng (.cons (.c (.int 9)) .nil)) [14] (.cons (.tr (.o2 .gt (.o2 .get (.v 9) (.v 14)) (.o2 .get (.v 5) (.v 14)))) .nil) (.v 14)) (.dsp .lst .nil)))) (.cons (.ret (.c (.bl false))) .nil) .nil) (.cons (.asg 10 (.call 103 (.cons (.v 1) (.cons (.dsp .lst (.cons (.c (.int 2)) (.cons (.c (.int 3)) (.cons (.c (.int 7)) (.cons (.o2 .pow (.c (.int 10)) (.c (.int 8))) .nil))))) .nil)))) (.cons (.ifs (.tr (.o2 .ne (.call 106 (.cons (.cp false (.e (.v 3)) [13] .nil (.o2 .mul (.v 10) (.v 13))) (.cons (.cp false (.e (.v 4)) [13] .nil (.o2 .mul (.v 10) (.v 13))) .nil))) (.cp false (.e (.v 5)) [15] .nil (.o2 .mul (.v 10) (.v 15))))) (.cons (.ret (.c (.bl false))) .nil) .nil) .nil))))))))))))))) (.cons (.ret (.c (.bl true))) .nil)))
def i108 : FnI := ⟨1, false, [], true, 16, b108, false⟩
def tfns0 : List (Option FnI) := [none,
  none,
  none,
  none,
  none,
  none,
  none,
  none,
  some i8,
  some i9,
  some i10,
  some i11]
def tfns1 : List (Option FnI) := [some i12,
  some i13,
  none,
  some i15,
  some i16,
  some i17,
  none,
  none,
  none,
  none,
  some i22,
  none]
def tfns2 : List (Option FnI) := [none,
  some i25,
  none,
  none,
  none,
  none,
  none,
  none,
  none,
  none,
  none,
  none]
def tfns3 : List (Option FnI) := [some i36,
  some i37,
  none,
  some i39,
  none,
  some i41,
  none,
  none,
  none,
  some i45,
  none,
  none]
def tfns4 : List (Option FnI) := [none,
  some i49,
  none,
  none,
  some i52,
  none,
  none,
  none,
  none,
  none,
  none,
  none]
def tfns5 : List (Option FnI) := [none,
  none,
  none,
  none,
  none,
  none,
  none,
  none,
  none,
  some i69,
  none,
  none]
def tfns6 : List (Option FnI) := [none,
  none,
  none,
  some i75,
  none,
  none,
  some i78,
  some i79,
  none,
  none,
  none,
  some i83]
def tfns7 : List (Option FnI) := [some i84,
  none,
  none,
  none,
  none,
  none,
  none,
  none,
  none,
  none,
  none,
  none]
def tfns8 : List (Option FnI) := [none,
  none,
  none,
  none,
  none,
  some i101,
  some i102,
  some i103,
  some i104,
  some i105,
  some i106,
  some i107]
def tfns9 : List (Option FnI) := [some i108]
def tfns : List (Option FnI) := tfns0 ++ tfns1 ++ tfns2 ++ tfns3 ++ tfns4 ++ tfns5 ++ tfns6 ++ tfns7 ++ tfns8 ++ tfns9
def tgl0 : List (Str × Gk) := [⟨"BadLimits", .cls 4⟩,
  ⟨"BadList", .cls 3⟩,
  ⟨"BadNumber", .cls 1⟩,
  ⟨"BadSize", .cls 2⟩,
  ⟨"House", .cls 12⟩,
  ⟨"Limits", .cls 14⟩,
  ⟨"MOST_NUMBER", .con (.int (999999999999999999999999999999999999999999999999999999999999))⟩,
  ⟨"MOST_SIZE", .con (.int 9)⟩,
  ⟨"Needs", .cls 8⟩,
  ⟨"Told", .cls 10⟩,
  ⟨"TooMany", .cls 6⟩,
  ⟨"_law_draw", .fn 102⟩]
def tgl1 : List (Str × Gk) := [⟨"_law_falls", .fn 107⟩,
  ⟨"_law_numbers", .fn 106⟩,
  ⟨"_law_pen", .fn 101⟩,
  ⟨"_law_pick", .fn 103⟩,
  ⟨"_law_row", .fn 105⟩,
  ⟨"_law_told", .fn 104⟩,
  ⟨"abs", .bt⟩,
  ⟨"beyond", .fn 15⟩,
  ⟨"bool", .bt⟩,
  ⟨"checked", .fn 39⟩,
  ⟨"checked_limits", .fn 75⟩,
  ⟨"enumerate", .bt⟩]
def tgl2 : List (Str × Gk) := [⟨"int", .bt⟩,
  ⟨"is_integer", .fn 8⟩,
  ⟨"is_number", .fn 10⟩,
  ⟨"is_size", .fn 11⟩,
  ⟨"is_within", .fn 9⟩,
  ⟨"isinstance", .bt⟩,
  ⟨"law", .fn 108⟩,
  ⟨"len", .bt⟩,
  ⟨"list", .bt⟩,
  ⟨"max", .bt⟩,
  ⟨"min", .bt⟩,
  ⟨"need_number", .fn 12⟩]
def tgl3 : List (Str × Gk) := [⟨"need_row", .fn 41⟩,
  ⟨"need_size", .fn 13⟩,
  ⟨"needs", .fn 25⟩,
  ⟨"needs_of", .fn 16⟩,
  ⟨"range", .bt⟩,
  ⟨"sum", .bt⟩,
  ⟨"trimmed", .fn 37⟩,
  ⟨"tuple", .bt⟩]
def tgl : List (Str × Gk) := tgl0 ++ tgl1 ++ tgl2 ++ tgl3
def ton0 : List Str := ["between",
  "own_numbers",
  "own_house",
  "own_limits",
  "told_row",
  "own_row",
  "of_size",
  "of",
  "value",
  "at",
  "size",
  "what"]
def ton1 : List Str := ["most",
  "line",
  "word",
  "split_words",
  "line_index",
  "next_index"]
def ton : List Str := ton0 ++ ton1
def tme0 : List ((Nat × Nat) × Nat) := [((8, 14), 22),
  ((11, 36), 49),
  ((11, 30), 52),
  ((12, 36), 49),
  ((12, 30), 52),
  ((13, 36), 49),
  ((13, 30), 52),
  ((14, 36), 83),
  ((14, 14), 84)]
def tme : List ((Nat × Nat) × Nat) := tme0
def tcm0 : List ((Nat × Nat) × Nat) := [((12, 37), 69),
  ((14, 37), 79)]
def tcm : List ((Nat × Nat) × Nat) := tcm0
def tpr0 : List ((Nat × Nat) × Nat) := []
def tpr : List ((Nat × Nat) × Nat) := tpr0
def tfd0 : List ((Nat × Nat) × Nat) := [((8, 33), 0),
  ((8, 32), 1),
  ((8, 31), 2),
  ((9, 45), 0),
  ((9, 46), 1),
  ((9, 47), 2),
  ((10, 34), 0),
  ((11, 35), 0),
  ((12, 35), 0),
  ((13, 35), 0),
  ((14, 35), 0)]
def tfd : List ((Nat × Nat) × Nat) := tfd0
def txf0 : List ((Nat × Nat) × Nat) := [((1, 38), 0),
  ((2, 38), 0),
  ((3, 38), 0),
  ((4, 39), 0),
  ((5, 40), 0),
  ((6, 41), 0),
  ((6, 42), 1),
  ((7, 43), 0),
  ((7, 44), 1)]
def txf : List ((Nat × Nat) × Nat) := txf0
def tsb0 : List (Nat × Nat) := [(0, 0),
  (1, 1),
  (1, 0),
  (2, 2),
  (2, 0),
  (3, 3),
  (3, 0),
  (4, 4),
  (4, 0),
  (5, 5),
  (5, 0),
  (6, 6)]
def tsb1 : List (Nat × Nat) := [(6, 0),
  (7, 7),
  (7, 0),
  (8, 8),
  (9, 9),
  (10, 10),
  (11, 11),
  (12, 12),
  (12, 11),
  (13, 13),
  (13, 11),
  (14, 14)]
def tsb : List (Nat × Nat) := tsb0 ++ tsb1
def B : Tb := ⟨tgl, ton, tfns, tme, tcm, tpr, [], tfd, txf, tsb, [(8, true), (9, false), (10, true), (11, true), (12, true), (13, true), (14, true)], [(8, 17), (10, 36), (11, 45), (12, 45), (13, 45), (14, 78)], [(0, 0), (1, 1), (2, 1), (3, 1), (4, 1), (5, 1), (6, 2), (7, 2)], [], []⟩
def trow0 : List (Option Row) := [none,
  none,
  none,
  none,
  none,
  none,
  none,
  none,
  some ⟨.glo "is_integer", ["value"], false⟩,
  some ⟨.glo "is_within", ["value", "least", "most"], false⟩,
  some ⟨.glo "is_number", ["value"], false⟩,
  some ⟨.glo "is_size", ["value"], false⟩]
def trow1 : List (Option Row) := [some ⟨.glo "need_number", ["value"], false⟩,
  some ⟨.glo "need_size", ["value"], false⟩,
  none,
  some ⟨.glo "beyond", ["numbers", "house", "size", "end", "most", "at"], false⟩,
  some ⟨.glo "needs_of", ["limits", "house", "found", "end", "size"], false⟩,
  some ⟨.me "Needs" "__init__", ["self", "limits", "house"], false⟩,
  none,
  none,
  none,
  none,
  some ⟨.me "Needs" "__getitem__", ["self", "size"], false⟩,
  none]
def trow2 : List (Option Row) := [none,
  some ⟨.glo "needs", ["limits", "house"], false⟩,
  none,
  none,
  none,
  none,
  none,
  none,
  none,
  none,
  none,
  none]
def trow3 : List (Option Row) := [some ⟨.me "Told" "__init__", ["self", "row"], false⟩,
  some ⟨.glo "trimmed", ["row", "many"], false⟩,
  none,
  some ⟨.glo "checked", ["numbers", "number"], false⟩,
  none,
  some ⟨.glo "need_row", ["counts"], false⟩,
  none,
  none,
  none,
  some ⟨.me "Counts" "__init__", ["self", "counts"], false⟩,
  none,
  none]
def trow4 : List (Option Row) := [none,
  some ⟨.me "Counts" "of_size", ["self", "size"], false⟩,
  none,
  none,
  some ⟨.me "Counts" "between", ["self", "size", "end"], false⟩,
  none,
  none,
  none,
  none,
  none,
  none,
  none]
def trow5 : List (Option Row) := [none,
  none,
  none,
  none,
  none,
  none,
  none,
  none,
  none,
  some ⟨.cm "House" "of", ["cls", "counts"], false⟩,
  none,
  none]
def trow6 : List (Option Row) := [none,
  none,
  none,
  some ⟨.glo "checked_limits", ["most", "number", "at"], false⟩,
  none,
  none,
  some ⟨.me "Limits" "__init__", ["self", "most"], false⟩,
  some ⟨.cm "Limits" "of", ["cls", "most"], false⟩,
  none,
  none,
  none,
  some ⟨.me "Limits" "of_size", ["self", "size"], false⟩]
def trow7 : List (Option Row) := [some ⟨.me "Limits" "__getitem__", ["self", "size"], false⟩,
  none,
  none,
  none,
  none,
  none,
  none,
  none,
  none,
  none,
  none,
  none]
def trow8 : List (Option Row) := [none,
  none,
  none,
  none,
  none,
  some ⟨.glo "_law_pen", ["_law_script"], false⟩,
  some ⟨.glo "_law_draw", ["_law_pen_here", "_law_many", "_law_at", "_law_cell", "_law_mixed", "_law_digit", "_law_great"], false⟩,
  some ⟨.glo "_law_pick", ["_law_pen_here", "_law_some"], false⟩,
  some ⟨.glo "_law_told", ["_law_pen_here", "_law_wide", "_law_top", "_law_found", "_law_k", "_law_least"], false⟩,
  some ⟨.glo "_law_row", ["_law_pen_here", "_law_told_here", "_law_wide", "_law_found", "_law_begin", "_law_size", "_law_turn", "_law_at", "_law_end"], false⟩,
  some ⟨.glo "_law_numbers", ["_law_most", "_law_row_here", "_law_found", "_law_size"], false⟩,
  some ⟨.glo "_law_falls", ["_law_some", "_law_most", "_law_row_here", "_law_size", "_law_bound", "_law_at"], false⟩]
def trow9 : List (Option Row) := [some ⟨.glo "law", ["_law_script", "_law_pen_here", "_law_turn", "_law_most", "_law_row_here", "_law_some", "_law_more", "_law_size", "_law_wider", "_law_near", "_law_by", "_law_wide", "_law_times", "_law_number", "_law_at", "_law_one"], false⟩]
def trow : List (Option Row) := trow0 ++ trow1 ++ trow2 ++ trow3 ++ trow4 ++ trow5 ++ trow6 ++ trow7 ++ trow8 ++ trow9
def tfl0 : List (List Str) := [[],
  ["value"],
  ["value"],
  ["value"],
  ["at"],
  ["size"],
  ["what", "most"],
  ["line", "word"],
  ["own_limits", "own_house", "own_numbers"],
  ["split_words", "line_index", "next_index"],
  ["told_row"],
  ["own_row"]]
def tfl1 : List (List Str) := [["own_row"],
  ["own_row"],
  ["own_row"]]
def tfl : List (List Str) := tfl0 ++ tfl1
def X : Tx := ⟨B, ["FitError", "BadNumber", "BadSize", "BadList", "BadLimits", "Lacking", "TooMany", "BadText", "Needs", "Words", "Told", "Counts", "House", "Parcels", "Limits"], tfl, trow, []⟩
def tloose0 : List PySem.Str := ["_wall",
  "FitError",
  "BadNumber",
  "BadSize",
  "BadList",
  "BadLimits",
  "Lacking",
  "TooMany",
  "BadText",
  "is_integer",
  "is_within",
  "is_number"]
def tloose1 : List PySem.Str := ["is_size",
  "need_number",
  "need_size",
  "number_in",
  "beyond",
  "needs_of",
  "Needs",
  "needs",
  "Words",
  "Told",
  "trimmed",
  "row_text"]
def tloose2 : List PySem.Str := ["checked",
  "need_divisor",
  "need_row",
  "take_counts",
  "like",
  "with_at_least",
  "Counts",
  "House",
  "Parcels",
  "checked_limits",
  "take_limits",
  "with_row"]
def tloose3 : List PySem.Str := ["Limits",
  "_law_pen",
  "_law_draw",
  "_law_pick",
  "_law_told",
  "_law_row",
  "_law_numbers",
  "_law_falls",
  "FIGURES",
  "MOST_FIGURES",
  "MOST_NUMBER",
  "MOST_SIZE"]
def tloose4 : List PySem.Str := ["EACH_SIZE"]
def tloose : List PySem.Str := tloose0 ++ tloose1 ++ tloose2 ++ tloose3 ++ tloose4
end L16

set_option Elab.async false
set_option maxRecDepth 100000
set_option maxHeartbeats 4000000
/-! PA: laws of the evaluator: calls, loops. -/
namespace BV
open PySem
section
variable {P : Pg}
theorem callF_pure {n f : Nat} {as vs : List Val} {ds : List D} {M M' : Store} {I : FnI} {x : D} (hI : P.fn f = some I) (h1 : I.hr = false) (h2 : bindUp I as = some vs) (h3 : I.pur = true) (h4 : allD vs = some ds)
    (hb : retOf (exSs P (callF P n) none I.body (startE I.ns vs) []) = .ok (.d x) M') : callF P (n + 1) f none as M = .ok (.d x) M := by
  unfold callF
  rw [hI]
  simp only [h1, h2, h3, if_true, Bool.false_eq_true, if_false]
  unfold pureF bodyF
  rw [h4, hb]
theorem callF_pureX {n f : Nat} {as vs : List Val} {ds : List D} {M M' : Store} {I : FnI} {c : Nat} {es : List D} (hI : P.fn f = some I) (h1 : I.hr = false) (h2 : bindUp I as = some vs) (h3 : I.pur = true) (h4 : allD vs = some ds)
    (hb : retOf (exSs P (callF P n) none I.body (startE I.ns vs) []) = .ex c es M') : callF P (n + 1) f none as M = .ex c es M := by
  unfold callF
  rw [hI]
  simp only [h1, h2, h3, if_true, Bool.false_eq_true, if_false]
  unfold pureF bodyF
  rw [h4, hb]
theorem callF_mut {n f : Nat} {as vs : List Val} {M : Store} {I : FnI} {r : R Val} (hI : P.fn f = some I) (h1 : I.hr = false) (h2 : bindUp I as = some vs) (h3 : I.pur = false)
    (hb : retOf (exSs P (callF P n) none I.body (startE I.ns vs) M) = r) : callF P (n + 1) f none as M = r := by
  unfold callF
  rw [hI]
  simp only [h1, h2, h3, Bool.false_eq_true, if_false]
  exact hb
theorem callF_hear {n f : Nat} {M : Store} {I : FnI} {g : Store → R Val} {r : R Val} (hI : P.fn f = some I) (h1 : I.hr = true)
    (hb : retOf (exSs P (callF P n) (some g) I.body (startE I.ns [.lam]) M) = r) : callF P (n + 1) f (some g) [] M = r := by
  unfold callF
  rw [hI]
  simp only [h1, if_true]
  exact hb
end
/-! ### loops -/
section
variable {body : List Val → Env → Store → SR} {its : List (List Val)}
/-- a loop over a row that stays, an invariant -/
theorem loop_inv {rd : Rd} (J : Nat → Env → Store → Prop) (hrd : ∀ i r M, J i r M → rd M = some its)
    (hb : ∀ i it r M, its[i]? = some it → J i r M → ∃ r' M', (body it r M = .ok (.nx r') M' ∨ body it r M = .ok (.ct r') M') ∧ J (i + 1) r' M') :
    ∀ (d k i : Nat) (r : Env) (M : Store), i + d = its.length → d < k → J i r M → ∃ r' M', loop rd body k i r M = .ok (.nx r') M' ∧ J its.length r' M' := by
  intro d
  induction d with
  | zero =>
    intro k i r M hd hk j
    obtain ⟨k, rfl⟩ : ∃ k', k = k' + 1 := ⟨k - 1, by omega⟩
    refine ⟨r, M, ?_, ?_⟩
    · unfold loop
      rw [hrd i r M j]
      have e : its[i]? = none := List.getElem?_eq_none (by omega)
      simp only [e]
    · have : i = its.length := by omega
      rw [← this]; exact j
  | succ d ih =>
    intro k i r M hd hk j
    obtain ⟨k, rfl⟩ : ∃ k', k = k' + 1 := ⟨k - 1, by omega⟩
    have hi : i < its.length := by omega
    obtain ⟨r', M', hb', j'⟩ := hb i its[i] r M (List.getElem?_eq_getElem hi) j
    obtain ⟨r2, M2, h1, h2⟩ := ih k (i + 1) r' M' (by omega) (by omega) j'
    refine ⟨r2, M2, ?_, h2⟩
    unfold loop
    rw [hrd i r M j]
    simp only [List.getElem?_eq_getElem hi]
    rcases hb' with hb' | hb' <;> rw [hb'] <;> exact h1
/-- .. that may end at once, by a value or an error -/
theorem loop_any {rd : Rd} (J : Nat → Env → Store → Prop) (Z : SR → Prop) (hrd : ∀ i r M, J i r M → rd M = some its)
    (hb : ∀ i it r M, its[i]? = some it → J i r M → (∃ r' M', (body it r M = .ok (.nx r') M' ∨ body it r M = .ok (.ct r') M') ∧ J (i + 1) r' M') ∨ (∃ v M', body it r M = .ok (.rt v) M' ∧ Z (.ok (.rt v) M')) ∨ (∃ c ds r' M', body it r M = .ex c ds r' M' ∧ Z (.ex c ds r' M')))
    (he : ∀ r M, J its.length r M → Z (.ok (.nx r) M)) :
    ∀ (d k i : Nat) (r : Env) (M : Store), i + d = its.length → d < k → J i r M → Z (loop rd body k i r M) := by
  intro d
  induction d with
  | zero =>
    intro k i r M hd hk j
    obtain ⟨k, rfl⟩ : ∃ k', k = k' + 1 := ⟨k - 1, by omega⟩
    unfold loop
    rw [hrd i r M j]
    have e : its[i]? = none := List.getElem?_eq_none (by omega)
    simp only [e]
    have : i = its.length := by omega
    exact he r M (this ▸ j)
  | succ d ih =>
    intro k i r M hd hk j
    obtain ⟨k, rfl⟩ : ∃ k', k = k' + 1 := ⟨k - 1, by omega⟩
    have hi : i < its.length := by omega
    unfold loop
    rw [hrd i r M j]
    simp only [List.getElem?_eq_getElem hi]
    rcases hb i its[i] r M (List.getElem?_eq_getElem hi) j with ⟨r', M', hb', j'⟩ | ⟨v, M', hb', z⟩ | ⟨c, ds, r', M', hb', z⟩
    · rcases hb' with hb' | hb' <;> rw [hb'] <;> exact ih k (i + 1) r' M' (by omega) (by omega) j'
    · rw [hb']; exact z
    · rw [hb']; exact z
end
/-- a comprehension with no test, an invariant of the store and of what is there -/
theorem cloop_inv {rd : Rd} {its : List (List Val)} {body : List Val → Store → R (Option Val)} (J : Nat → List Val → Store → Prop) (hrd : ∀ i acc M, J i acc M → rd M = some its)
    (hb : ∀ i it acc M, its[i]? = some it → J i acc M → ∃ v M', body it M = .ok (some v) M' ∧ acc.length < lim ∧ plainV v = true ∧ J (i + 1) (acc ++ [v]) M') :
    ∀ (d k i : Nat) (acc : List Val) (M : Store), i + d = its.length → d < k → J i acc M → ∃ acc' M', cloop rd body k i acc M = .ok acc' M' ∧ J its.length acc' M' := by
  intro d
  induction d with
  | zero =>
    intro k i acc M hd hk j
    obtain ⟨k, rfl⟩ : ∃ k', k = k' + 1 := ⟨k - 1, by omega⟩
    refine ⟨acc, M, ?_, ?_⟩
    · unfold cloop
      rw [hrd i acc M j]
      have e : its[i]? = none := List.getElem?_eq_none (by omega)
      simp only [e]
    · have : i = its.length := by omega
      rw [← this]; exact j
  | succ d ih =>
    intro k i acc M hd hk j
    obtain ⟨k, rfl⟩ : ∃ k', k = k' + 1 := ⟨k - 1, by omega⟩
    have hi : i < its.length := by omega
    obtain ⟨v, M', hb', hl, hp, j'⟩ := hb i its[i] acc M (List.getElem?_eq_getElem hi) j
    obtain ⟨a2, M2, h1, h2⟩ := ih k (i + 1) (acc ++ [v]) M' (by omega) (by omega) j'
    refine ⟨a2, M2, ?_, h2⟩
    unfold cloop
    rw [hrd i acc M j]
    simp only [List.getElem?_eq_getElem hi, hb', hp, Bool.and_true, decide_eq_true hl, if_true]
    exact h1
/-- a block that leaves the store as it is: a map -/
theorem cloop_map {rd : Rd} {its : List (List Val)} {body : List Val → Store → R (Option Val)} {M : Store} (f : List Val → Val) (hrd : rd M = some its) (hl : its.length ≤ lim) (hb : ∀ it ∈ its, body it M = .ok (some (f it)) M ∧ plainV (f it) = true) :
    cloop rd body (its.length + 1) 0 [] M = .ok (its.map f) M := by
  obtain ⟨acc, M', h1, h2, h3⟩ := cloop_inv (rd := rd) (its := its) (body := body) (fun i acc M' => M' = M ∧ acc = (its.take i).map f) (fun i acc M' j => by rw [j.1]; exact hrd) (fun i it acc M' hi j => by
    obtain ⟨rfl, rfl⟩ := j
    obtain ⟨b1, b2⟩ := hb it (List.mem_of_getElem? hi)
    have hlt := (List.getElem?_eq_some_iff.mp hi).1
    refine ⟨f it, _, b1, ?_, b2, rfl, ?_⟩
    · rw [List.length_map, List.length_take]
      omega
    · rw [List.take_succ, hi]
      simp) its.length (its.length + 1) 0 [] M (by omega) (by omega) ⟨rfl, rfl⟩
  rw [h1, h2, h3, List.take_length]
/-- a loop's body, a block's body -/
def forB (P : Pg) (C : Caller) (q : Asker) (tg : List Nat) (b : Ss) : List Val → BV.Env → Store → SR := fun item r M => match setAll tg item r with
  | none => .no
  | some r' => exSs P C q b r' M
theorem exS_for {P : Pg} {C : Caller} {q : Asker} {tg : List Nat} {it : It} {b : Ss} {r : BV.Env} {M : Store} : exS P C q (.for tg it b) r M = (evI P C q it (tg.length != 1) r M).st r fun rd M1 => loop rd (forB P C q tg b) (rdLen rd M1 + 1) 0 r M1 := by
  rw [exS]
  rfl
theorem forB_eq {P : Pg} {C : Caller} {q : Asker} {tg : List Nat} {b : Ss} {item : List Val} {r r' : BV.Env} {M : Store} (h : setAll tg item r = some r') : forB P C q tg b item r M = exSs P C q b r' M := by
  unfold forB
  rw [h]
def cpB (P : Pg) (C : Caller) (q : Asker) (tg : List Nat) (ts : Tes) (e : E) (r : BV.Env) : List Val → Store → R (Option Val) := fun item M2 => match setAll tg item (wipeE tg (dropX r)) with
  | none => .no
  | some r' => (evTs P C q ts r' M2).bind fun b M3 => if b then (ev P C q e r' M3).bind fun v M4 => .ok (some v) M4 else .ok none M3
theorem ev_cp {P : Pg} {C : Caller} {q : Asker} {mt : Bool} {it : It} {tg : List Nat} {ts : Tes} {e : E} {r : BV.Env} {M : Store} : ev P C q (.cp mt it tg ts e) r M = (evI P C q it (tg.length != 1) r M).bind fun rd M1 => (cloop rd (cpB P C q tg ts e r) (rdLen rd M1 + 1) 0 [] M1).bind fun xs M5 => newL mt xs M5 := by
  rw [ev]
  rfl
theorem cpB_nil {P : Pg} {C : Caller} {q : Asker} {tg : List Nat} {e : E} {r r' : BV.Env} {item : List Val} {M M' : Store} {v : Val} (h : setAll tg item (wipeE tg (dropX r)) = some r') (he : ev P C q e r' M = .ok v M') : cpB P C q tg .nil e r item M = .ok (some v) M' := by
  unfold cpB
  rw [h]
  simp only [evTs]
  show (if true = true then (ev P C q e r' M).bind (fun v M4 => R.ok (some v) M4) else R.ok none M) = _
  rw [if_pos rfl, he]
  rfl
end BV

set_option Elab.async false
set_option maxRecDepth 100000
set_option maxHeartbeats 4000000
/-! PC: the evaluator on small things; the drawing of numbers. -/
namespace BV
open PySem
theorem bind_ok {a b : Type} {x : a} {M : Store} {f : a → Store → R b} : (R.ok x M).bind f = f x M := rfl
theorem bind_ex {a b : Type} {c : Nat} {ds : List D} {M : Store} {f : a → Store → R b} : (R.ex c ds M : R a).bind f = .ex c ds M := rfl
theorem st_ok {a : Type} {x : a} {M : Store} {r : BV.Env} {f : a → Store → SR} : (R.ok x M).st r f = f x M := rfl
theorem st_ex {a : Type} {c : Nat} {ds : List D} {M : Store} {r : BV.Env} {f : a → Store → SR} : (R.ex c ds M : R a).st r f = .ex c ds r M := rfl
section
variable {P : Pg} {C : Caller} {M : Store}
theorem f2_int {k : K2} {i j : Int} (h : k ≠ .get) : f2 P C k (.d (.int i)) (.d (.int j)) M = datOp k (.int i) (.int j) M := by
  cases k <;> first | exact absurd rfl h | rfl
theorem t_bl {b : Bool} : truth P C (.d (.bl b)) M = .ok b M := rfl
theorem op_add {i j : Int} : f2 P C .add (.d (.int i)) (.d (.int j)) M = .ok (.d (.int (i + j))) M := rfl
theorem op_sub {i j : Int} : f2 P C .sub (.d (.int i)) (.d (.int j)) M = .ok (.d (.int (i - j))) M := rfl
theorem op_mul {i j : Int} (h : mulOk i j = true) : f2 P C .mul (.d (.int i)) (.d (.int j)) M = .ok (.d (.int (i * j))) M := by
  show (if mulOk i j then _ else _) = _
  rw [if_pos h]
theorem op_mod {i j : Int} (h : 0 < j) : f2 P C .mod (.d (.int i)) (.d (.int j)) M = .ok (.d (.int (i % j))) M := by
  show (if decide (0 < j) then _ else _) = _
  rw [if_pos (decide_eq_true h)]
theorem op_fdiv {i j : Int} (h : divOk j = true) : f2 P C .fdiv (.d (.int i)) (.d (.int j)) M = .ok (.d (.int (i / j))) M := by
  show (if divOk j then _ else _) = _
  rw [if_pos h]
theorem op_pow {i j : Int} (h : powOk i j = true) : f2 P C .pow (.d (.int i)) (.d (.int j)) M = .ok (.d (.int (i ^ j.toNat))) M := by
  show (if powOk i j then _ else _) = _
  rw [if_pos h]
theorem op_lt {i j : Int} : f2 P C .lt (.d (.int i)) (.d (.int j)) M = .ok (.d (.bl (decide (i < j)))) M := rfl
theorem op_le {i j : Int} : f2 P C .le (.d (.int i)) (.d (.int j)) M = .ok (.d (.bl (decide (i ≤ j)))) M := rfl
theorem op_gt {i j : Int} : f2 P C .gt (.d (.int i)) (.d (.int j)) M = .ok (.d (.bl (decide (j < i)))) M := rfl
theorem op_ge {i j : Int} : f2 P C .ge (.d (.int i)) (.d (.int j)) M = .ok (.d (.bl (decide (j ≤ i)))) M := rfl
theorem op_eqI {i j : Int} : f2 P C .eq (.d (.int i)) (.d (.int j)) M = .ok (.d (.bl (i == j))) M := rfl
theorem op_neI {i j : Int} : f2 P C .ne (.d (.int i)) (.d (.int j)) M = .ok (.d (.bl (!(i == j)))) M := rfl
theorem bi_intI {i : Int} : fbi P C .int [.d (.int i)] M = .ok (.d (.int i)) M := rfl
theorem bi_intB {b : Bool} : fbi P C .int [.d (.bl b)] M = .ok (.d (.int (if b then 1 else 0))) M := rfl
theorem bi_abs {i : Int} : fbi P C .abs [.d (.int i)] M = .ok (.d (.int (if i < 0 then -i else i))) M := rfl
theorem bi_lenL {l : List D} : fbi P C .len [.d (.lst l)] M = .ok (.d (.int l.length)) M := by
  show R.ok (Val.d (.int ((l.map Val.d).length))) M = _
  rw [List.length_map]
theorem bi_lenT {l : List D} : fbi P C .len [.d (.tup l)] M = .ok (.d (.int l.length)) M := by
  show R.ok (Val.d (.int ((l.map Val.d).length))) M = _
  rw [List.length_map]
theorem get_dat {v : Val} {xs : List D} {i : Int} {x : D} (hv : v = .d (.lst xs) ∨ v = .d (.tup xs)) (h0 : 0 ≤ i) (h : xs[i.toNat]? = some x) : f2 P C .get v (.d (.int i)) M = .ok (.d x) M := by
  have hl := (List.getElem?_eq_some_iff.mp h).1
  have e : L2.atI (xs.map Val.d) i = some (.d x) := by
    unfold L2.atI L2.ixN
    rw [List.length_map, if_pos h0, if_pos (by omega)]
    show (xs.map Val.d)[i.toNat]? = _
    rw [List.getElem?_map, h]
    rfl
  rcases hv with rfl | rfl
  · show (match L2.atI (xs.map Val.d) i with
      | some v => R.ok v M
      | none => .no) = _
    rw [e]
  · show (match L2.atI (xs.map Val.d) i with
      | some v => R.ok v M
      | none => .no) = _
    rw [e]
theorem get_ref {p : Nat} {xs : List Val} {i : Int} {x : Val} (hM : M[p]? = some (some (.lst xs))) (h0 : 0 ≤ i) (h : xs[i.toNat]? = some x) : f2 P C .get (.ref p) (.d (.int i)) M = .ok x M := by
  have hl := (List.getElem?_eq_some_iff.mp h).1
  have e : L2.atI xs i = some x := by
    unfold L2.atI L2.ixN
    rw [if_pos h0, if_pos (by omega)]
    exact h
  unfold f2
  simp only [ownHere, insOf, hM, Option.isSome_none, Bool.false_eq_true, if_false, seqOf, lstOf, e]
theorem set_ref {p : Nat} {xs : List Val} {i : Int} {x : Val} (hM : M[p]? = some (some (.lst xs))) (h0 : 0 ≤ i) (h : i < xs.length) (hx : plainV x = true) : setI (.ref p) (.d (.int i)) x M = some (M.set p (some (.lst (xs.set i.toNat x)))) := by
  unfold setI
  simp only [hM, L2.ixN, if_pos h0, if_pos h, hx, if_true]
theorem ints_none {xs : List Int} : (eqD 12 (.lst (xs.map .int)) (.lst [])) = some xs.isEmpty := by
  cases xs <;> rfl
theorem op_neE {xs : List Int} : f2 P C .ne (.d (.lst (xs.map .int))) (.d (.lst [])) M = .ok (.d (.bl (!xs.isEmpty))) M := by
  show datEq true _ _ M = _
  unfold datEq
  rw [ints_none]
  rfl
end
/-! ### the pen -/
def Only (p : Nat) (M M' : Store) : Prop := M'.length = M.length ∧ ∀ j, j ≠ p → M'[j]? = M[j]?
theorem Only.refl {p : Nat} {M : Store} : Only p M M := ⟨rfl, fun _ _ => rfl⟩
theorem Only.trans {p : Nat} {M M' M2 : Store} (a : Only p M M') (b : Only p M' M2) : Only p M M2 := ⟨b.1.trans a.1, fun j h => (b.2 j h).trans (a.2 j h)⟩
theorem Only.set {p : Nat} {M : Store} {c : Option Cell} : Only p M (M.set p c) := ⟨by simp, fun j h => by rw [List.getElem?_set_ne (Ne.symm h)]⟩
def penC (s : List Int) (i g : Int) : Cell := .lst [.d (.lst (s.map .int)), .d (.int i), .d (.int g)]
def PenOk (K : Nat) (M : Store) (p : Nat) : Prop := ∃ (s : List Int) (i g : Int), M[p]? = some (some (penC s i g)) ∧ 0 ≤ i ∧ i ≤ K ∧ 0 ≤ g
theorem PenOk.mono {K K' : Nat} {M : Store} {p : Nat} (h : PenOk K M p) (k : K ≤ K') : PenOk K' M p := by
  obtain ⟨s, i, g, h1, h2, h3, h4⟩ := h
  exact ⟨s, i, g, h1, h2, by omega, h4⟩
def drawT (M1 A2 B2 M2 C2 A3 B3 M3 : Int) : Ss :=
  (.cons (.ifs (.and (.tr (.o2 .lt (.v 2) (.bi .len (.cons (.o2 .get (.v 0) (.c (.int 0))) .nil)))) (.tr (.o2 .ge (.bi .abs (.cons (.v 3) .nil)) (.o2 .pow (.c (.int 10)) (.c (.int 18))))))
    (.cons (.asg 6 (.o2 .add (.o2 .mul (.c (.int 2)) (.o2 .sub (.bi .abs (.cons (.v 3) .nil)) (.o2 .pow (.c (.int 10)) (.c (.int 18))))) (.bi .int (.cons (.o2 .lt (.v 3) (.c (.int 0))) .nil))))
    (.cons (.sub (.v 0) (.c (.int 2)) (.o2 .fdiv (.bi .int (.cons (.v 6) .nil)) (.v 1)))
    (.cons (.ret (.o2 .mod (.bi .int (.cons (.v 6) .nil)) (.v 1))) .nil))) .nil)
  (.cons (.asg 4 (.o2 .mod (.bi .int (.cons (.o2 .pow (.o2 .add (.o2 .add (.o2 .mod (.bi .int (.cons (.v 3) .nil)) (.c (.int M1))) (.o2 .mul (.c (.int A2)) (.v 2))) (.c (.int B2))) (.c (.int 5))) .nil)) (.c (.int M2))))
  (.cons (.asg 4 (.o2 .mod (.bi .int (.cons (.o2 .pow (.o2 .add (.o2 .add (.o2 .mul (.v 4) (.o2 .add (.o2 .mul (.c (.int 2)) (.v 2)) (.c (.int C2)))) (.o2 .mul (.o2 .mul (.c (.int A3)) (.v 2)) (.v 2))) (.c (.int B3))) (.c (.int 3))) .nil)) (.c (.int M3))))
  (.cons (.ret (.o2 .mod (.bi .int (.cons (.o2 .fdiv (.v 4) (.c (.int 32))) .nil)) (.v 1))) .nil))))
def drawB (A B M1 A2 B2 M2 C2 A3 B3 M3 : Int) : Ss :=
  (.cons (.ifs (.tr (.o2 .gt (.o2 .get (.v 0) (.c (.int 2))) (.c (.int 0)))) (.cons (.asg 5 (.o2 .mod (.bi .int (.cons (.o2 .get (.v 0) (.c (.int 2))) .nil)) (.v 1))) (.cons (.sub (.v 0) (.c (.int 2)) (.o2 .fdiv (.bi .int (.cons (.o2 .get (.v 0) (.c (.int 2))) .nil)) (.v 1))) (.cons (.ret (.v 5)) .nil))) .nil)
  (.cons (.asg 2 (.o2 .get (.v 0) (.c (.int 1))))
  (.cons (.sub (.v 0) (.c (.int 1)) (.o2 .add (.v 2) (.c (.int 1))))
  (.cons (.asg 3 (.o2 .add (.o2 .mul (.c (.int A)) (.v 2)) (.c (.int B))))
  (.cons (.ifs (.tr (.o2 .ne (.o2 .get (.v 0) (.c (.int 0))) (.dsp .lst .nil))) (.cons (.asg 3 (.o2 .get (.o2 .get (.v 0) (.c (.int 0))) (.o2 .mod (.bi .int (.cons (.v 2) .nil)) (.bi .len (.cons (.o2 .get (.v 0) (.c (.int 0))) .nil))))) .nil) .nil)
  (drawT M1 A2 B2 M2 C2 A3 B3 M3))))))
def smallC (x : Int) : Bool := decide (0 ≤ x) && decide (x ≤ 300000)
def modC (x : Int) : Bool := decide (0 < x) && decide (x ≤ 2147483648)
def cstOk (A B M1 A2 B2 M2 C2 A3 B3 M3 : Int) : Bool := smallC A && smallC B && smallC A2 && smallC B2 && smallC C2 && smallC A3 && smallC B3 && modC M1 && modC M2 && modC M3
theorem mulOk_l {i j : Int} (h0 : 0 ≤ i) (h : i < 18446744073709551616) : mulOk i j = true := by
  unfold mulOk
  rw [decide_eq_true (show i.natAbs < 18446744073709551616 by omega)]
  rfl
theorem powOk_of {i j : Int} (h0 : 0 ≤ i) (h : i < 18446744073709551616) (j0 : 0 ≤ j) (j1 : j ≤ 1000000) : powOk i j = true := by
  unfold powOk
  rw [decide_eq_true j0, decide_eq_true j1, decide_eq_true (show i.natAbs < 18446744073709551616 by omega)]
  rfl
theorem divOk_small {j : Int} (h0 : 0 < j) (h : j < 18446744073709551616) : divOk j = true := by
  unfold divOk
  rw [decide_eq_true h0, Bool.true_and, decide_eq_true_eq]
  have : j.natAbs.log2 < 64 := by
    rw [Nat.log2_lt (by omega)]
    omega
  omega
theorem tail_ok {P : Pg} {C : Caller} {p : Nat} {M : Store} {s : List Int} {M1 A2 B2 M2 C2 A3 B3 M3 many i cell : Int} (hM : M[p]? = some (some (penC s (i + 1) 0))) (hi0 : 0 ≤ i) (hi1 : i ≤ 1000000) (hm : divOk many = true) (m0 : 0 < many)
    (y1 : 0 < M1 ∧ M1 ≤ 2147483648) (y2 : 0 ≤ A2 ∧ A2 ≤ 300000) (y3 : 0 ≤ B2 ∧ B2 ≤ 300000) (y4 : 0 < M2 ∧ M2 ≤ 2147483648) (y5 : 0 ≤ C2 ∧ C2 ≤ 300000) (y6 : 0 ≤ A3 ∧ A3 ≤ 300000) (y7 : 0 ≤ B3 ∧ B3 ≤ 300000) (y8 : 0 < M3 ∧ M3 ≤ 2147483648) :
    ∃ v M', exSs P C none (drawT M1 A2 B2 M2 C2 A3 B3 M3) [some (.ref p), some (.d (.int many)), some (.d (.int i)), some (.d (.int cell)), none, none, none] M = .ok (.rt (.d (.int v))) M' ∧ 0 ≤ v ∧ v < many ∧ (∃ g, 0 ≤ g ∧ M'[p]? = some (some (penC s (i + 1) g))) ∧ Only p M M' := by
  have hpl : p < M.length := (List.getElem?_eq_some_iff.mp hM).1
  have G0 : f2 P C .get (.ref p) (.d (.int 0)) M = .ok (.d (.lst (s.map .int))) M := get_ref hM (by decide) rfl
  have p10 : f2 P C .pow (.d (.int 10)) (.d (.int 18)) M = .ok (.d (.int 1000000000000000000)) M := op_pow (by decide)
  have hb : ∀ (b1 b2 : Bool), (∃ x : Bool, x = (b1 && b2)) := fun _ _ => ⟨_, rfl⟩
  by_cases hc : i < s.length ∧ (1000000000000000000 : Int) ≤ (if cell < 0 then -cell else cell)
  · obtain ⟨hc1, hc2⟩ := hc
    obtain ⟨gr, hgr⟩ : ∃ gr : Int, gr = 2 * ((if cell < 0 then -cell else cell) - 1000000000000000000) + (if decide (cell < 0) = true then 1 else 0) := ⟨_, rfl⟩
    have gr0 : 0 ≤ gr := by
      rw [hgr]
      split <;> split <;> omega
    have S2 : setI (.ref p) (.d (.int 2)) (.d (.int (gr / many))) M = some (M.set p (some (penC s (i + 1) (gr / many)))) := set_ref hM (by decide) (by show (2 : Int) < 3; decide) rfl
    refine ⟨gr % many, M.set p (some (penC s (i + 1) (gr / many))), ?_, Int.emod_nonneg _ (by omega), Int.emod_lt_of_pos _ m0, ⟨gr / many, Int.ediv_nonneg gr0 (by omega), by rw [List.getElem?_set_self hpl]⟩, Only.set⟩
    have m2 : ∀ j : Int, mulOk 2 j = true := fun j => mulOk_l (by decide) (by decide)
    simp only [drawT, exSs, exS, ev, evT, evA, List.getElem?_cons_zero, List.getElem?_cons_succ, bind_ok, st_ok, G0, bi_lenL, List.length_map, op_lt, t_bl, decide_eq_true hc1, if_true, bi_abs, p10, op_ge, decide_eq_true hc2, op_sub, op_mul (m2 _), bi_intB, op_add, List.set, bi_intI, op_fdiv hm, op_mod m0, ← hgr, S2]
  · have hcf : (decide (i < (s.length : Int)) && decide ((1000000000000000000 : Int) ≤ (if cell < 0 then -cell else cell))) = false := by
      rw [Bool.and_eq_false_iff, decide_eq_false_iff_not, decide_eq_false_iff_not]
      exact Classical.not_and_iff_not_or_not.mp hc
    obtain ⟨x1, hx1⟩ : ∃ x : Int, x = cell % M1 + A2 * i + B2 := ⟨_, rfl⟩
    have A2i : 0 ≤ A2 * i ∧ A2 * i ≤ 300000000000 := ⟨Int.mul_nonneg y2.1 hi0, by
      have := Int.mul_le_mul y2.2 hi1 hi0 (by decide)
      omega⟩
    have c0 := Int.emod_nonneg cell (show M1 ≠ 0 by omega)
    have c1 := Int.emod_lt_of_pos cell (show 0 < M1 by omega)
    have x1b : 0 ≤ x1 ∧ x1 < 18446744073709551616 := by omega
    obtain ⟨m1, hm1⟩ : ∃ x : Int, x = x1 ^ (5 : Int).toNat % M2 := ⟨_, rfl⟩
    have m10 := Int.emod_nonneg (x1 ^ (5 : Int).toNat) (show M2 ≠ 0 by omega)
    have m11 := Int.emod_lt_of_pos (x1 ^ (5 : Int).toNat) (show 0 < M2 by omega)
    rw [← hm1] at m10 m11
    obtain ⟨x2, hx2⟩ : ∃ x : Int, x = m1 * (2 * i + C2) + A3 * i * i + B3 := ⟨_, rfl⟩
    have A3i : 0 ≤ A3 * i ∧ A3 * i ≤ 300000000000 := ⟨Int.mul_nonneg y6.1 hi0, by
      have := Int.mul_le_mul y6.2 hi1 hi0 (by decide)
      omega⟩
    have A3ii : 0 ≤ A3 * i * i ∧ A3 * i * i ≤ 300000000000000000 := ⟨Int.mul_nonneg A3i.1 hi0, by
      have := Int.mul_le_mul A3i.2 hi1 hi0 (by decide)
      omega⟩
    have mm : 0 ≤ m1 * (2 * i + C2) ∧ m1 * (2 * i + C2) ≤ 2147483648 * 2300000 := ⟨Int.mul_nonneg m10 (by omega), Int.mul_le_mul (by omega) (by omega) (by omega) (by decide)⟩
    have x2b : 0 ≤ x2 ∧ x2 < 18446744073709551616 := by omega
    obtain ⟨m2, hm2⟩ : ∃ x : Int, x = x2 ^ (3 : Int).toNat % M3 := ⟨_, rfl⟩
    have P1 : f2 P C .pow (.d (.int x1)) (.d (.int 5)) M = .ok (.d (.int (x1 ^ (5 : Int).toNat))) M := op_pow (powOk_of x1b.1 x1b.2 (by decide) (by decide))
    have P2 : f2 P C .pow (.d (.int x2)) (.d (.int 3)) M = .ok (.d (.int (x2 ^ (3 : Int).toNat))) M := op_pow (powOk_of x2b.1 x2b.2 (by decide) (by decide))
    have k1 : mulOk A2 i = true := mulOk_l y2.1 (by omega)
    have k2 : mulOk m1 (2 * i + C2) = true := mulOk_l m10 (by omega)
    have k3 : mulOk 2 i = true := mulOk_l (by decide) (by decide)
    have k4 : mulOk A3 i = true := mulOk_l y6.1 (by omega)
    have k5 : mulOk (A3 * i) i = true := mulOk_l A3i.1 (by omega)
    have d32 : divOk 32 = true := by decide
    refine ⟨m2 / 32 % many, M, ?_, Int.emod_nonneg _ (by omega), Int.emod_lt_of_pos _ m0, ⟨0, by decide, hM⟩, Only.refl⟩
    have first : ∀ k : Bool → Store → SR, ((evT P C none (.and (.tr (.o2 .lt (.v 2) (.bi .len (.cons (.o2 .get (.v 0) (.c (.int 0))) .nil)))) (.tr (.o2 .ge (.bi .abs (.cons (.v 3) .nil)) (.o2 .pow (.c (.int 10)) (.c (.int 18)))))) [some (.ref p), some (.d (.int many)), some (.d (.int i)), some (.d (.int cell)), none, none, none] M).st [some (.ref p), some (.d (.int many)), some (.d (.int i)), some (.d (.int cell)), none, none, none] k) = k false M := fun k => by
      simp only [ev, evT, evA, List.getElem?_cons_zero, List.getElem?_cons_succ, bind_ok, st_ok, G0, bi_lenL, List.length_map, op_lt, t_bl, bi_abs, p10, op_ge]
      cases e1 : decide (i < (s.length : Int)) with
      | false => simp only [Bool.false_eq_true, if_false, st_ok]
      | true =>
        rw [e1, Bool.true_and] at hcf
        simp only [if_true, hcf, st_ok]
    unfold drawT
    rw [exSs]
    unfold exS
    rw [first]
    simp only [exSs, exS, Bool.false_eq_true, if_false, ev, evA, List.getElem?_cons_zero, List.getElem?_cons_succ, bind_ok, st_ok, bi_intI, op_mod (show 0 < M1 by omega), op_mul k1, op_add, ← hx1, P1, op_mod (show 0 < M2 by omega), ← hm1, List.set, op_mul k3, op_mul k2, op_mul k4, op_mul k5, ← hx2, P2, op_mod (show 0 < M3 by omega), ← hm2, op_fdiv d32, op_mod m0]
/-- the drawing answers a number below many -/
theorem draw_ok {P : Pg} {n f p K : Nat} {M : Store} {A B M1 A2 B2 M2 C2 A3 B3 M3 many : Int} (hf : P.fn f = some ⟨2, false, [], false, 7, drawB A B M1 A2 B2 M2 C2 A3 B3 M3, false⟩) (hc : cstOk A B M1 A2 B2 M2 C2 A3 B3 M3 = true)
    (hp : PenOk K M p) (hK : K < 1000000) (hm : divOk many = true) : ∃ v M', callF P (n + 1) f none [.ref p, .d (.int many)] M = .ok (.d (.int v)) M' ∧ 0 ≤ v ∧ v < many ∧ PenOk (K + 1) M' p ∧ Only p M M' := by
  obtain ⟨s, i, g, hM, hi0, hiK, hg⟩ := hp
  have hpl : p < M.length := (List.getElem?_eq_some_iff.mp hM).1
  have m0 : 0 < many := by
    have hm' := hm
    unfold divOk at hm'
    simp only [Bool.and_eq_true, decide_eq_true_eq] at hm'
    exact hm'.1
  unfold cstOk smallC modC at hc
  simp only [Bool.and_eq_true, decide_eq_true_eq] at hc
  obtain ⟨⟨⟨⟨⟨⟨⟨⟨⟨z1, z2⟩, z3⟩, z4⟩, z5⟩, z6⟩, z7⟩, z8⟩, z9⟩, z10⟩ := hc
  by_cases hg0 : 0 < g
  · refine ⟨g % many, M.set p (some (penC s i (g / many))), ?_, Int.emod_nonneg _ (by omega), Int.emod_lt_of_pos _ m0, ⟨s, i, g / many, by rw [List.getElem?_set_self hpl], hi0, by omega, Int.ediv_nonneg hg (by omega)⟩, Only.set⟩
    have G2 : ∀ C : Caller, f2 P C .get (.ref p) (.d (.int 2)) M = .ok (.d (.int g)) M := fun C => get_ref hM (by decide) rfl
    refine callF_mut hf rfl rfl rfl ?_
    have S2 : setI (.ref p) (.d (.int 2)) (.d (.int (g / many))) M = some (M.set p (some (penC s i (g / many)))) := set_ref hM (by decide) (by show (2 : Int) < 3; decide) rfl
    simp only [drawB, exSs, exS, ev, evT, evA, startE, List.map_cons, List.map_nil, List.cons_append, List.nil_append, List.getElem?_cons_zero, List.getElem?_cons_succ, bind_ok, st_ok, G2, op_gt, t_bl, decide_eq_true hg0, if_true, bi_intI, op_mod m0, op_fdiv hm, List.set, List.length_cons, List.length_nil, List.replicate, S2, retOf, plainV]
    rfl
  · have eg : g = 0 := by omega
    subst eg
    have G2 : ∀ C : Caller, f2 P C .get (.ref p) (.d (.int 2)) M = .ok (.d (.int 0)) M := fun C => get_ref hM (by decide) rfl
    have G1 : ∀ C : Caller, f2 P C .get (.ref p) (.d (.int 1)) M = .ok (.d (.int i)) M := fun C => get_ref hM (by decide) rfl
    have S1 : setI (.ref p) (.d (.int 1)) (.d (.int (i + 1))) M = some (M.set p (some (penC s (i + 1) 0))) := set_ref hM (by decide) (by show (1 : Int) < 3; decide) rfl
    have hM1 : (M.set p (some (penC s (i + 1) 0)))[p]? = some (some (penC s (i + 1) 0)) := List.getElem?_set_self hpl
    have H0 : ∀ C : Caller, f2 P C .get (.ref p) (.d (.int 0)) (M.set p (some (penC s (i + 1) 0))) = .ok (.d (.lst (s.map .int))) (M.set p (some (penC s (i + 1) 0))) := fun C => get_ref hM1 (by decide) rfl
    have mA : mulOk A i = true := mulOk_l z1.1 (by omega)
    have fin : ∀ cell : Int, ∃ v M', exSs P (callF P n) none (drawT M1 A2 B2 M2 C2 A3 B3 M3) [some (.ref p), some (.d (.int many)), some (.d (.int i)), some (.d (.int cell)), none, none, none] (M.set p (some (penC s (i + 1) 0))) = .ok (.rt (.d (.int v))) M' ∧ 0 ≤ v ∧ v < many ∧ (∃ g, 0 ≤ g ∧ M'[p]? = some (some (penC s (i + 1) g))) ∧ Only p (M.set p (some (penC s (i + 1) 0))) M' :=
      fun cell => tail_ok hM1 hi0 (by omega) hm m0 z8 z3 z4 z9 z5 z6 z7 z10
    have nd : newL false ([] : List Val) (M.set p (some (penC s (i + 1) 0))) = .ok (.d (.lst [])) (M.set p (some (penC s (i + 1) 0))) := rfl
    have done : ∃ v M', exSs P (callF P n) none (drawB A B M1 A2 B2 M2 C2 A3 B3 M3) [some (.ref p), some (.d (.int many)), none, none, none, none, none] M = .ok (.rt (.d (.int v))) M' ∧ 0 ≤ v ∧ v < many ∧ (∃ g, 0 ≤ g ∧ M'[p]? = some (some (penC s (i + 1) g))) ∧ Only p (M.set p (some (penC s (i + 1) 0))) M' := by
      simp only [drawB, exSs, exS, ev, evT, evA, List.getElem?_cons_zero, List.getElem?_cons_succ, bind_ok, st_ok, G2, op_gt, t_bl, show decide ((0 : Int) < 0) = false from rfl, Bool.false_eq_true, if_false, G1, List.set, op_add, S1, op_mul mA, H0, nd, op_neE]
      cases hs : s.isEmpty with
      | true =>
        simp only [Bool.not_true, Bool.false_eq_true, if_false]
        exact fin _
      | false =>
        have ls : 0 < s.length := by
          cases s with
          | nil => cases hs
          | cons a b => simp
        have hx : (i % (s.length : Int)).toNat < s.length := by
          have h1 := Int.emod_nonneg i (show (s.length : Int) ≠ 0 by omega)
          have h2 := Int.emod_lt_of_pos i (show 0 < (s.length : Int) by omega)
          omega
        have gx : ∀ C : Caller, f2 P C .get (.d (.lst (s.map .int))) (.d (.int (i % (s.length : Int)))) (M.set p (some (penC s (i + 1) 0))) = .ok (.d (.int s[(i % (s.length : Int)).toNat])) (M.set p (some (penC s (i + 1) 0))) := fun C =>
          get_dat (.inl rfl) (Int.emod_nonneg i (by omega)) (by rw [List.getElem?_map, List.getElem?_eq_getElem hx]; rfl)
        simp only [Bool.not_false, if_true, H0, bi_intI, bi_lenL, List.length_map, bind_ok, st_ok, op_mod (show 0 < (s.length : Int) by omega), gx, List.set]
        exact fin _
    obtain ⟨v, M', e1, e2, e3, ⟨g, e4, e5⟩, e6⟩ := done
    refine ⟨v, M', callF_mut hf rfl rfl rfl ?_, e2, e3, ⟨s, i + 1, g, e5, by omega, by omega, e4⟩, Only.set.trans e6⟩
    show retOf (exSs P (callF P n) none (drawB A B M1 A2 B2 M2 C2 A3 B3 M3) [some (.ref p), some (.d (.int many)), none, none, none, none, none] M) = _
    rw [e1]
    rfl
end BV

set_option Elab.async false
set_option maxRecDepth 100000
set_option maxHeartbeats 4000000
/-! PD: data of the program: odd values, rows, cuts. -/
namespace BV
open PySem
def isIntD : D → Bool
  | .int _ => true
  | _ => false
def okD : D → Bool
  | .non => true | .bl _ => true | .int _ => true | .str _ => true | .tup _ => true | .lst _ => true | .dic _ _ => true
  | _ => false
def inD (a b : Int) : D → Bool
  | .int i => decide (a ≤ i) && decide (i ≤ b)
  | _ => false
/-! ### rows of ints -/
theorem allD_map {l : List D} : allD (l.map Val.d) = some l := by
  induction l with
  | nil => rfl
  | cons x l ih =>
    rw [List.map_cons, allD, ih]
theorem allInt_map {l : List Int} : allInt (l.map fun i => Val.d (.int i)) = some l := by
  induction l with
  | nil => rfl
  | cons x l ih =>
    rw [List.map_cons, allInt, ih]
theorem allInt_map2 {l : List Int} : allInt ((l.map D.int).map Val.d) = some l := by
  rw [List.map_map]
  exact allInt_map
theorem plain_map {l : List D} : (l.map Val.d).all plainV = true := by
  induction l with
  | nil => rfl
  | cons x l ih =>
    rw [List.map_cons, List.all_cons, ih]
    rfl
theorem cut_nat {a : Type} {xs : List a} {lo hi : Option Int} (l h : Nat) (hl : lo = some (l : Int) ∨ (lo = none ∧ l = 0)) (hh : hi = some (h : Int) ∨ (hi = none ∧ h = xs.length)) : cut xs lo hi = (xs.take h).drop l := by
  have e1 : HT.sIx xs.length 0 lo = min l xs.length := by
    rcases hl with rfl | ⟨rfl, rfl⟩
    · exact HT.sIx_nat ..
    · rw [HT.sIx_none]; simp
  have e2 : HT.sIx xs.length xs.length hi = min h xs.length := by
    rcases hh with rfl | ⟨rfl, rfl⟩
    · exact HT.sIx_nat ..
    · rw [HT.sIx_none]; simp
  unfold cut
  rw [e1, e2, List.drop_take]
  apply List.ext_getElem?
  intro k
  rw [List.getElem?_take, List.getElem?_take, List.getElem?_drop, List.getElem?_drop]
  by_cases hx : l ≤ xs.length
  · rw [Nat.min_eq_left hx]
    by_cases hy : h ≤ xs.length
    · rw [Nat.min_eq_left hy]
    · rw [Nat.min_eq_right (by omega)]
      by_cases hk : l + k < xs.length
      · rw [if_pos (by omega), if_pos (by omega)]
      · rw [List.getElem?_eq_none (by omega)]
        simp
  · rw [List.getElem?_eq_none (show xs.length ≤ min l xs.length + k by omega), List.getElem?_eq_none (show xs.length ≤ l + k by omega)]
    simp
/-- zeros at the end cut away -/
def cutZ (l : List Int) : Nat → Nat
  | 0 => 0
  | m + 1 => if l[m]? = some 0 then cutZ l m else m + 1
def trim (l : List Int) : List Int := l.take (cutZ l l.length)
theorem cutZ_le (l : List Int) : ∀ m, cutZ l m ≤ m
  | 0 => Nat.le_refl _
  | m + 1 => by
    unfold cutZ
    split
    · exact Nat.le_succ_of_le (cutZ_le l m)
    · exact Nat.le_refl _
theorem cutZ_zero (l : List Int) : ∀ m k, cutZ l m ≤ k → k < m → l[k]? = some 0
  | 0, k, _, h => absurd h (by omega)
  | m + 1, k, h1, h2 => by
    unfold cutZ at h1
    split at h1
    · rename_i hz
      by_cases e : k = m
      · rw [e]; exact hz
      · exact cutZ_zero l m k h1 (by omega)
    · omega
theorem sum_zero {l : List Int} (h : ∀ x ∈ l, x = 0) : l.sum = 0 := by
  induction l with
  | nil => rfl
  | cons x l ih =>
    rw [List.sum_cons, h x List.mem_cons_self, ih fun y hy => h y (List.mem_cons_of_mem _ hy)]
    rfl
theorem trim_len (l : List Int) : (trim l).length ≤ l.length := by
  unfold trim
  rw [List.length_take]
  exact Nat.min_le_right ..
theorem sum_take_drop (l : List Int) (m : Nat) (h : ∀ k, m ≤ k → k < l.length → l[k]? = some 0) (a b : Nat) : (((l.take m).take b).drop a).sum = ((l.take b).drop a).sum := by
  have e : l = l.take m ++ l.drop m := (List.take_append_drop ..).symm
  have z : ∀ x ∈ l.drop m, x = 0 := fun x hx => by
    obtain ⟨k, hk, ek⟩ := List.mem_iff_getElem.mp hx
    rw [List.length_drop] at hk
    have := h (m + k) (by omega) (by omega)
    rw [List.getElem_drop] at ek
    rw [List.getElem?_eq_getElem (by omega), ek] at this
    exact Option.some.inj this
  have e2 : (l.take b).drop a = ((l.take m).take b).drop a ++ ((l.drop m).take (b - (l.take m).length)).drop (a - ((l.take m).take b).length) := by
    have : l.take b = (l.take m ++ l.drop m).take b := by rw [← e]
    rw [this, List.take_append, List.drop_append]
  rw [e2, List.sum_append]
  rw [sum_zero (l := ((l.drop m).take (b - (l.take m).length)).drop (a - ((l.take m).take b).length)) fun x hx => z x (List.mem_of_mem_take (List.mem_of_mem_drop hx))]
  omega
theorem trim_sum (l : List Int) (a b : Nat) : (((trim l).take b).drop a).sum = ((l.take b).drop a).sum :=
  sum_take_drop l _ (fun k h1 h2 => cutZ_zero l l.length k h1 h2) a b
theorem trim_drop_sum (l : List Int) (a : Nat) : ((trim l).drop a).sum = (l.drop a).sum := by
  have := trim_sum l a l.length
  rw [List.take_of_length_le (trim_len l), List.take_length] at this
  exact this
theorem trim_get (l : List Int) (k : Nat) : ((trim l)[k]?).getD 0 = (l[k]?).getD 0 := by
  unfold trim
  by_cases h : k < cutZ l l.length
  · rw [List.getElem?_take_of_lt h]
  · rw [List.getElem?_eq_none (by rw [List.length_take]; omega)]
    by_cases h2 : k < l.length
    · rw [cutZ_zero l l.length k (by omega) h2]
      rfl
    · rw [List.getElem?_eq_none (by omega)]
section
variable {P : Pg} {C : Caller} {M : Store}
theorem newT_ints {l : List D} (h : l.length ≤ lim) : newT (l.map Val.d) M = .ok (.d (.tup l)) M := by
  unfold newT
  rw [List.length_map, if_pos h, allD_map]
theorem newL_ints {l : List D} (h : l.length ≤ lim) : newL false (l.map Val.d) M = .ok (.d (.lst l)) M := by
  unfold newL
  rw [List.length_map, if_pos h]
  simp only [allD_map]
theorem bi_sumT {l : List Int} : fbi P C .sum [.d (.tup (l.map .int))] M = .ok (.d (.int l.sum)) M := by
  show (match seqOf M (.d (.tup (l.map .int))) with
    | some xs => (match allInt xs with
      | some l => R.ok (Val.d (.int l.sum)) M
      | none => .no)
    | none => .no) = _
  simp only [seqOf, allInt_map2]
theorem bi_sumL {l : List Int} : fbi P C .sum [.d (.lst (l.map .int))] M = .ok (.d (.int l.sum)) M := by
  show (match seqOf M (.d (.lst (l.map .int))) with
    | some xs => (match allInt xs with
      | some l => R.ok (Val.d (.int l.sum)) M
      | none => .no)
    | none => .no) = _
  simp only [seqOf, lstOf, allInt_map2]
theorem bi_tupT {l : List D} (h : l.length ≤ lim) : fbi P C .tuple [.d (.tup l)] M = .ok (.d (.tup l)) M := by
  show (match seqOf M (.d (.tup l)) with
    | some xs => newT xs M
    | none => .no) = _
  simp only [seqOf, newT_ints h]
theorem bi_tupL {l : List D} (h : l.length ≤ lim) : fbi P C .tuple [.d (.lst l)] M = .ok (.d (.tup l)) M := by
  show (match seqOf M (.d (.lst l)) with
    | some xs => newT xs M
    | none => .no) = _
  simp only [seqOf, lstOf, newT_ints h]
theorem bi_listL {l : List D} (h : l.length ≤ lim) : fbi P C .list [.d (.lst l)] M = .ok (.d (.lst l)) M := by
  show (match seqOf M (.d (.lst l)) with
    | some xs => newL false xs M
    | none => .no) = _
  simp only [seqOf, lstOf, newL_ints h]
theorem op_addL {a b : List D} (h : (a ++ b).length ≤ lim) : f2 P C .add (.d (.lst a)) (.d (.lst b)) M = .ok (.d (.lst (a ++ b))) M := by
  show newL false ((a ++ b).map Val.d) M = _
  exact newL_ints h
theorem op_mulL {a : List D} {k : Int} (h : a.length * k.toNat ≤ lim) (h1 : -(2 ^ 63) ≤ k ∧ k < 2 ^ 63) : f2 P C .mul (.d (.lst a)) (.d (.int k)) M = .ok (.d (.lst (List.replicate k.toNat a).flatten)) M := by
  show (if a.length * k.toNat ≤ lim ∧ -(2 ^ 63) ≤ k ∧ k < 2 ^ 63 then newL false ((List.replicate k.toNat a).flatten.map Val.d) M else .no) = _
  rw [if_pos ⟨h, h1⟩]
  refine newL_ints ?_
  rw [List.length_flatten]
  simp only [List.map_replicate, List.sum_replicate_nat]
  rw [Nat.mul_comm]
  exact h
end
theorem rd_tup {l : List D} {M : Store} : rdSeq (.d (.tup l)) false M = some (l.map fun x => [Val.d x]) := by
  show some ((l.map Val.d).map fun x => [x]) = _
  rw [List.map_map]
  rfl
theorem rd_lst {l : List D} {M : Store} : rdSeq (.d (.lst l)) false M = some (l.map fun x => [Val.d x]) := by
  show some ((l.map Val.d).map fun x => [x]) = _
  rw [List.map_map]
  rfl
theorem set_end {a b : Option Cell} {M : Store} : (M ++ [a]).set M.length b = M ++ [b] := by
  rw [List.set_append_right _ _ (Nat.le_refl _), Nat.sub_self]
  rfl
theorem get_end {a : Option Cell} {M : Store} : (M ++ [a])[M.length]? = some a := by
  rw [List.getElem?_append_right (Nat.le_refl _), Nat.sub_self]
  rfl
/-- a row bound to a star parameter behind one more -/
theorem bind_star {I : FnI} {x : Val} {l : List D} (h1 : I.star = true) (h2 : I.np = 2) (hx : plainV x = true) (hl : l.length ≤ lim) : bindUp I (x :: l.map Val.d) = some [x, .d (.tup l)] := by
  unfold bindUp
  rw [if_neg (by rw [List.all_cons, hx, plain_map]; simp), h1, h2, if_pos rfl, if_pos (by simp)]
  simp only [show 2 - 1 = 1 from rfl, List.drop_succ_cons, List.drop_zero, allD_map, if_pos hl]
  rfl
def rowOk (l : List Int) : Prop := ∀ x ∈ l, 0 ≤ x ∧ x ≤ 10 ^ 60 - 1
/-! ### sums of rows -/
theorem sum_rep {n : Nat} : (List.replicate n (0 : Int)).sum = 0 := sum_zero fun x hx => (List.mem_replicate.mp hx).2
def wide (l : List Int) : List Int := l ++ List.replicate (9 - l.length) 0
theorem wide_len {l : List Int} (h : l.length ≤ 9) : (wide l).length = 9 := by
  unfold wide
  rw [List.length_append, List.length_replicate]
  omega
theorem wide_sum (l : List Int) (a b : Nat) : (((wide l).take b).drop a).sum = ((l.take b).drop a).sum := by
  have z := sum_take_drop (wide l) l.length (fun k h1 h2 => by
    unfold wide at h2 ⊢
    rw [List.length_append, List.length_replicate] at h2
    rw [List.getElem?_append_right h1, List.getElem?_replicate, if_pos (by omega)]) a b
  rw [← z]
  have e : (wide l).take l.length = l := by
    unfold wide
    rw [List.take_left]
  rw [e]
theorem wide_drop (l : List Int) (a : Nat) : ((wide l).drop a).sum = (l.drop a).sum := by
  have := wide_sum l a ((wide l).length + l.length)
  rw [List.take_of_length_le (by omega), List.take_of_length_le (by omega)] at this
  exact this
theorem wide_get (l : List Int) (k : Nat) : ((wide l)[k]?).getD 0 = (l[k]?).getD 0 := by
  unfold wide
  by_cases h : k < l.length
  · rw [List.getElem?_append_left h]
  · rw [List.getElem?_append_right (by omega), List.getElem?_eq_none (show l.length ≤ k by omega), List.getElem?_replicate]
    split <;> rfl
theorem drop_sum (l : List Int) (k : Nat) : (l.drop k).sum = (l[k]?).getD 0 + (l.drop (k + 1)).sum := by
  by_cases h : k < l.length
  · rw [List.drop_eq_getElem_cons h, List.sum_cons, List.getElem?_eq_getElem h]
    rfl
  · rw [List.drop_eq_nil_of_le (by omega), List.drop_eq_nil_of_le (by omega), List.getElem?_eq_none (by omega)]
    rfl
theorem take_drop_sum (l : List Int) {a b : Nat} (h : a ≤ b) : ((l.take b).drop a).sum + (l.drop b).sum = (l.drop a).sum := by
  have e : l.drop a = (l.take b).drop a ++ l.drop b := by
    have z : l = l.take b ++ l.drop b := (List.take_append_drop ..).symm
    by_cases hb : b ≤ l.length
    · have : l.drop a = (l.take b ++ l.drop b).drop a := by rw [← z]
      rw [this, List.drop_append_of_le_length (by rw [List.length_take]; omega)]
    · rw [List.take_of_length_le (by omega), List.drop_eq_nil_of_le (show l.length ≤ b by omega), List.append_nil]
  rw [e, List.sum_append]
theorem take_drop_nil (l : List Int) {a b : Nat} (h : b ≤ a) : ((l.take b).drop a).sum = 0 := by
  rw [List.drop_eq_nil_of_le (by rw [List.length_take]; omega)]
  rfl
theorem rg_its {lo : Int} {n : Nat} {M : Store} : rdRng lo n 1 M = some ((List.range n).map fun (k : Nat) => [Val.d (.int (lo + k * 1))]) := rfl
theorem rg_len {lo : Int} {n : Nat} {M : Store} : rdLen (rdRng lo n 1) M = n := by
  unfold rdLen
  rw [rg_its]
  simp
theorem rg_get {lo : Int} {n i : Nat} {it : List Val} (h : ((List.range n).map fun (k : Nat) => [Val.d (.int (lo + k * 1))])[i]? = some it) : i < n ∧ it = [.d (.int (lo + i))] := by
  rw [List.getElem?_map] at h
  cases e : (List.range n)[i]? with
  | none => rw [e] at h; cases h
  | some k =>
    rw [e] at h
    cases h
    obtain ⟨h1, h2⟩ := List.getElem?_eq_some_iff.mp e
    rw [List.length_range] at h1
    rw [List.getElem_range] at h2
    subst h2
    refine ⟨h1, ?_⟩
    show [Val.d (.int (lo + (_ : Int) * 1))] = _
    rw [Int.mul_one]
/-! ### slots with no caught error -/
def nz (o : Option Val) : Bool := match o with
  | some (.exn _ _) => false
  | _ => true
theorem dropX_id {r : BV.Env} (h : r.all nz = true) : dropX r = r := by
  unfold dropX
  induction r with
  | nil => rfl
  | cons o r ih =>
    rw [List.all_cons, Bool.and_eq_true] at h
    rw [List.map_cons, ih h.2]
    congr 1
    cases o with
    | none => rfl
    | some v => cases v <;> first | rfl | cases h.1
theorem newL_mut {xs : List Val} {M : Store} (h : xs.length ≤ lim) (hp : xs.all plainV = true) : newL true xs M = .ok (.ref M.length) (M ++ [some (.lst xs)]) := by
  unfold newL
  rw [if_pos h]
  simp only [hp, if_true]
theorem app_ok {p : Nat} {M : Store} {xs : List Val} {v : Val} (hM : M[p]? = some (some (.lst xs))) (h : xs.length < lim) (hv : plainV v = true) : mAppend (.ref p) v M = .ok (.d .non) (M.set p (some (.lst (xs ++ [v])))) := by
  unfold mAppend
  simp only [hM, hv, decide_eq_true h, Bool.and_true, if_true]
theorem rcv_app {p : Nat} {M : Store} {xs : List Val} (hM : M[p]? = some (some (.lst xs))) : rcv .append (.ref p) M = true := by
  show (lstOf M (.ref p)).isSome = true
  simp only [lstOf, hM, Option.isSome_some]
theorem dat_ref {p : Nat} {M : Store} {xs : List D} (hM : M[p]? = some (some (.lst (xs.map Val.d)))) : dataOf M (.ref p) = some (.lst xs) := by
  simp only [dataOf, hM, allD_map]
theorem ne_ref {P : Pg} {C : Caller} {p : Nat} {M : Store} {xs ys : List D} {b : Bool} (hM : M[p]? = some (some (.lst (xs.map Val.d)))) (h : eqD 12 (.lst xs) (.lst ys) = some b) : f2 P C .ne (.ref p) (.d (.lst ys)) M = .ok (.d (.bl (!b))) M := by
  have e : ownHere .ne (.ref p) (.d (.lst ys)) M = false := by
    simp only [ownHere, insOf, hM, Option.isSome_none]
  unfold f2
  rw [e, dat_ref hM]
  simp only [Bool.false_eq_true, if_false, dataOf]
  show datEq true _ _ M = _
  unfold datEq
  rw [h]
  rfl
theorem exS_app {P : Pg} {C : Caller} {q : Asker} {i p : Nat} {e : E} {r : BV.Env} {M M' : Store} {v x : Val} (h1 : r[i]? = some (some (.ref p))) (h2 : rcv .append (.ref p) M = true) (h3 : ev P C q e r M = .ok v M) (h4 : mAppend (.ref p) v M = .ok x M') :
    exS P C q (.ex (.bm .append (.v i) (.cons e .nil))) r M = .ok (.nx r) M' := by
  have hv : ev P C q (.v i) r M = .ok (.ref p) M := by
    rw [ev, h1]
  have fb : fbm .append (.ref p) [v] M = .ok x M' := h4
  rw [exS, ev, hv]
  simp only [bind_ok, h2, if_true, evA, h3, fb, st_ok]
end BV

set_option Elab.async false
set_option maxRecDepth 100000
set_option maxHeartbeats 4000000
/-! PM: rows and their sums from behind, in plain Lean. -/
namespace BV

/-- the sum from k on -/
def U (l : List Int) (k : Nat) : Int := (l.drop k).sum
def nonneg (l : List Int) : Prop := ∀ x ∈ l, 0 ≤ x
theorem U_step (l : List Int) (k : Nat) : U l k = (l[k]?).getD 0 + U l (k + 1) := drop_sum l k
theorem sum_nonneg : ∀ {l : List Int}, nonneg l → 0 ≤ l.sum
  | [], _ => by simp
  | x :: l, h => by
    have h1 := h x List.mem_cons_self
    have h2 := sum_nonneg (l := l) fun y hy => h y (List.mem_cons_of_mem _ hy)
    rw [List.sum_cons]
    omega
theorem U_nonneg {l : List Int} (h : nonneg l) (k : Nat) : 0 ≤ U l k := sum_nonneg fun x hx => h x (List.mem_of_mem_drop hx)
theorem U_end {l : List Int} {k : Nat} (h : l.length ≤ k) : U l k = 0 := by
  unfold U
  rw [List.drop_eq_nil_of_le h]
  rfl
theorem get_nonneg {l : List Int} (h : nonneg l) (k : Nat) : 0 ≤ (l[k]?).getD 0 := by
  cases e : l[k]? with
  | none => exact Int.le_refl 0
  | some x => exact h x (List.mem_of_getElem? e)
theorem U_anti {l : List Int} (h : nonneg l) (k : Nat) : U l (k + 1) ≤ U l k := by
  have := get_nonneg h k
  rw [U_step l k]
  omega
theorem nonneg_set {l : List Int} (h : nonneg l) {i : Nat} {x : Int} (hx : 0 ≤ x) : nonneg (l.set i x) := fun y hy => by
  rcases List.mem_or_eq_of_mem_set hy with h1 | h1
  · exact h y h1
  · rw [h1]; exact hx
/-- one less at i -/
theorem U_set : ∀ (l : List Int) (i k : Nat) (d : Int), k ≤ i → i < l.length → U (l.set i ((l[i]?).getD 0 + d)) k = U l k + d
  | [], i, k, d, _, h => absurd h (Nat.not_lt_zero _)
  | x :: l, 0, k, d, h, _ => by
    obtain rfl : k = 0 := by omega
    show (x + d + l.sum) = x + l.sum + d
    omega
  | x :: l, i + 1, 0, d, _, h => by
    have ih := U_set l i 0 d (Nat.zero_le _) (by simpa using h)
    unfold U at ih ⊢
    simp only [List.drop_zero, List.set_cons_succ, List.getElem?_cons_succ, List.sum_cons] at ih ⊢
    omega
  | x :: l, i + 1, k + 1, d, h1, h => by
    have ih := U_set l i k d (by omega) (by simpa using h)
    unfold U at ih ⊢
    simpa only [List.set_cons_succ, List.drop_succ_cons, List.getElem?_cons_succ] using ih
theorem U_zero {l : List Int} {k : Nat} (h : ∀ i, k ≤ i → (l[i]?).getD 0 ≤ 0) (hn : nonneg l) : U l k = 0 := by
  refine sum_zero fun x hx => ?_
  obtain ⟨j, hj, e⟩ := List.getElem_of_mem hx
  rw [List.getElem_drop] at e
  have hj' : k + j < l.length := by rw [List.length_drop] at hj; omega
  have z := h (k + j) (by omega)
  rw [List.getElem?_eq_getElem hj', e] at z
  have z2 := hn x (List.mem_of_mem_drop hx)
  exact Int.le_antisymm z z2
/-- no more of each size and more -/
def dom (a b : List Int) : Bool := (List.range 9).all fun k => decide (U a k ≤ U b k)
theorem dom_iff {a b : List Int} : dom a b = true ↔ ∀ k, k < 9 → U a k ≤ U b k := by
  unfold dom
  rw [List.all_eq_true]
  exact ⟨fun h k hk => of_decide_eq_true (h k (List.mem_range.mpr hk)), fun h k hk => decide_eq_true (h k (List.mem_range.mp hk))⟩
theorem dom_no {a b : List Int} {k : Nat} (hk : k < 9) (h : U b k < U a k) : dom a b = false := by
  cases e : dom a b with
  | false => rfl
  | true =>
    have := dom_iff.mp e k hk
    omega
theorem dom_of {a a' b b' : List Int} (h1 : ∀ k, k < 9 → U a k = U a' k) (h2 : ∀ k, k < 9 → U b k = U b' k) : dom a b = dom a' b' := by
  unfold dom
  rw [Bool.eq_iff_iff, List.all_eq_true, List.all_eq_true]
  constructor
  · intro h k hk
    rw [← h1 k (List.mem_range.mp hk), ← h2 k (List.mem_range.mp hk)]
    exact h k hk
  · intro h k hk
    rw [h1 k (List.mem_range.mp hk), h2 k (List.mem_range.mp hk)]
    exact h k hk
theorem U_trim (l : List Int) (k : Nat) : U (trim l) k = U l k := trim_drop_sum l k
theorem U_wide (l : List Int) (k : Nat) : U (wide l) k = U l k := wide_drop l k
/-- the sums of a row that a function of the places gives -/
theorem U_ofFn (f : Nat → Int) : ∀ (n k : Nat), k ≤ n → U ((List.range n).map f) k = ((List.range (n - k)).map fun i => f (k + i)).sum := by
  intro n k h
  unfold U
  congr 1
  apply List.ext_getElem?
  intro i
  rw [List.getElem?_drop, List.getElem?_map, List.getElem?_map]
  by_cases hi : i < n - k
  · rw [List.getElem?_range (by omega), List.getElem?_range hi]
    rfl
  · rw [List.getElem?_eq_none (by rw [List.length_range]; omega), List.getElem?_eq_none (by rw [List.length_range]; omega)]
    rfl
theorem get_ofFn (f : Nat → Int) {n k : Nat} (h : k < n) : (((List.range n).map f)[k]?).getD 0 = f k := by
  rw [List.getElem?_map, List.getElem?_range h]
  rfl
/-- a row of nine whose numbers are differences of g has g as its sums -/
theorem U_diff (g : Nat → Int) (h9 : g 9 = 0) : ∀ k, k ≤ 9 → U ((List.range 9).map fun i => g i - g (i + 1)) k = g k := by
  have step : ∀ j k, k + j = 9 → U ((List.range 9).map fun i => g i - g (i + 1)) k = g k := by
    intro j
    induction j with
    | zero =>
      intro k hk
      obtain rfl : k = 9 := by omega
      rw [h9]
      exact U_end (by simp)
    | succ j ih =>
      intro k hk
      rw [U_step, ih (k + 1) (by omega), get_ofFn _ (by omega)]
      omega
  intro k hk
  exact step (9 - k) k (by omega)
/-- a row of nine that is the sum of two, place by place -/
theorem U_sum (a b : List Int) : ∀ k, k ≤ 9 → a.length ≤ 9 → b.length ≤ 9 → U ((List.range 9).map fun i => (a[i]?).getD 0 + (b[i]?).getD 0) k = U a k + U b k := by
  have step : a.length ≤ 9 → b.length ≤ 9 → ∀ j k, k + j = 9 → U ((List.range 9).map fun i => (a[i]?).getD 0 + (b[i]?).getD 0) k = U a k + U b k := by
    intro ha hb j
    induction j with
    | zero =>
      intro k hk
      obtain rfl : k = 9 := by omega
      rw [U_end ha, U_end hb]
      exact U_end (by simp)
    | succ j ih =>
      intro k hk
      rw [U_step, ih (k + 1) (by omega), get_ofFn _ (by omega), U_step a k, U_step b k]
      omega
  intro k hk ha hb
  exact step ha hb (9 - k) k (by omega)
end BV

set_option Elab.async false
set_option maxRecDepth 100000
set_option maxHeartbeats 4000000
/-! PM2: comprehensions by the place, zip, all, rows compared. -/
namespace BV
open PySem
section
variable {P : Pg} {C : Caller} {q : Asker} {M : Store}
theorem ev_cpN {it : It} {tg : List Nat} {e : E} {r : BV.Env} {rd : Rd} {its : List (List Val)} (n : Nat) (g : Nat → D) (h1 : evI P C q it (tg.length != 1) r M = .ok rd M) (h2 : rd M = some its) (h3 : its.length = n) (hl : n ≤ lim)
    (hb : ∀ k item, k < n → its[k]? = some item → ∃ r', setAll tg item (wipeE tg (dropX r)) = some r' ∧ ev P C q e r' M = .ok (.d (g k)) M) :
    ev P C q (.cp false it tg .nil e) r M = .ok (.d (.lst ((List.range n).map g))) M := by
  obtain ⟨acc, M', k1, k2, k3⟩ := cloop_inv (rd := rd) (its := its) (body := cpB P C q tg .nil e r) (fun i acc M' => M' = M ∧ acc = ((List.range i).map g).map Val.d) (fun i acc M' j => by rw [j.1]; exact h2) (fun i item acc M' hi j => by
    obtain ⟨rfl, rfl⟩ := j
    have hlt := (List.getElem?_eq_some_iff.mp hi).1
    obtain ⟨r', b1, b2⟩ := hb i item (by omega) hi
    refine ⟨.d (g i), _, cpB_nil b1 b2, ?_, rfl, rfl, ?_⟩
    · rw [List.length_map, List.length_map, List.length_range]
      omega
    · rw [List.range_succ, List.map_append, List.map_append]
      rfl) its.length (its.length + 1) 0 [] M (by omega) (by omega) ⟨rfl, rfl⟩
  rw [k2, k3] at k1
  have el : rdLen rd M = its.length := by
    unfold rdLen
    rw [h2]
  rw [ev_cp, h1, bind_ok, el, k1, bind_ok, h3]
  exact newL_ints (by rw [List.length_map, List.length_range]; exact hl)
theorem zip_ok {a b : E} {r : BV.Env} {x y : List D} (ha : ev P C q a r M = .ok (.d (.lst x)) M) (hb : ev P C q b r M = .ok (.d (.lst y)) M) :
    evI P C q (.zip a b) true r M = .ok (rdZip (.d (.lst x)) (.d (.lst y))) M ∧ rdZip (.d (.lst x)) (.d (.lst y)) M = some (zipL (x.map Val.d) (y.map Val.d)) := by
  have e : rdZip (.d (.lst x)) (.d (.lst y)) M = some (zipL (x.map Val.d) (y.map Val.d)) := by
    unfold rdZip
    simp only [lstOf]
  refine ⟨?_, e⟩
  simp only [evI, ha, hb, bind_ok, e, Option.isSome_some, Bool.and_self, if_true]
theorem zip_get {f g : Nat → D} {n k : Nat} (h : k < n) : (zipL (((List.range n).map f).map Val.d) (((List.range n).map g).map Val.d))[k]? = some [.d (f k), .d (g k)] := by
  unfold zipL
  rw [List.getElem?_zipWith, List.getElem?_map, List.getElem?_map, List.getElem?_map, List.getElem?_map, List.getElem?_range h]
  rfl
theorem zip_len {f g : Nat → D} {n : Nat} : (zipL (((List.range n).map f).map Val.d) (((List.range n).map g).map Val.d)).length = n := by
  unfold zipL
  simp
theorem eqDs_ints {n : Nat} : ∀ {a b : List Int}, eqDs (eqD (n + 1)) (a.map D.int) (b.map D.int) = some (a == b)
  | [], [] => rfl
  | [], y :: b => rfl
  | x :: a, [] => rfl
  | x :: a, y :: b => by
    rw [List.map_cons, List.map_cons, eqDs, eqDs_ints (a := a) (b := b)]
    rfl
theorem eqT_ints {a b : List Int} : f2 P C .eq (.d (.tup (a.map .int))) (.d (.tup (b.map .int))) M = .ok (.d (.bl (a == b))) M := by
  have e : eqD 12 (.tup (a.map .int)) (.tup (b.map .int)) = some (a == b) := eqDs_ints
  show datEq false _ _ M = _
  unfold datEq
  rw [e]
  rfl
theorem neL_ints {a b : List Int} : f2 P C .ne (.d (.lst (a.map .int))) (.d (.lst (b.map .int))) M = .ok (.d (.bl (!(a == b)))) M := by
  have e : eqD 12 (.lst (a.map .int)) (.lst (b.map .int)) = some (a == b) := eqDs_ints
  show datEq true _ _ M = _
  unfold datEq
  rw [e]
  rfl
theorem allBl_ok {l : List Bool} : allBl ((l.map D.bl).map Val.d) = some l := by
  induction l with
  | nil => rfl
  | cons b l ih =>
    rw [List.map_cons, List.map_cons]
    simp only [allBl, ih]
theorem bi_all {l : List Bool} : fbi P C .all [.d (.lst (l.map .bl))] M = .ok (.d (.bl (l.all id))) M := by
  have e : lstOf M (.d (.lst (l.map .bl))) = some ((l.map D.bl).map Val.d) := rfl
  simp only [fbi, bAll, e, allBl_ok]
end
end BV

set_option Elab.async false
set_option maxRecDepth 100000
set_option maxHeartbeats 4000000
/-! PM3: blocks with a test, the last of a list, whiles that pop. -/
namespace BV
open PySem
theorem cloop_flt {rd : Rd} {its : List (List Val)} {body : List Val → Store → R (Option Val)} (J : Nat → List Val → Store → Prop) (hrd : ∀ i acc M, J i acc M → rd M = some its)
    (hb : ∀ i it acc M, its[i]? = some it → J i acc M → (∃ M', body it M = .ok none M' ∧ J (i + 1) acc M') ∨ ∃ v M', body it M = .ok (some v) M' ∧ acc.length < lim ∧ plainV v = true ∧ J (i + 1) (acc ++ [v]) M') :
    ∀ (d k i : Nat) (acc : List Val) (M : Store), i + d = its.length → d < k → J i acc M → ∃ acc' M', cloop rd body k i acc M = .ok acc' M' ∧ J its.length acc' M' := by
  intro d
  induction d with
  | zero =>
    intro k i acc M hd hk j
    obtain ⟨k, rfl⟩ : ∃ k', k = k' + 1 := ⟨k - 1, by omega⟩
    refine ⟨acc, M, ?_, ?_⟩
    · unfold cloop
      rw [hrd i acc M j]
      have e : its[i]? = none := List.getElem?_eq_none (by omega)
      simp only [e]
    · have : i = its.length := by omega
      rw [← this]; exact j
  | succ d ih =>
    intro k i acc M hd hk j
    obtain ⟨k, rfl⟩ : ∃ k', k = k' + 1 := ⟨k - 1, by omega⟩
    have hi : i < its.length := by omega
    rcases hb i its[i] acc M (List.getElem?_eq_getElem hi) j with ⟨M', hb', j'⟩ | ⟨v, M', hb', hl, hp, j'⟩
    · obtain ⟨a2, M2, h1, h2⟩ := ih k (i + 1) acc M' (by omega) (by omega) j'
      refine ⟨a2, M2, ?_, h2⟩
      unfold cloop
      rw [hrd i acc M j]
      simp only [List.getElem?_eq_getElem hi, hb']
      exact h1
    · obtain ⟨a2, M2, h1, h2⟩ := ih k (i + 1) (acc ++ [v]) M' (by omega) (by omega) j'
      refine ⟨a2, M2, ?_, h2⟩
      unfold cloop
      rw [hrd i acc M j]
      simp only [List.getElem?_eq_getElem hi, hb', hp, Bool.and_true, decide_eq_true hl, if_true]
      exact h1
section
variable {P : Pg} {C : Caller} {q : Asker}
/-- one element of a block with one test -/
theorem cpB_tst {tg : List Nat} {t : Te} {e : E} {r r' : BV.Env} {item : List Val} {M : Store} {b : Bool} {v : Val} (h : setAll tg item (wipeE tg (dropX r)) = some r') (ht : evT P C q t r' M = .ok b M) (he : ev P C q e r' M = .ok v M) :
    cpB P C q tg (.cons t .nil) e r item M = if b then .ok (some v) M else .ok none M := by
  unfold cpB
  rw [h]
  simp only [evTs, ht]
  cases b with
  | false => rfl
  | true =>
    show (if true = true then (ev P C q e r' M).bind (fun v M4 => R.ok (some v) M4) else R.ok none M) = _
    rw [if_pos rfl, he]
    rfl
/-- the last of a list -/
theorem atI_last {a : Type} {xs : List a} {m : Nat} {x : a} (hm : xs.length = m + 1) (hx : xs[m]? = some x) : L2.atI xs (-1) = some x := by
  unfold L2.atI L2.ixN
  have h1 : ¬ (0 : Int) ≤ -1 := by decide
  rw [if_neg h1, if_pos (by omega)]
  have e : ((-1 : Int) + (xs.length : Int)).toNat = m := by omega
  rw [e]
  exact hx
theorem get_last {xs : List Val} {m : Nat} {x : Val} {v : Val} {M : Store} (hs : seqOf M v = some xs) (hi : insOf M v = none) (hm : xs.length = m + 1) (hx : xs[m]? = some x) : f2 P C .get v (.d (.int (-1))) M = .ok x M := by
  unfold f2
  have o : ownHere .get v (.d (.int (-1))) M = false := by
    show (insOf M v).isSome = false
    rw [hi]
    rfl
  rw [if_neg (by rw [o]; decide)]
  simp only [hs, atI_last hm hx]
end
end BV

set_option Elab.async false
set_option maxRecDepth 100000
set_option maxHeartbeats 4000000
/-! PW: walking: the evaluator's equations as one set, goals `Z (statements)`, loops by an invariant. -/
namespace BW
open PySem BV
section
variable {P : Pg} {C : Caller} {q : Asker} {M M1 : Store} {r r' : BV.Env}
/-- the statements behind an outcome -/
def nxt (P : Pg) (C : Caller) (q : Asker) (t : Ss) (o : SR) : SR := match o with
  | .ok (.nx r') M1 => exSs P C q t r' M1
  | x => x
theorem s_nil : exSs P C q .nil r M = .ok (.nx r) M := by rw [exSs]
theorem s_cons {s : Sm} {t : Ss} : exSs P C q (.cons s t) r M = nxt P C q t (exS P C q s r M) := by
  rw [exSs]; first | (unfold nxt; rfl) | rfl
theorem n_nx {t : Ss} : nxt P C q t (.ok (.nx r) M) = exSs P C q t r M := by unfold nxt; rfl
theorem n_rt {t : Ss} {v : Val} : nxt P C q t (.ok (.rt v) M) = .ok (.rt v) M := by unfold nxt; rfl
theorem n_bk {t : Ss} : nxt P C q t (.ok (.bk r) M) = .ok (.bk r) M := by unfold nxt; rfl
theorem n_ct {t : Ss} : nxt P C q t (.ok (.ct r) M) = .ok (.ct r) M := by unfold nxt; rfl
theorem n_ex {t : Ss} {c : Nat} {ds : List D} : nxt P C q t (.ex c ds r M) = .ex c ds r M := by unfold nxt; rfl
theorem s_asg {i : Nat} {e : E} : exS P C q (.asg i e) r M = (ev P C q e r M).st r fun x M1 => .ok (.nx (r.set i (some x))) M1 := by rw [exS]
theorem s_par {is : List Nat} {as : As} : exS P C q (.par is as) r M = (evA P C q as r M).st r fun xs M1 => (match setAll is xs r with
    | some r' => .ok (.nx r') M1
    | none => .no) := by
  rw [exS]; first | done | rfl
theorem s_sub {a i e : E} : exS P C q (.sub a i e) r M = (ev P C q e r M).st r fun v M1 => (ev P C q a r M1).st r fun x M2 => (ev P C q i r M2).st r fun y M3 => (match setI x y v M3 with
    | some M4 => .ok (.nx r) M4
    | none => .no) := by
  rw [exS]; first | done | rfl
theorem s_aug {i : Nat} {k : K2} {e : E} : exS P C q (.aug i k e) r M = (match r[i]? with
    | some (some x) => (ev P C q e r M).st r fun y M1 => (augV P C k x y M1).st r fun z M2 => .ok (.nx (r.set i (some z))) M2
    | _ => .no) := by
  rw [exS]; first | done | rfl
theorem s_ex {e : E} : exS P C q (.ex e) r M = (ev P C q e r M).st r fun _ M1 => .ok (.nx r) M1 := by rw [exS]
theorem s_ret {e : E} : exS P C q (.ret e) r M = (ev P C q e r M).st r fun x M1 => .ok (.rt x) M1 := by rw [exS]
theorem s_ifs {t : Te} {a b : Ss} : exS P C q (.ifs t a b) r M = (evT P C q t r M).st r fun x M1 => if x then exSs P C q a r M1 else exSs P C q b r M1 := by rw [exS]
theorem s_raise {c : Nat} {as : As} : exS P C q (.raise c as) r M = (evA P C q as r M).st r fun xs M1 => (match allD xs, P.exc c with
    | some ds, some n => if ds.length = n then .ex c ds r M1 else .no
    | _, _ => .no) := by
  rw [exS]; first | done | rfl
theorem aug_i {k : K2} {i : Int} {y : Val} : augV P C k (.d (.int i)) y M = augI k (.d (.int i)) y M := rfl
theorem aug_ins {k : K2} {c : Nat} {ds : List D} {y : Val} : augV P C k (.d (.ins c ds)) y M = ownL P C k k.dn (.d (.ins c ds)) y M := rfl
theorem aug_add {i j : Int} : augI .add (.d (.int i)) (.d (.int j)) M = .ok (.d (.int (i + j))) M := rfl
theorem aug_sub {i j : Int} : augI .sub (.d (.int i)) (.d (.int j)) M = .ok (.d (.int (i - j))) M := rfl
theorem s_sto {ts : List Tg1} {as : As} : exS P C q (.sto ts as) r M = (evA P C q as r M).st r fun xs M1 => if xs.length = ts.length then stAll P C q ts xs r M1 else .no := by rw [exS]
theorem sl_nil : stAll P C q [] [] r M = .ok (.nx r) M := by rw [stAll]
theorem sl_nm {i : Nat} {ts : List Tg1} {v : Val} {vs : List Val} : stAll P C q (.nm i :: ts) (v :: vs) r M = stAll P C q ts vs (r.set i (some v)) M := by rw [stAll]
def ssK (P : Pg) (C : Caller) (q : Asker) (ts : List Tg1) (vs : List Val) (r : BV.Env) : Option Store → SR
  | some M3 => stAll P C q ts vs r M3
  | none => .no
theorem sl_sub {a e : E} {ts : List Tg1} {v : Val} {vs : List Val} : stAll P C q (.sub a e :: ts) (v :: vs) r M = (ev P C q a r M).st r fun x M1 => (ev P C q e r M1).st r fun y M2 => ssK P C q ts vs r (setI x y v M2) := by
  rw [stAll]; first | (unfold ssK; rfl) | rfl
theorem ssK_some {ts : List Tg1} {vs : List Val} {M3 : Store} : ssK P C q ts vs r (some M3) = stAll P C q ts vs r M3 := by unfold ssK; rfl
theorem s_brk : exS P C q .brk r M = .ok (.bk r) M := by rw [exS]
theorem s_cont : exS P C q .cont r M = .ok (.ct r) M := by rw [exS]
theorem s_pass : exS P C q .pass r M = .ok (.nx r) M := by rw [exS]

/-! ### slots -/
def lk (r : BV.Env) (i : Nat) (M : Store) : R Val := match r[i]? with
  | some (some .lam) => .no
  | some (some v) => .ok v M
  | _ => .no
theorem lk_d {x : D} : lk (some (.d x) :: r) 0 M = .ok (.d x) M := by unfold lk; rfl
theorem lk_r {x : Nat} : lk (some (.ref x) :: r) 0 M = .ok (.ref x) M := by unfold lk; rfl
theorem lk_x {c : Nat} {ds : List D} : lk (some (.exn c ds) :: r) 0 M = .ok (.exn c ds) M := by unfold lk; rfl
theorem lk_s {o : Option Val} {i : Nat} : lk (o :: r) (i + 1) M = lk r i M := by unfold lk; rw [List.getElem?_cons_succ]
/-! ### expressions -/
theorem e_v {i : Nat} : ev P C q (.v i) r M = lk r i M := by
  rw [ev]; first | (unfold lk; rfl) | rfl
theorem e_c {d : D} : ev P C q (.c d) r M = .ok (.d d) M := by rw [ev]
theorem e_o1 {k : K1} {a : E} : ev P C q (.o1 k a) r M = (ev P C q a r M).bind fun x M1 => f1 P C k x M1 := by rw [ev]
theorem e_o2 {k : K2} {a b : E} : ev P C q (.o2 k a b) r M = (ev P C q a r M).bind fun x M1 => (ev P C q b r M1).bind fun y M2 => f2 P C k x y M2 := by rw [ev]
theorem e_andV {a b : E} : ev P C q (.andV a b) r M = (ev P C q a r M).bind fun x M1 => (truth P C x M1).bind fun t M2 => if t then ev P C q b r M2 else .ok x M2 := by rw [ev]
theorem e_orV {a b : E} : ev P C q (.orV a b) r M = (ev P C q a r M).bind fun x M1 => (truth P C x M1).bind fun t M2 => if t then .ok x M2 else ev P C q b r M2 := by rw [ev]
theorem e_tst {t : Te} : ev P C q (.tst t) r M = (evT P C q t r M).bind fun b M1 => .ok (.d (.bl b)) M1 := by rw [ev]
theorem e_ite {t : Te} {a b : E} : ev P C q (.ite t a b) r M = (evT P C q t r M).bind fun x M1 => if x then ev P C q a r M1 else ev P C q b r M1 := by rw [ev]
def chK (P : Pg) (C : Caller) (q : Asker) (l : K2) (y : Val) (c : E) (r : BV.Env) (z : Val) (M3 : Store) : R Val := match z with
  | .d (.bl true) => (ev P C q c r M3).bind fun w M4 => f2 P C l y w M4
  | .d (.bl false) => .ok (.d (.bl false)) M3
  | _ => .no
theorem e_chain {k l : K2} {a b c : E} : ev P C q (.chain k l a b c) r M = (ev P C q a r M).bind fun x M1 => (ev P C q b r M1).bind fun y M2 => (f2 P C k x y M2).bind fun z M3 => chK P C q l y c r z M3 := by
  rw [ev]; first | (unfold chK; rfl) | rfl
theorem chK_bl {l : K2} {y : Val} {c : E} {b : Bool} : chK P C q l y c r (.d (.bl b)) M = if b then (ev P C q c r M).bind fun w M4 => f2 P C l y w M4 else .ok (.d (.bl false)) M := by
  cases b <;> (unfold chK; rfl)
theorem e_tup {as : As} : ev P C q (.dsp .tup as) r M = (evA P C q as r M).bind fun xs M1 => newT xs M1 := by rw [ev]
theorem e_lst {as : As} : ev P C q (.dsp .lst as) r M = (evA P C q as r M).bind fun xs M1 => newL false xs M1 := by rw [ev]
theorem e_mut {as : As} : ev P C q (.dsp .mut as) r M = (evA P C q as r M).bind fun xs M1 => newL true xs M1 := by rw [ev]
theorem e_call {f : Nat} {as : As} : ev P C q (.call f as) r M = (evA P C q as r M).bind fun xs M1 => C f none xs M1 := by rw [ev]
theorem e_mk {c : Nat} {as : As} : ev P C q (.mk c as) r M = (evA P C q as r M).bind fun xs M1 => fmk P C c xs M1 := by rw [ev]
theorem e_bi {k : BI} {as : As} : ev P C q (.bi k as) r M = (evA P C q as r M).bind fun xs M1 => fbi P C k xs M1 := by rw [ev]
def meK (C : Caller) (q : Asker) (P : Pg) (as : As) (r : BV.Env) (x : Val) (M1 : Store) : Option (Nat × Bool) → R Val
  | some (f, b) => (evA P C q as r M1).bind fun xs M2 => C f none (if b then x :: xs else xs) M2
  | none => .no
theorem e_me {m : Nat} {a : E} {as : As} : ev P C q (.me m a as) r M = (ev P C q a r M).bind fun x M1 => meK C q P as r x M1 (tgtOf P m x M1) := by
  rw [ev]; first | (unfold meK; rfl) | rfl
theorem meK_t {as : As} {x : Val} {f : Nat} : meK C q P as r x M (some (f, true)) = (evA P C q as r M).bind fun xs M2 => C f none (x :: xs) M2 := by unfold meK; rfl
theorem meK_f {as : As} {x : Val} {f : Nat} : meK C q P as r x M (some (f, false)) = (evA P C q as r M).bind fun xs M2 => C f none xs M2 := by unfold meK; rfl
def perK (k : List Val → Store → R Val) (pm : List Nat) (xs : List Val) (M : Store) : R Val := match permute pm xs with
  | some ys => k ys M
  | none => .no
theorem e_callP {f : Nat} {as : As} {pm : List Nat} : ev P C q (.callP f as pm) r M = (evA P C q as r M).bind fun xs M1 => perK (fun ys M1 => C f none ys M1) pm xs M1 := by
  rw [ev]; first | (unfold perK; rfl) | rfl
theorem e_mkP {c : Nat} {as : As} {pm : List Nat} : ev P C q (.mkP c as pm) r M = (evA P C q as r M).bind fun xs M1 => perK (fun ys M1 => fmk P C c ys M1) pm xs M1 := by
  rw [ev]; first | (unfold perK; rfl) | rfl
def mePK (C : Caller) (q : Asker) (P : Pg) (as : As) (pm : List Nat) (r : BV.Env) (x : Val) (M1 : Store) : Option (Nat × Bool) → R Val
  | some (f, b) => (evA P C q as r M1).bind fun xs M2 => perK (fun ys M2 => C f none (if b then x :: ys else ys) M2) pm xs M2
  | none => .no
theorem e_meP {m : Nat} {a : E} {as : As} {pm : List Nat} : ev P C q (.meP m a as pm) r M = (ev P C q a r M).bind fun x M1 => mePK C q P as pm r x M1 (tgtOf P m x M1) := by
  rw [ev]; first | (unfold mePK perK; rfl) | rfl
theorem mePK_t {as : As} {pm : List Nat} {x : Val} {f : Nat} : mePK C q P as pm r x M (some (f, true)) = (evA P C q as r M).bind fun xs M2 => perK (fun ys M2 => C f none (x :: ys) M2) pm xs M2 := by unfold mePK; rfl
theorem mePK_f {as : As} {pm : List Nat} {x : Val} {f : Nat} : mePK C q P as pm r x M (some (f, false)) = (evA P C q as r M).bind fun xs M2 => perK (fun ys M2 => C f none ys M2) pm xs M2 := by unfold mePK; rfl
theorem per_10 {k : List Val → Store → R Val} {x y : Val} : perK k [1, 0] [x, y] M = k [y, x] M := rfl
theorem per_01 {k : List Val → Store → R Val} {x y : Val} : perK k [0, 1] [x, y] M = k [x, y] M := rfl
theorem per_0 {k : List Val → Store → R Val} {x : Val} : perK k [0] [x] M = k [x] M := rfl
def bmK (C : Caller) (q : Asker) (P : Pg) (k : KM) (as : As) (r : BV.Env) (x : Val) (M1 : Store) (b : Bool) : R Val :=
  if b then (evA P C q as r M1).bind fun xs M2 => fbm k x xs M2 else .no
theorem e_bm {k : KM} {a : E} {as : As} : ev P C q (.bm k a as) r M = (ev P C q a r M).bind fun x M1 => bmK C q P k as r x M1 (rcv k x M1) := by
  rw [ev]; first | (unfold bmK; rfl) | rfl
theorem bmK_t {k : KM} {as : As} {x : Val} : bmK C q P k as r x M true = (evA P C q as r M).bind fun xs M2 => fbm k x xs M2 := by unfold bmK; rfl
/-- a cut of a value -/
def slK (mt : Bool) (x : Val) (l h : Option Int) (M3 : Store) : R Val := match x with
  | .d (.tup xs) => newT ((cut xs l h).map Val.d) M3
  | .d (.scr xs) => newL mt ((cut xs l h).map Val.d) M3
  | x => match lstOf M3 x with
    | some xs => newL mt (cut xs l h) M3
    | none => .no
theorem e_sl {mt : Bool} {a : E} {lo hi : Eo} : ev P C q (.sl mt a lo hi) r M = (ev P C q a r M).bind fun x M1 => (evO P C q lo r M1).bind fun l M2 => (evO P C q hi r M2).bind fun h M3 => slK mt x l h M3 := by
  rw [ev]; first | (unfold slK; rfl) | rfl
theorem o_none : evO P C q .none r M = .ok none M := by rw [evO]
def oiK (x : Val) (M1 : Store) : R (Option Int) := match x with
  | .d (.int i) => .ok (some i) M1
  | _ => .no
theorem o_some {e : E} : evO P C q (.some e) r M = (ev P C q e r M).bind oiK := by
  rw [evO]; first | done | rfl
theorem oiK_i {i : Int} : oiK (.d (.int i)) M = .ok (some i) M := rfl
theorem a_nil : evA P C q .nil r M = .ok [] M := by rw [evA]
theorem a_cons {e : E} {t : As} : evA P C q (.cons e t) r M = (ev P C q e r M).bind fun x M1 => (evA P C q t r M1).bind fun xs M2 => .ok (x :: xs) M2 := by rw [evA]
def stK (P : Pg) (C : Caller) (q : Asker) (t : As) (r : BV.Env) (M1 : Store) : Option (List Val) → R (List Val)
  | some ys => (evA P C q t r M1).bind fun xs M2 => .ok (ys ++ xs) M2
  | none => .no
theorem a_star {e : E} {t : As} : evA P C q (.star e t) r M = (ev P C q e r M).bind fun x M1 => stK P C q t r M1 (seqOf M1 x) := by
  rw [evA]; first | (unfold stK; rfl) | rfl
theorem stK_some {t : As} {ys : List Val} : stK P C q t r M (some ys) = (evA P C q t r M).bind fun xs M2 => .ok (ys ++ xs) M2 := by unfold stK; rfl
theorem t_tr {e : E} : evT P C q (.tr e) r M = (ev P C q e r M).bind fun x M1 => truth P C x M1 := by rw [evT]
theorem t_and {a b : Te} : evT P C q (.and a b) r M = (evT P C q a r M).bind fun x M1 => if x then evT P C q b r M1 else .ok false M1 := by rw [evT]
theorem t_or {a b : Te} : evT P C q (.or a b) r M = (evT P C q a r M).bind fun x M1 => if x then .ok true M1 else evT P C q b r M1 := by rw [evT]
theorem t_not {a : Te} : evT P C q (.not a) r M = (evT P C q a r M).bind fun x M1 => .ok (!x) M1 := by rw [evT]
theorem ts_nil : evTs P C q .nil r M = .ok true M := by rw [evTs]
theorem ts_cons {t : Te} {ts : Tes} : evTs P C q (.cons t ts) r M = (evT P C q t r M).bind fun x M1 => if x then evTs P C q ts r M1 else .ok false M1 := by rw [evTs]
theorem i_rng {as : As} : evI P C q (.rng as) false r M = (evA P C q as r M).bind fun xs M1 => rngF xs M1 := by
  rw [evI]; first | done | rfl
theorem rng_1 {j : Int} (h : -4611686018427387904 ≤ j ∧ j < 4611686018427387904) : rngF [.d (.int j)] M = .ok (rdRng 0 j.toNat 1) M := by
  have : bnd j = true := by unfold bnd; rw [decide_eq_true h.1, decide_eq_true h.2]; rfl
  unfold rngF rng1
  simp only [this, if_true]
theorem rng_2 {i j : Int} (h : -4611686018427387904 ≤ i ∧ i < 4611686018427387904) (h' : -4611686018427387904 ≤ j ∧ j < 4611686018427387904) : rngF [.d (.int i), .d (.int j)] M = .ok (rdRng i (j - i).toNat 1) M := by
  have e1 : bnd j = true := by unfold bnd; rw [decide_eq_true h'.1, decide_eq_true h'.2]; rfl
  have e2 : bnd i = true := by unfold bnd; rw [decide_eq_true h.1, decide_eq_true h.2]; rfl
  unfold rngF rng2
  simp only [e1, e2, Bool.and_self, if_true]
theorem rng_3 {i j : Int} (h : -4611686018427387904 ≤ i ∧ i < 4611686018427387904) (h' : -4611686018427387904 ≤ j ∧ j < 4611686018427387904) : rngF [.d (.int i), .d (.int j), .d (.int (-1))] M = .ok (rdRng i (i - j).toNat (-1)) M := by
  have e1 : bnd j = true := by unfold bnd; rw [decide_eq_true h'.1, decide_eq_true h'.2]; rfl
  have e2 : bnd i = true := by unfold bnd; rw [decide_eq_true h.1, decide_eq_true h.2]; rfl
  unfold rngF rng3
  simp only [e1, e2, Bool.and_self, beq_self_eq_true, if_true]
/-! ### names bound -/
theorem sa_nil : setAll [] [] r = some r := rfl
theorem sa_cons {i : Nat} {is : List Nat} {v : Val} {vs : List Val} : setAll (i :: is) (v :: vs) r = setAll is vs (r.set i (some v)) := by rw [setAll]
theorem wi_nil : wipeE [] r = r := rfl
theorem wi_cons {i : Nat} {is : List Nat} : wipeE (i :: is) r = (wipeE is r).set i none := rfl
theorem dx_nil : dropX [] = [] := rfl
theorem dx_none : dropX (none :: r) = none :: dropX r := rfl
theorem dx_d {x : D} : dropX (some (.d x) :: r) = some (.d x) :: dropX r := rfl
theorem dx_r {x : Nat} : dropX (some (.ref x) :: r) = some (.ref x) :: dropX r := rfl
/-! ### the end of a def -/
theorem r_d {x : D} : retOf (.ok (.rt (.d x)) M) = .ok (.d x) M := rfl
theorem r_ref {x : Nat} : retOf (.ok (.rt (.ref x)) M) = .ok (.ref x) M := rfl
theorem r_nx : retOf (.ok (.nx r) M) = .ok (.d .non) M := rfl
theorem r_ex {c : Nat} {ds : List D} : retOf (.ex c ds r M) = .ex c ds M := rfl
/-! ### truth, operators -/
theorem t_int {i : Int} : truth P C (.d (.int i)) M = .ok (i != 0) M := rfl
theorem t_non : truth P C (.d .non) M = .ok false M := rfl
theorem t_lst {l : List D} : truth P C (.d (.lst l)) M = .ok (!l.isEmpty) M := rfl
theorem t_tup {l : List D} : truth P C (.d (.tup l)) M = .ok (!l.isEmpty) M := rfl
theorem op_eqB {a b : Bool} : f2 P C .eq (.d (.bl a)) (.d (.bl b)) M = .ok (.d (.bl (a == b))) M := rfl
theorem op_neB {a b : Bool} : f2 P C .ne (.d (.bl a)) (.d (.bl b)) M = .ok (.d (.bl (!(a == b)))) M := rfl
def trK : R Val → R Bool
  | .ok (.d (.bl b)) M' => .ok b M'
  | .ok _ _ => .no
  | .ex c ds M' => .ex c ds M'
  | .no => .no
theorem trK_bl {b : Bool} : trK (.ok (.d (.bl b)) M) = .ok b M := rfl
theorem trK_ex {c : Nat} {ds : List D} : trK (.ex c ds M) = .ex c ds M := rfl
theorem chk_len {i : Nat} (h : i < 9223372036854775808) : R.chk lenV (.ok (.d (.int (i : Int))) M) = .ok (.d (.int (i : Int))) M := by
  have : lenV (.d (.int (i : Int))) = true := by
    simp only [lenV, Bool.and_eq_true, decide_eq_true_eq]; omega
  rw [R.chk_ok, this]; rfl
theorem chk_str {x : Str} : R.chk strV (.ok (.d (.str x)) M) = .ok (.d (.str x)) M := rfl
theorem calm_ok {v : Val} : R.calm (.ok v M) = .ok v M := rfl
theorem o1_neg {i : Int} : f1 P C .neg (.d (.int i)) M = .ok (.d (.int (-i))) M := rfl
theorem rep_bl {b : Bool} : fbi P C .repr [.d (.bl b)] M = .ok (.d (.str (if b then "True" else "False"))) M := by cases b <;> rfl
end
/-! ### loops -/
/-- what a turn of a loop must do -/
def LZ (Z : SR → Prop) (J : BV.Env → Store → Prop) (o : SR) : Prop := match o with
  | .ok (.nx r') M' => J r' M'
  | .ok (.ct r') M' => J r' M'
  | .ok (.bk r') M' => Z (.ok (.nx r') M')
  | .ok (.rt v) M' => Z (.ok (.rt v) M')
  | .ex c ds r' M' => Z (.ex c ds r' M')
  | .no => False
section
variable {Z : SR → Prop} {J : BV.Env → Store → Prop} {r : BV.Env} {M : Store}
theorem z_nx : LZ Z J (.ok (.nx r) M) = J r M := rfl
theorem z_ct : LZ Z J (.ok (.ct r) M) = J r M := rfl
theorem z_bk : LZ Z J (.ok (.bk r) M) = Z (.ok (.nx r) M) := rfl
theorem z_rt {v : Val} : LZ Z J (.ok (.rt v) M) = Z (.ok (.rt v) M) := rfl
theorem z_ex {c : Nat} {ds : List D} : LZ Z J (.ex c ds r M) = Z (.ex c ds r M) := rfl
end
theorem loop_Z {rd : Rd} {its : List (List Val)} {body : List Val → BV.Env → Store → SR} (Z : SR → Prop) (J : Nat → BV.Env → Store → Prop) (hrd : ∀ i r M, J i r M → rd M = some its)
    (hb : ∀ i it r M, its[i]? = some it → J i r M → LZ Z (J (i + 1)) (body it r M)) (he : ∀ r M, J its.length r M → Z (.ok (.nx r) M)) :
    ∀ (d k i : Nat) (r : BV.Env) (M : Store), i + d = its.length → d < k → J i r M → Z (loop rd body k i r M) := by
  intro d
  induction d with
  | zero =>
    intro k i r M hd hk j
    obtain ⟨k, rfl⟩ : ∃ k', k = k' + 1 := ⟨k - 1, by omega⟩
    unfold loop
    rw [hrd i r M j]
    have e : its[i]? = none := List.getElem?_eq_none (by omega)
    simp only [e]
    have : i = its.length := by omega
    exact he r M (this ▸ j)
  | succ d ih =>
    intro k i r M hd hk j
    obtain ⟨k, rfl⟩ : ∃ k', k = k' + 1 := ⟨k - 1, by omega⟩
    have hi : i < its.length := by omega
    unfold loop
    rw [hrd i r M j]
    simp only [List.getElem?_eq_getElem hi]
    have h := hb i its[i] r M (List.getElem?_eq_getElem hi) j
    cases e : body its[i] r M with
    | ok f M' =>
      rw [e] at h
      cases f with
      | nx r' => exact ih k (i + 1) r' M' (by omega) (by omega) h
      | ct r' => exact ih k (i + 1) r' M' (by omega) (by omega) h
      | bk r' => exact h
      | rt v => exact h
    | ex c ds r' M' => rw [e] at h; exact h
    | no => rw [e] at h; exact h.elim
section
variable {P : Pg} {C : Caller} {q : Asker} {M M1 : Store} {r : BV.Env}
/-- a loop over a row that stays -/
theorem w_for {Z : SR → Prop} {t : Ss} {tg : List Nat} {it : It} {b : Ss} {rd : Rd} (its : List (List Val)) (hI : evI P C q it (tg.length != 1) r M = .ok rd M1) (J : Nat → BV.Env → Store → Prop) (hrd : ∀ i r M, J i r M → rd M = some its) (j0 : J 0 r M1)
    (hb : ∀ i item r M, its[i]? = some item → J i r M → ∃ r', setAll tg item r = some r' ∧ LZ (fun o => Z (nxt P C q t o)) (J (i + 1)) (exSs P C q b r' M))
    (he : ∀ r M, J its.length r M → Z (exSs P C q t r M)) : Z (nxt P C q t (exS P C q (.for tg it b) r M)) := by
  rw [exS_for, hI, st_ok]
  have el : rdLen rd M1 = its.length := by unfold rdLen; rw [hrd 0 r M1 j0]
  rw [el]
  exact loop_Z (fun o => Z (nxt P C q t o)) J hrd (fun i item r M hi j => by
    obtain ⟨r', h1, h2⟩ := hb i item r M hi j
    rw [forB_eq h1]; exact h2) (fun r M j => by rw [n_nx]; exact he r M j) its.length (its.length + 1) 0 r M1 (by omega) (by omega) j0
theorem w_rng {Z : SR → Prop} {t : Ss} {tg : Nat} {as : As} {b : Ss} {lo : Int} {n : Nat} (hI : evI P C q (.rng as) false r M = .ok (rdRng lo n 1) M1) (J : Nat → BV.Env → Store → Prop) (j0 : J 0 r M1)
    (hb : ∀ i r M, i < n → J i r M → LZ (fun o => Z (nxt P C q t o)) (J (i + 1)) (exSs P C q b (r.set tg (some (.d (.int (lo + i))))) M))
    (he : ∀ r M, J n r M → Z (exSs P C q t r M)) : Z (nxt P C q t (exS P C q (.for [tg] (.rng as) b) r M)) :=
  w_for ((List.range n).map fun (k : Nat) => [Val.d (.int (lo + k * 1))]) hI J (fun _ _ _ _ => rg_its) j0 (fun i item r M hi j => by
    obtain ⟨hi1, rfl⟩ := rg_get hi
    exact ⟨_, rfl, hb i r M hi1 j⟩) (fun r M j => he r M (by rw [List.length_map, List.length_range] at j; exact j))
theorem rgd_get {lo : Int} {n i : Nat} {it : List Val} (h : ((List.range n).map fun (k : Nat) => [Val.d (.int (lo + k * (-1)))])[i]? = some it) : i < n ∧ it = [.d (.int (lo - i))] := by
  rw [List.getElem?_map] at h
  by_cases hi : i < n
  · rw [List.getElem?_range hi] at h
    cases h
    refine ⟨hi, ?_⟩
    show [Val.d (.int (lo + (i : Int) * -1))] = _
    rw [show lo + (i : Int) * -1 = lo - i by omega]
  · rw [List.getElem?_eq_none (by rw [List.length_range]; omega)] at h
    cases h
/-- .. down -/
theorem w_down {Z : SR → Prop} {t : Ss} {tg : Nat} {as : As} {b : Ss} {lo : Int} {n : Nat} (hI : evI P C q (.rng as) false r M = .ok (rdRng lo n (-1)) M1) (J : Nat → BV.Env → Store → Prop) (j0 : J 0 r M1)
    (hb : ∀ i r M, i < n → J i r M → LZ (fun o => Z (nxt P C q t o)) (J (i + 1)) (exSs P C q b (r.set tg (some (.d (.int (lo - i))))) M))
    (he : ∀ r M, J n r M → Z (exSs P C q t r M)) : Z (nxt P C q t (exS P C q (.for [tg] (.rng as) b) r M)) :=
  w_for ((List.range n).map fun (k : Nat) => [Val.d (.int (lo + k * (-1)))]) hI J (fun _ _ _ _ => rfl) j0 (fun i item r M hi j => by
    obtain ⟨hi1, rfl⟩ := rgd_get hi
    exact ⟨_, rfl, hb i r M hi1 j⟩) (fun r M j => he r M (by rw [List.length_map, List.length_range] at j; exact j))
/-- .. over a list or a tuple -/
theorem w_lst {Z : SR → Prop} {t : Ss} {tg : Nat} {e : E} {b : Ss} {l : List D} (hI : ev P C q e r M = .ok (.d (.lst l)) M1) (J : Nat → BV.Env → Store → Prop) (j0 : J 0 r M1)
    (hb : ∀ i x r M, l[i]? = some x → J i r M → LZ (fun o => Z (nxt P C q t o)) (J (i + 1)) (exSs P C q b (r.set tg (some (.d x))) M))
    (he : ∀ r M, J l.length r M → Z (exSs P C q t r M)) : Z (nxt P C q t (exS P C q (.for [tg] (.e e) b) r M)) :=
  w_for (l.map fun x => [Val.d x]) (rd := rdSeq (.d (.lst l)) false) (by rw [evI, hI, bind_ok]; show (if (rdSeq (.d (.lst l)) false M1).isSome = true then R.ok (rdSeq (.d (.lst l)) false) M1 else .no) = _; rw [rd_lst]; rfl) J (fun _ _ _ _ => rd_lst) j0 (fun i item r M hi j => by
    rw [List.getElem?_map] at hi
    cases e : l[i]? with
    | none => rw [e] at hi; cases hi
    | some x => rw [e] at hi; cases hi; exact ⟨_, rfl, hb i x r M e j⟩) (fun r M j => he r M (by rw [List.length_map] at j; exact j))
theorem w_tup {Z : SR → Prop} {t : Ss} {tg : Nat} {e : E} {b : Ss} {l : List D} (hI : ev P C q e r M = .ok (.d (.tup l)) M1) (J : Nat → BV.Env → Store → Prop) (j0 : J 0 r M1)
    (hb : ∀ i x r M, l[i]? = some x → J i r M → LZ (fun o => Z (nxt P C q t o)) (J (i + 1)) (exSs P C q b (r.set tg (some (.d x))) M))
    (he : ∀ r M, J l.length r M → Z (exSs P C q t r M)) : Z (nxt P C q t (exS P C q (.for [tg] (.e e) b) r M)) :=
  w_for (l.map fun x => [Val.d x]) (rd := rdSeq (.d (.tup l)) false) (by rw [evI, hI, bind_ok]; show (if (rdSeq (.d (.tup l)) false M1).isSome = true then R.ok (rdSeq (.d (.tup l)) false) M1 else .no) = _; rw [rd_tup]; rfl) J (fun _ _ _ _ => rd_tup) j0 (fun i item r M hi j => by
    rw [List.getElem?_map] at hi
    cases e : l[i]? with
    | none => rw [e] at hi; cases hi
    | some x => rw [e] at hi; cases hi; exact ⟨_, rfl, hb i x r M e j⟩) (fun r M j => he r M (by rw [List.length_map] at j; exact j))
/-- a while: an invariant with a number that falls -/
def WZ (Z : SR → Prop) (J : BV.Env → Store → Prop) (body : Store → SR) (r : BV.Env) (o : R Bool) : Prop := match o with
  | .ok true M1 => LZ Z J (body M1)
  | .ok false M1 => Z (.ok (.nx r) M1)
  | .ex c ds M1 => Z (.ex c ds r M1)
  | .no => False
theorem wloop_Z {tst : BV.Env → Store → R Bool} {body : BV.Env → Store → SR} (Z : SR → Prop) (J : Nat → BV.Env → Store → Prop)
    (hb : ∀ i r M, J i r M → WZ Z (fun r' M' => ∃ j, j < i ∧ J j r' M') (body r) r (tst r M)) : ∀ (k i : Nat) (r : BV.Env) (M : Store), i < k → J i r M → Z (wloop tst body k r M) := by
  intro k
  induction k with
  | zero => intro i r M h; omega
  | succ k ih =>
    intro i r M hk j
    have h := hb i r M j
    unfold wloop
    cases e : tst r M with
    | ok b M1 =>
      rw [e] at h
      cases b with
      | false => exact h
      | true =>
        have h' : LZ Z (fun r' M' => ∃ j, j < i ∧ J j r' M') (body r M1) := h
        simp only
        cases e2 : body r M1 with
        | ok f M' =>
          rw [e2] at h'
          cases f with
          | nx r' => obtain ⟨j', l1, l2⟩ := h'; exact ih j' r' M' (by omega) l2
          | ct r' => obtain ⟨j', l1, l2⟩ := h'; exact ih j' r' M' (by omega) l2
          | bk r' => exact h'
          | rt v => exact h'
        | ex c ds r' M' => rw [e2] at h'; exact h'
        | no => rw [e2] at h'; exact h'.elim
    | ex c ds M1 => rw [e] at h; exact h
    | no => rw [e] at h; exact h.elim
theorem w_whl {Z : SR → Prop} {t : Ss} {c : Te} {b : Ss} {k i : Nat} (J : Nat → BV.Env → Store → Prop) (j0 : J i r M) (hk : i < k)
    (hb : ∀ i r M, J i r M → WZ (fun o => Z (nxt P C q t o)) (fun r' M' => ∃ j, j < i ∧ J j r' M') (fun M1 => exSs P C q b r M1) r (evT P C q c r M)) : Z (nxt P C q t (exS P C q (.whl k c b) r M)) := by
  rw [exS]
  exact wloop_Z (fun o => Z (nxt P C q t o)) J hb k i r M hk j0
theorem wz_t {Z : SR → Prop} {J : BV.Env → Store → Prop} {body : Store → SR} : WZ Z J body r (.ok true M) = LZ Z J (body M) := rfl
theorem wz_f {Z : SR → Prop} {J : BV.Env → Store → Prop} {body : Store → SR} : WZ Z J body r (.ok false M) = Z (.ok (.nx r) M) := rfl
end
/-! loops that leave all as it was but their own name -/
theorem set_id {r : BV.Env} {i : Nat} {y : Option Val} (h : r[i]? = some y) : r = r.set i y := by
  apply List.ext_getElem?
  intro j
  by_cases e : i = j
  · subst e
    have hl := (List.getElem?_eq_some_iff.mp h).1
    rw [List.getElem?_set_self hl, h]
  · rw [List.getElem?_set_ne e]
section
variable {P : Pg} {C : Caller} {q : Asker} {M M1 : Store} {r : BV.Env}
theorem w_lst0 {Z : SR → Prop} {t : Ss} {tg : Nat} {e : E} {b : Ss} {l : List D} {y0 : Option Val} (hI : ev P C q e r M = .ok (.d (.lst l)) M1) (h0 : r[tg]? = some y0)
    (hb : ∀ (i : Nat) (x : D), l[i]? = some x → LZ (fun o => Z (nxt P C q t o)) (fun r' M' => r' = r.set tg (some (.d x)) ∧ M' = M1) (exSs P C q b (r.set tg (some (.d x))) M1))
    (he : ∀ y, Z (exSs P C q t (r.set tg y) M1)) : Z (nxt P C q t (exS P C q (.for [tg] (.e e) b) r M)) :=
  w_lst hI (fun _ r' M' => M' = M1 ∧ ∃ y, r' = r.set tg y) ⟨rfl, y0, set_id h0⟩ (fun i x r' M' hi j => by
    obtain ⟨rfl, y, rfl⟩ := j
    rw [List.set_set]
    have := hb i x hi
    revert this
    generalize exSs P C q b (r.set tg (some (.d x))) _ = o
    intro h
    cases o with
    | ok f M2 => cases f with
      | nx r2 => exact ⟨h.2, _, h.1⟩
      | ct r2 => exact ⟨h.2, _, h.1⟩
      | bk r2 => exact h
      | rt v => exact h
    | ex c ds r2 M2 => exact h
    | no => exact h) (fun r' M' j => by obtain ⟨rfl, y, rfl⟩ := j; exact he y)
theorem w_tup0 {Z : SR → Prop} {t : Ss} {tg : Nat} {e : E} {b : Ss} {l : List D} {y0 : Option Val} (hI : ev P C q e r M = .ok (.d (.tup l)) M1) (h0 : r[tg]? = some y0)
    (hb : ∀ (i : Nat) (x : D), l[i]? = some x → LZ (fun o => Z (nxt P C q t o)) (fun r' M' => r' = r.set tg (some (.d x)) ∧ M' = M1) (exSs P C q b (r.set tg (some (.d x))) M1))
    (he : ∀ y, Z (exSs P C q t (r.set tg y) M1)) : Z (nxt P C q t (exS P C q (.for [tg] (.e e) b) r M)) :=
  w_tup hI (fun _ r' M' => M' = M1 ∧ ∃ y, r' = r.set tg y) ⟨rfl, y0, set_id h0⟩ (fun i x r' M' hi j => by
    obtain ⟨rfl, y, rfl⟩ := j
    rw [List.set_set]
    have := hb i x hi
    revert this
    generalize exSs P C q b (r.set tg (some (.d x))) _ = o
    intro h
    cases o with
    | ok f M2 => cases f with
      | nx r2 => exact ⟨h.2, _, h.1⟩
      | ct r2 => exact ⟨h.2, _, h.1⟩
      | bk r2 => exact h
      | rt v => exact h
    | ex c ds r2 M2 => exact h
    | no => exact h) (fun r' M' j => by obtain ⟨rfl, y, rfl⟩ := j; exact he y)
theorem w_rng0 {Z : SR → Prop} {t : Ss} {tg : Nat} {as : As} {b : Ss} {lo : Int} {n : Nat} {y0 : Option Val} (hI : evI P C q (.rng as) false r M = .ok (rdRng lo n 1) M1) (h0 : r[tg]? = some y0)
    (hb : ∀ i : Nat, i < n → LZ (fun o => Z (nxt P C q t o)) (fun r' M' => r' = r.set tg (some (.d (.int (lo + i)))) ∧ M' = M1) (exSs P C q b (r.set tg (some (.d (.int (lo + i))))) M1))
    (he : ∀ y, Z (exSs P C q t (r.set tg y) M1)) : Z (nxt P C q t (exS P C q (.for [tg] (.rng as) b) r M)) :=
  w_rng hI (fun _ r' M' => M' = M1 ∧ ∃ y, r' = r.set tg y) ⟨rfl, y0, set_id h0⟩ (fun i r' M' hi j => by
    obtain ⟨rfl, y, rfl⟩ := j
    rw [List.set_set]
    have := hb i hi
    revert this
    generalize exSs P C q b (r.set tg (some (.d (.int (lo + i))))) _ = o
    intro h
    cases o with
    | ok f M2 => cases f with
      | nx r2 => exact ⟨h.2, _, h.1⟩
      | ct r2 => exact ⟨h.2, _, h.1⟩
      | bk r2 => exact h
      | rt v => exact h
    | ex c ds r2 M2 => exact h
    | no => exact h) (fun r' M' j => by obtain ⟨rfl, y, rfl⟩ := j; exact he y)
end
/-! ### errors caught -/
section
variable {P : Pg} {C : Caller} {q : Asker} {M M1 : Store} {r : BV.Env}
def tryK (P : Pg) (C : Caller) (q : Asker) (hs : Hs) (o : SR) : SR := match o with
    | .ex c ds r' M1 => exH P C q hs c ds (dropX r') M1
    | .ok (.nx r') M1 => .ok (.nx (dropX r')) M1
    | .ok (.bk r') M1 => .ok (.bk (dropX r')) M1
    | .ok (.ct r') M1 => .ok (.ct (dropX r')) M1
    | .ok (.rt v) M1 => if plainV v then .ok (.rt v) M1 else .no
    | .no => .no
theorem s_try {b : Ss} {hs : Hs} : exS P C q (.try b hs) r M = tryK P C q hs (exSs P C q b (dropX r) M) := by
  rw [exS]; first | (unfold tryK; rfl) | rfl
theorem tk_ex {hs : Hs} {c : Nat} {ds : List D} : tryK P C q hs (.ex c ds r M) = exH P C q hs c ds (dropX r) M := by unfold tryK; rfl
theorem tk_nx {hs : Hs} : tryK P C q hs (.ok (.nx r) M) = .ok (.nx (dropX r)) M := by unfold tryK; rfl
theorem tk_d {hs : Hs} {x : D} : tryK P C q hs (.ok (.rt (.d x)) M) = .ok (.rt (.d x)) M := by unfold tryK; rfl
theorem tk_r {hs : Hs} {x : Nat} : tryK P C q hs (.ok (.rt (.ref x)) M) = .ok (.rt (.ref x)) M := by unfold tryK; rfl
def hK (i : Option Nat) (o : SR) : SR := match o with
      | .ok (.nx r') M1 => .ok (.nx (unset i (dropX r'))) M1
      | .ok (.bk r') M1 => .ok (.bk (unset i (dropX r'))) M1
      | .ok (.ct r') M1 => .ok (.ct (unset i (dropX r'))) M1
      | .ok (.rt v) M1 => if plainV v then .ok (.rt v) M1 else .no
      | .ex _ _ _ _ => .no
      | .no => .no
theorem hK_d {i : Option Nat} {x : D} : hK i (.ok (.rt (.d x)) M) = .ok (.rt (.d x)) M := by unfold hK; rfl
theorem hK_nx {i : Option Nat} : hK i (.ok (.nx r) M) = .ok (.nx (unset i (dropX r))) M := by unfold hK; rfl
theorem exH_in {hc c : Nat} {i : Nat} {b : Ss} {t : Hs} {ds : List D} (h1 : (P.exc c).isSome = true) (h2 : (P.exc hc).isSome = true) (h3 : P.sub c hc = true) : exH P C q (.cons hc (some i) b t) c ds r M = hK (some i) (exSs P C q b (r.set i (some (.exn c ds))) M) := by
  unfold exH
  rw [h1, h2, h3]
  unfold hK
  rfl
theorem exH_in0 {hc c : Nat} {b : Ss} {t : Hs} {ds : List D} (h1 : (P.exc c).isSome = true) (h2 : (P.exc hc).isSome = true) (h3 : P.sub c hc = true) : exH P C q (.cons hc none b t) c ds r M = hK none (exSs P C q b r M) := by
  unfold exH
  rw [h1, h2, h3]
  unfold hK
  rfl
theorem exH_no {hc c : Nat} {i : Option Nat} {b : Ss} {t : Hs} {ds : List D} (h1 : (P.exc c).isSome = true) (h2 : (P.exc hc).isSome = true) (h3 : P.sub c hc = false) : exH P C q (.cons hc i b t) c ds r M = exH P C q t c ds r M := by
  rw [exH.eq_def]
  simp only [h1, h2, h3, Bool.and_self, Bool.not_true, Bool.false_eq_true, if_false]
theorem dx_x {c : Nat} {ds : List D} : dropX (some (.exn c ds) :: r) = none :: dropX r := rfl
theorem dx_lam : dropX (some .lam :: r) = some .lam :: dropX r := rfl
theorem e_ask {g : Store → R Val} : ev P C (some g) .ask (some .lam :: r) M = g M := by
  rw [ev]; first | done | rfl
/-- how a datum is shown -/
def rs (d : D) : Str := (reprD d).getD ""
abbrev okR (d : D) : Prop := (reprD d).isSome = true
theorem rep_rs {d : D} (h : okR d) : fbi P C .repr [.d d] M = .ok (.d (.str (rs d))) M := by
  obtain ⟨s, hs⟩ := Option.isSome_iff_exists.mp h
  unfold rs
  rw [hs]
  show (match dataOf M (.d d) with
    | some y => (match reprD y with
      | some s => R.ok (Val.d (.str s)) M
      | none => .no)
    | none => .no) = _
  simp only [dataOf, hs]
  rfl
theorem e_dct0 : ev P C q (.dct [] .nil) r M = .ok (.d (.dic [] [])) M := by
  simp only [ev, evA, R.bind, allD]; rfl
theorem e_dct1 {k d : D} : ev P C q (.dct [k] (.cons (.c d) .nil)) r M = .ok (.d (.dic [k] [d])) M := by
  simp only [ev, evA, R.bind, allD]; rfl
end
/-! ### displays -/
section
variable {M : Store}
theorem nl_0 : newL false [] M = .ok (.d (.lst [])) M := newL_ints (l := []) (by show 0 ≤ lim; decide)
theorem nt_0 : newT [] M = .ok (.d (.tup [])) M := newT_ints (l := []) (by show 0 ≤ lim; decide)
theorem nl_1 {x0 : D} : newL false [.d x0] M = .ok (.d (.lst [x0])) M := newL_ints (l := [x0]) (by show 1 ≤ lim; decide)
theorem nt_1 {x0 : D} : newT [.d x0] M = .ok (.d (.tup [x0])) M := newT_ints (l := [x0]) (by show 1 ≤ lim; decide)
theorem nl_2 {x0 x1 : D} : newL false [.d x0, .d x1] M = .ok (.d (.lst [x0, x1])) M := newL_ints (l := [x0, x1]) (by show 2 ≤ lim; decide)
theorem nt_2 {x0 x1 : D} : newT [.d x0, .d x1] M = .ok (.d (.tup [x0, x1])) M := newT_ints (l := [x0, x1]) (by show 2 ≤ lim; decide)
theorem nl_3 {x0 x1 x2 : D} : newL false [.d x0, .d x1, .d x2] M = .ok (.d (.lst [x0, x1, x2])) M := newL_ints (l := [x0, x1, x2]) (by show 3 ≤ lim; decide)
theorem nt_3 {x0 x1 x2 : D} : newT [.d x0, .d x1, .d x2] M = .ok (.d (.tup [x0, x1, x2])) M := newT_ints (l := [x0, x1, x2]) (by show 3 ≤ lim; decide)
theorem nl_4 {x0 x1 x2 x3 : D} : newL false [.d x0, .d x1, .d x2, .d x3] M = .ok (.d (.lst [x0, x1, x2, x3])) M := newL_ints (l := [x0, x1, x2, x3]) (by show 4 ≤ lim; decide)
theorem nt_4 {x0 x1 x2 x3 : D} : newT [.d x0, .d x1, .d x2, .d x3] M = .ok (.d (.tup [x0, x1, x2, x3])) M := newT_ints (l := [x0, x1, x2, x3]) (by show 4 ≤ lim; decide)
theorem nl_5 {x0 x1 x2 x3 x4 : D} : newL false [.d x0, .d x1, .d x2, .d x3, .d x4] M = .ok (.d (.lst [x0, x1, x2, x3, x4])) M := newL_ints (l := [x0, x1, x2, x3, x4]) (by show 5 ≤ lim; decide)
theorem nt_5 {x0 x1 x2 x3 x4 : D} : newT [.d x0, .d x1, .d x2, .d x3, .d x4] M = .ok (.d (.tup [x0, x1, x2, x3, x4])) M := newT_ints (l := [x0, x1, x2, x3, x4]) (by show 5 ≤ lim; decide)
theorem nl_6 {x0 x1 x2 x3 x4 x5 : D} : newL false [.d x0, .d x1, .d x2, .d x3, .d x4, .d x5] M = .ok (.d (.lst [x0, x1, x2, x3, x4, x5])) M := newL_ints (l := [x0, x1, x2, x3, x4, x5]) (by show 6 ≤ lim; decide)
theorem nt_6 {x0 x1 x2 x3 x4 x5 : D} : newT [.d x0, .d x1, .d x2, .d x3, .d x4, .d x5] M = .ok (.d (.tup [x0, x1, x2, x3, x4, x5])) M := newT_ints (l := [x0, x1, x2, x3, x4, x5]) (by show 6 ≤ lim; decide)
theorem nl_7 {x0 x1 x2 x3 x4 x5 x6 : D} : newL false [.d x0, .d x1, .d x2, .d x3, .d x4, .d x5, .d x6] M = .ok (.d (.lst [x0, x1, x2, x3, x4, x5, x6])) M := newL_ints (l := [x0, x1, x2, x3, x4, x5, x6]) (by show 7 ≤ lim; decide)
theorem nt_7 {x0 x1 x2 x3 x4 x5 x6 : D} : newT [.d x0, .d x1, .d x2, .d x3, .d x4, .d x5, .d x6] M = .ok (.d (.tup [x0, x1, x2, x3, x4, x5, x6])) M := newT_ints (l := [x0, x1, x2, x3, x4, x5, x6]) (by show 7 ≤ lim; decide)
theorem nl_8 {x0 x1 x2 x3 x4 x5 x6 x7 : D} : newL false [.d x0, .d x1, .d x2, .d x3, .d x4, .d x5, .d x6, .d x7] M = .ok (.d (.lst [x0, x1, x2, x3, x4, x5, x6, x7])) M := newL_ints (l := [x0, x1, x2, x3, x4, x5, x6, x7]) (by show 8 ≤ lim; decide)
theorem nt_8 {x0 x1 x2 x3 x4 x5 x6 x7 : D} : newT [.d x0, .d x1, .d x2, .d x3, .d x4, .d x5, .d x6, .d x7] M = .ok (.d (.tup [x0, x1, x2, x3, x4, x5, x6, x7])) M := newT_ints (l := [x0, x1, x2, x3, x4, x5, x6, x7]) (by show 8 ≤ lim; decide)
theorem nl_9 {x0 x1 x2 x3 x4 x5 x6 x7 x8 : D} : newL false [.d x0, .d x1, .d x2, .d x3, .d x4, .d x5, .d x6, .d x7, .d x8] M = .ok (.d (.lst [x0, x1, x2, x3, x4, x5, x6, x7, x8])) M := newL_ints (l := [x0, x1, x2, x3, x4, x5, x6, x7, x8]) (by show 9 ≤ lim; decide)
theorem nt_9 {x0 x1 x2 x3 x4 x5 x6 x7 x8 : D} : newT [.d x0, .d x1, .d x2, .d x3, .d x4, .d x5, .d x6, .d x7, .d x8] M = .ok (.d (.tup [x0, x1, x2, x3, x4, x5, x6, x7, x8])) M := newT_ints (l := [x0, x1, x2, x3, x4, x5, x6, x7, x8]) (by show 9 ≤ lim; decide)
theorem nl_10 {x0 x1 x2 x3 x4 x5 x6 x7 x8 x9 : D} : newL false [.d x0, .d x1, .d x2, .d x3, .d x4, .d x5, .d x6, .d x7, .d x8, .d x9] M = .ok (.d (.lst [x0, x1, x2, x3, x4, x5, x6, x7, x8, x9])) M := newL_ints (l := [x0, x1, x2, x3, x4, x5, x6, x7, x8, x9]) (by show 10 ≤ lim; decide)
theorem nt_10 {x0 x1 x2 x3 x4 x5 x6 x7 x8 x9 : D} : newT [.d x0, .d x1, .d x2, .d x3, .d x4, .d x5, .d x6, .d x7, .d x8, .d x9] M = .ok (.d (.tup [x0, x1, x2, x3, x4, x5, x6, x7, x8, x9])) M := newT_ints (l := [x0, x1, x2, x3, x4, x5, x6, x7, x8, x9]) (by show 10 ≤ lim; decide)
theorem nl_11 {x0 x1 x2 x3 x4 x5 x6 x7 x8 x9 x10 : D} : newL false [.d x0, .d x1, .d x2, .d x3, .d x4, .d x5, .d x6, .d x7, .d x8, .d x9, .d x10] M = .ok (.d (.lst [x0, x1, x2, x3, x4, x5, x6, x7, x8, x9, x10])) M := newL_ints (l := [x0, x1, x2, x3, x4, x5, x6, x7, x8, x9, x10]) (by show 11 ≤ lim; decide)
theorem nt_11 {x0 x1 x2 x3 x4 x5 x6 x7 x8 x9 x10 : D} : newT [.d x0, .d x1, .d x2, .d x3, .d x4, .d x5, .d x6, .d x7, .d x8, .d x9, .d x10] M = .ok (.d (.tup [x0, x1, x2, x3, x4, x5, x6, x7, x8, x9, x10])) M := newT_ints (l := [x0, x1, x2, x3, x4, x5, x6, x7, x8, x9, x10]) (by show 11 ≤ lim; decide)
theorem nl_12 {x0 x1 x2 x3 x4 x5 x6 x7 x8 x9 x10 x11 : D} : newL false [.d x0, .d x1, .d x2, .d x3, .d x4, .d x5, .d x6, .d x7, .d x8, .d x9, .d x10, .d x11] M = .ok (.d (.lst [x0, x1, x2, x3, x4, x5, x6, x7, x8, x9, x10, x11])) M := newL_ints (l := [x0, x1, x2, x3, x4, x5, x6, x7, x8, x9, x10, x11]) (by show 12 ≤ lim; decide)
theorem nt_12 {x0 x1 x2 x3 x4 x5 x6 x7 x8 x9 x10 x11 : D} : newT [.d x0, .d x1, .d x2, .d x3, .d x4, .d x5, .d x6, .d x7, .d x8, .d x9, .d x10, .d x11] M = .ok (.d (.tup [x0, x1, x2, x3, x4, x5, x6, x7, x8, x9, x10, x11])) M := newT_ints (l := [x0, x1, x2, x3, x4, x5, x6, x7, x8, x9, x10, x11]) (by show 12 ≤ lim; decide)
end
/-! ### defs entered -/
def RetP (Q : Val → Store → Prop) (o : SR) : Prop := ∃ v M, retOf o = .ok v M ∧ Q v M
section
variable {Q : Val → Store → Prop} {M : Store}
theorem rp_d {x : D} : RetP Q (.ok (.rt (.d x)) M) = Q (.d x) M := by
  apply propext; constructor
  · rintro ⟨v, M', h, k⟩; rw [r_d] at h; cases h; exact k
  · exact fun h => ⟨_, _, r_d, h⟩
theorem rp_ref {x : Nat} : RetP Q (.ok (.rt (.ref x)) M) = Q (.ref x) M := by
  apply propext; constructor
  · rintro ⟨v, M', h, k⟩; rw [r_ref] at h; cases h; exact k
  · exact fun h => ⟨_, _, r_ref, h⟩
theorem rp_nx {r : BV.Env} : RetP Q (.ok (.nx r) M) = Q (.d .non) M := by
  apply propext; constructor
  · rintro ⟨v, M', h, k⟩; rw [r_nx] at h; cases h; exact k
  · exact fun h => ⟨_, _, r_nx, h⟩
end
/-- an error leaves -/
def RetX (c : Nat) (ds : List D) (o : SR) : Prop := ∃ M, retOf o = .ex c ds M
theorem rx_ex {c c' : Nat} {ds ds' : List D} {r : BV.Env} {M : Store} : RetX c ds (.ex c' ds' r M) = (c' = c ∧ ds' = ds) := by
  apply propext; constructor
  · rintro ⟨M', h⟩; rw [r_ex] at h; cases h; exact ⟨rfl, rfl⟩
  · rintro ⟨rfl, rfl⟩; exact ⟨_, r_ex⟩
section
variable {P : Pg} {n f : Nat} {as vs : List Val} {ds : List D} {M : Store} {I : FnI}
theorem pure_Z {x : D} (hI : P.fn f = some I) (h1 : I.hr = false) (h2 : bindUp I as = some vs) (h3 : I.pur = true) (h4 : allD vs = some ds)
    (hb : RetP (fun v _ => v = .d x) (exSs P (callF P n) none I.body (startE I.ns vs) [])) : callF P (n + 1) f none as M = .ok (.d x) M := by
  obtain ⟨v, M', h, rfl⟩ := hb
  exact callF_pure hI h1 h2 h3 h4 h
theorem pure_E {Q : D → Prop} (hI : P.fn f = some I) (h1 : I.hr = false) (h2 : bindUp I as = some vs) (h3 : I.pur = true) (h4 : allD vs = some ds)
    (hb : RetP (fun v _ => ∃ x, v = .d x ∧ Q x) (exSs P (callF P n) none I.body (startE I.ns vs) [])) : ∃ x, callF P (n + 1) f none as M = .ok (.d x) M ∧ Q x := by
  obtain ⟨v, M', h, x, rfl, hq⟩ := hb
  exact ⟨x, callF_pure hI h1 h2 h3 h4 h, hq⟩
theorem pure_X {c : Nat} {es : List D} (hI : P.fn f = some I) (h1 : I.hr = false) (h2 : bindUp I as = some vs) (h3 : I.pur = true) (h4 : allD vs = some ds)
    (hb : RetX c es (exSs P (callF P n) none I.body (startE I.ns vs) [])) : callF P (n + 1) f none as M = .ex c es M := by
  obtain ⟨M', h⟩ := hb
  exact callF_pureX hI h1 h2 h3 h4 h
theorem mut_Z {Q : Val → Store → Prop} (hI : P.fn f = some I) (h1 : I.hr = false) (h2 : bindUp I as = some vs) (h3 : I.pur = false)
    (hb : RetP Q (exSs P (callF P n) none I.body (startE I.ns vs) M)) : ∃ v M', callF P (n + 1) f none as M = .ok v M' ∧ Q v M' := by
  obtain ⟨v, M', h, hq⟩ := hb
  exact ⟨v, M', callF_mut hI h1 h2 h3 h, hq⟩
end
section
variable {P : Pg} {C : Caller} {M : Store}
theorem mem2 {x a b : D} {i : Nat} (h : [a, b][i]? = some x) : x = a ∨ x = b := by
  have := List.mem_of_getElem? h
  simpa using this
theorem op_eqS {a b : Str} : f2 P C .eq (.d (.str a)) (.d (.str b)) M = .ok (.d (.bl (a == b))) M := rfl
theorem op_neS {a b : Str} : f2 P C .ne (.d (.str a)) (.d (.str b)) M = .ok (.d (.bl (!(a == b)))) M := rfl
theorem eqL_ints {a b : List Int} : f2 P C .eq (.d (.lst (a.map .int))) (.d (.lst (b.map .int))) M = .ok (.d (.bl (a == b))) M := by
  have e : eqD 12 (.lst (a.map .int)) (.lst (b.map .int)) = some (a == b) := eqDs_ints
  show datEq false _ _ M = _
  unfold datEq
  rw [e]
  rfl
theorem neT_ints {a b : List Int} : f2 P C .ne (.d (.tup (a.map .int))) (.d (.tup (b.map .int))) M = .ok (.d (.bl (!(a == b)))) M := by
  have e : eqD 12 (.tup (a.map .int)) (.tup (b.map .int)) = some (a == b) := eqDs_ints
  show datEq true _ _ M = _
  unfold datEq
  rw [e]
  rfl
end
end BW

set_option Elab.async false
set_option maxRecDepth 100000
set_option maxHeartbeats 4000000
/-! PN: rows of ints, walked: their places, cuts, sums; cells. -/
namespace BW
open PySem BV
/-- the number at a place -/
def ati (l : List Int) (i : Int) : Int := (l[i.toNat]?).getD 0
theorem ati_nat {l : List Int} {k : Nat} : ati l (k : Int) = (l[k]?).getD 0 := by unfold ati; rw [Int.toNat_natCast]
theorem ati_s {l : List Int} {k : Nat} : ati l ((k : Int) + 1 - 1) = ati l (k : Int) := by rw [Int.add_sub_cancel]
theorem lim_le {n : Nat} (h : n ≤ 16777216) : n ≤ lim := h
abbrev cellI (l : List Int) : Option Cell := some (.lst ((l.map D.int).map Val.d))
section
variable {P : Pg} {C : Caller} {M : Store}
theorem get_L {l : List Int} {i : Int} (h0 : 0 ≤ i) (h : i < (l.length : Int)) : f2 P C .get (.d (.lst (l.map .int))) (.d (.int i)) M = .ok (.d (.int (ati l i))) M := by
  refine get_dat (.inl rfl) h0 ?_
  have hl : i.toNat < l.length := by omega
  unfold ati
  rw [List.getElem?_map, List.getElem?_eq_getElem hl]
  rfl
theorem get_T {l : List Int} {i : Int} (h0 : 0 ≤ i) (h : i < (l.length : Int)) : f2 P C .get (.d (.tup (l.map .int))) (.d (.int i)) M = .ok (.d (.int (ati l i))) M := by
  refine get_dat (.inr rfl) h0 ?_
  have hl : i.toNat < l.length := by omega
  unfold ati
  rw [List.getElem?_map, List.getElem?_eq_getElem hl]
  rfl
/-- any data at a place -/
theorem get_D {l : List D} {i : Int} {x : D} (h0 : 0 ≤ i) (h : l[i.toNat]? = some x) : f2 P C .get (.d (.lst l)) (.d (.int i)) M = .ok (.d x) M := get_dat (.inl rfl) h0 h
theorem get_DT {l : List D} {i : Int} {x : D} (h0 : 0 ≤ i) (h : l[i.toNat]? = some x) : f2 P C .get (.d (.tup l)) (.d (.int i)) M = .ok (.d x) M := get_dat (.inr rfl) h0 h
theorem get_C {p : Nat} {l : List Int} {i : Int} (hM : M[p]? = some (cellI l)) (h0 : 0 ≤ i) (h : i < (l.length : Int)) : f2 P C .get (.ref p) (.d (.int i)) M = .ok (.d (.int (ati l i))) M := by
  refine get_ref hM h0 ?_
  have hl : i.toNat < l.length := by omega
  unfold ati
  rw [List.getElem?_map, List.getElem?_map, List.getElem?_eq_getElem hl]
  rfl
theorem set_C {p : Nat} {l : List Int} {i x : Int} (hM : M[p]? = some (cellI l)) (h0 : 0 ≤ i) (h : i < (l.length : Int)) : setI (.ref p) (.d (.int i)) (.d (.int x)) M = some (M.set p (cellI (l.set i.toNat x))) := by
  rw [set_ref hM h0 (by rw [List.length_map, List.length_map]; exact h) rfl]
  show _ = some (M.set p (some (.lst (((l.set i.toNat x).map D.int).map Val.d))))
  rw [List.map_set, List.map_set]
theorem len_C {p : Nat} {l : List Int} (hM : M[p]? = some (cellI l)) : fbi P C .len [.ref p] M = .ok (.d (.int l.length)) M := by
  have e : fbi P C .len [.ref p] M = bLen P C [.ref p] M := rfl
  rw [e]
  simp only [bLen, seqOf, lstOf, hM, List.length_map]
theorem fz_C {p : Nat} {l : List Int} (hM : M[p]? = some (cellI l)) : f1 P C .fz (.ref p) M = .ok (.d (.lst (l.map .int))) (M.set p none) := by
  simp only [f1, hM, allD_map]
theorem sl_L0 {l : List Int} {a : Int} (h0 : 0 ≤ a) (h : l.length ≤ 16777216) : slK false (.d (.lst (l.map .int))) (some a) none M = .ok (.d (.lst ((l.drop a.toNat).map .int))) M := by
  have e : slK false (.d (.lst (l.map .int))) (some a) none M = newL false (cut ((l.map D.int).map Val.d) (some a) none) M := rfl
  have c : cut ((l.map D.int).map Val.d) (some a) none = ((l.drop a.toNat).map D.int).map Val.d := by
    rw [cut_nat a.toNat ((l.map D.int).map Val.d).length (.inl (by rw [Int.toNat_of_nonneg h0])) (.inr ⟨rfl, rfl⟩), List.take_length, ← List.map_drop, ← List.map_drop]
  rw [e, c]
  exact newL_ints (by rw [List.length_map, List.length_drop]; exact lim_le (by omega))
theorem sl_L1 {l : List Int} {b : Int} (h0 : 0 ≤ b) (h : l.length ≤ 16777216) : slK false (.d (.lst (l.map .int))) none (some b) M = .ok (.d (.lst ((l.take b.toNat).map .int))) M := by
  have e : slK false (.d (.lst (l.map .int))) none (some b) M = newL false (cut ((l.map D.int).map Val.d) none (some b)) M := rfl
  have c : cut ((l.map D.int).map Val.d) none (some b) = ((l.take b.toNat).map D.int).map Val.d := by
    rw [cut_nat 0 b.toNat (.inr ⟨rfl, rfl⟩) (.inl (by rw [Int.toNat_of_nonneg h0])), List.drop_zero, ← List.map_take, ← List.map_take]
  rw [e, c]
  exact newL_ints (by rw [List.length_map, List.length_take]; exact lim_le (by omega))
theorem sl_L2 {l : List Int} {a b : Int} (h0 : 0 ≤ a) (h1 : 0 ≤ b) (h : l.length ≤ 16777216) : slK false (.d (.lst (l.map .int))) (some a) (some b) M = .ok (.d (.lst (((l.take b.toNat).drop a.toNat).map .int))) M := by
  have e : slK false (.d (.lst (l.map .int))) (some a) (some b) M = newL false (cut ((l.map D.int).map Val.d) (some a) (some b)) M := rfl
  have c : cut ((l.map D.int).map Val.d) (some a) (some b) = (((l.take b.toNat).drop a.toNat).map D.int).map Val.d := by
    rw [cut_nat a.toNat b.toNat (.inl (by rw [Int.toNat_of_nonneg h0])) (.inl (by rw [Int.toNat_of_nonneg h1])), List.map_drop, List.map_drop, List.map_take, List.map_take]
  rw [e, c]
  exact newL_ints (by rw [List.length_map, List.length_drop, List.length_take]; exact lim_le (by omega))
theorem sl_T0 {mt : Bool} {l : List Int} {a : Int} (h0 : 0 ≤ a) (h : l.length ≤ 16777216) : slK mt (.d (.tup (l.map .int))) (some a) none M = .ok (.d (.tup ((l.drop a.toNat).map .int))) M := by
  have e : slK mt (.d (.tup (l.map .int))) (some a) none M = newT ((cut (l.map D.int) (some a) none).map Val.d) M := rfl
  have c : cut (l.map D.int) (some a) none = (l.drop a.toNat).map D.int := by
    rw [cut_nat a.toNat (l.map D.int).length (.inl (by rw [Int.toNat_of_nonneg h0])) (.inr ⟨rfl, rfl⟩), List.take_length, ← List.map_drop]
  rw [e, c]
  exact newT_ints (by rw [List.length_map, List.length_drop]; exact lim_le (by omega))
theorem sl_T1 {mt : Bool} {l : List Int} {b : Int} (h0 : 0 ≤ b) (h : l.length ≤ 16777216) : slK mt (.d (.tup (l.map .int))) none (some b) M = .ok (.d (.tup ((l.take b.toNat).map .int))) M := by
  have e : slK mt (.d (.tup (l.map .int))) none (some b) M = newT ((cut (l.map D.int) none (some b)).map Val.d) M := rfl
  have c : cut (l.map D.int) none (some b) = (l.take b.toNat).map D.int := by
    rw [cut_nat 0 b.toNat (.inr ⟨rfl, rfl⟩) (.inl (by rw [Int.toNat_of_nonneg h0])), List.drop_zero, ← List.map_take]
  rw [e, c]
  exact newT_ints (by rw [List.length_map, List.length_take]; exact lim_le (by omega))
theorem sl_T2 {mt : Bool} {l : List Int} {a b : Int} (h0 : 0 ≤ a) (h1 : 0 ≤ b) (h : l.length ≤ 16777216) : slK mt (.d (.tup (l.map .int))) (some a) (some b) M = .ok (.d (.tup (((l.take b.toNat).drop a.toNat).map .int))) M := by
  have e : slK mt (.d (.tup (l.map .int))) (some a) (some b) M = newT ((cut (l.map D.int) (some a) (some b)).map Val.d) M := rfl
  have c : cut (l.map D.int) (some a) (some b) = ((l.take b.toNat).drop a.toNat).map D.int := by
    rw [cut_nat a.toNat b.toNat (.inl (by rw [Int.toNat_of_nonneg h0])) (.inl (by rw [Int.toNat_of_nonneg h1])), List.map_drop, List.map_take]
  rw [e, c]
  exact newT_ints (by rw [List.length_map, List.length_drop, List.length_take]; exact lim_le (by omega))
theorem list_L {l : List Int} (h : l.length ≤ 16777216) : fbi P C .list [.d (.lst (l.map .int))] M = .ok (.d (.lst (l.map .int))) M := bi_listL (by rw [List.length_map]; exact h)
theorem list_T {l : List Int} (h : l.length ≤ 16777216) : fbi P C .list [.d (.tup (l.map .int))] M = .ok (.d (.lst (l.map .int))) M := newL_ints (l := l.map .int) (by rw [List.length_map]; exact h)
theorem tup_L {l : List Int} (h : l.length ≤ 16777216) : fbi P C .tuple [.d (.lst (l.map .int))] M = .ok (.d (.tup (l.map .int))) M := bi_tupL (by rw [List.length_map]; exact h)
theorem tup_T {l : List Int} (h : l.length ≤ 16777216) : fbi P C .tuple [.d (.tup (l.map .int))] M = .ok (.d (.tup (l.map .int))) M := bi_tupT (by rw [List.length_map]; exact h)
theorem listm_L {l : List Int} (h : l.length ≤ 16777216) : fbi P C .listm [.d (.lst (l.map .int))] M = .ok (.ref M.length) (M ++ [cellI l]) :=
  newL_mut (by rw [List.length_map, List.length_map]; exact h) plain_map
theorem listm_T {l : List Int} (h : l.length ≤ 16777216) : fbi P C .listm [.d (.tup (l.map .int))] M = .ok (.ref M.length) (M ++ [cellI l]) :=
  newL_mut (by rw [List.length_map, List.length_map]; exact h) plain_map
theorem sum_L {l : List Int} : fbi P C .sum [.d (.lst (l.map .int))] M = .ok (.d (.int l.sum)) M := bi_sumL
theorem sum_T {l : List Int} : fbi P C .sum [.d (.tup (l.map .int))] M = .ok (.d (.int l.sum)) M := bi_sumT
theorem add_L {a b : List Int} (h : a.length + b.length ≤ 16777216) : f2 P C .add (.d (.lst (a.map .int))) (.d (.lst (b.map .int))) M = .ok (.d (.lst ((a ++ b).map .int))) M := by
  rw [op_addL (by rw [List.length_append, List.length_map, List.length_map]; exact h), List.map_append]
theorem addm_L {a b : List Int} (h : a.length + b.length ≤ 16777216) : f2 P C .addm (.d (.lst (a.map .int))) (.d (.lst (b.map .int))) M = .ok (.ref M.length) (M ++ [cellI (a ++ b)]) := by
  have e : f2 P C .addm (.d (.lst (a.map .int))) (.d (.lst (b.map .int))) M = newL true ((a.map D.int ++ b.map D.int).map Val.d) M := rfl
  rw [e, ← List.map_append]
  exact newL_mut (by rw [List.length_map, List.length_map, List.length_append]; exact h) plain_map
theorem mul_1 {x k : Int} (h : k ≤ 16777216) (h1 : -16777216 ≤ k) : f2 P C .mul (.d (.lst [.int x])) (.d (.int k)) M = .ok (.d (.lst ((List.replicate k.toNat x).map .int))) M := by
  have e := op_mulL (P := P) (C := C) (M := M) (a := [.int x]) (k := k) (by simp only [List.length_cons, List.length_nil]; exact lim_le (by omega)) ⟨by omega, by omega⟩
  rw [e]
  have fl : ∀ n : Nat, (List.replicate n [D.int x]).flatten = (List.replicate n x).map D.int := fun n => by
    induction n with
    | zero => rfl
    | succ n ih => rw [List.replicate_succ, List.flatten_cons, ih]; rfl
  rw [fl]
theorem max_2 {i j : Int} : fbi P C .max [.d (.int i), .d (.int j)] M = .ok (.d (.int (if j > i then j else i))) M := rfl
theorem min_2 {i j : Int} : fbi P C .min [.d (.int i), .d (.int j)] M = .ok (.d (.int (if j < i then j else i))) M := rfl
theorem ne_E {xs : List Int} : f2 P C .ne (.d (.lst (xs.map .int))) (.d (.lst [])) M = .ok (.d (.bl (!xs.isEmpty))) M := op_neE
theorem eq_E {xs : List Int} : f2 P C .eq (.d (.lst (xs.map .int))) (.d (.lst [])) M = .ok (.d (.bl xs.isEmpty)) M := by
  show datEq false _ _ M = _
  unfold datEq
  rw [ints_none]
  rfl
end
theorem seq_L {l : List Int} {M : Store} : seqOf M (.d (.lst (l.map .int))) = some ((l.map D.int).map Val.d) := rfl
theorem seq_T {l : List Int} {M : Store} : seqOf M (.d (.tup (l.map .int))) = some ((l.map D.int).map Val.d) := rfl
/-! ### cells -/
section
variable {P : Pg} {C : Caller} {M : Store} {p : Nat} {l : List Int}
theorem seq_C (hM : M[p]? = some (cellI l)) : seqOf M (.ref p) = some ((l.map D.int).map Val.d) := by
  simp only [seqOf, lstOf, hM]
theorem list_C (hM : M[p]? = some (cellI l)) (h : l.length ≤ 16777216) : fbi P C .list [.ref p] M = .ok (.d (.lst (l.map .int))) M := by
  show (match seqOf M (.ref p) with
    | some xs => newL false xs M
    | none => .no) = _
  rw [seq_C hM]
  exact newL_ints (by rw [List.length_map]; exact h)
theorem listm_C (hM : M[p]? = some (cellI l)) (h : l.length ≤ 16777216) : fbi P C .listm [.ref p] M = .ok (.ref M.length) (M ++ [cellI l]) := by
  show (match seqOf M (.ref p) with
    | some xs => newL true xs M
    | none => .no) = _
  rw [seq_C hM]
  exact newL_mut (by rw [List.length_map, List.length_map]; exact h) plain_map
theorem tup_C (hM : M[p]? = some (cellI l)) (h : l.length ≤ 16777216) : fbi P C .tuple [.ref p] M = .ok (.d (.tup (l.map .int))) M := by
  show (match seqOf M (.ref p) with
    | some xs => newT xs M
    | none => .no) = _
  rw [seq_C hM]
  exact newT_ints (by rw [List.length_map]; exact h)
theorem sum_C (hM : M[p]? = some (cellI l)) : fbi P C .sum [.ref p] M = .ok (.d (.int l.sum)) M := by
  show (match seqOf M (.ref p) with
    | some xs => (match allInt xs with
      | some l => R.ok (Val.d (.int l.sum)) M
      | none => .no)
    | none => .no) = _
  rw [seq_C hM]
  simp only [allInt_map2]
theorem ne_CE (hM : M[p]? = some (cellI l)) : f2 P C .ne (.ref p) (.d (.lst [])) M = .ok (.d (.bl (!l.isEmpty))) M := ne_ref (xs := l.map .int) (ys := []) hM ints_none
theorem eqd_C {ys : List D} {b : Bool} (hM : M[p]? = some (cellI l)) (h : eqD 12 (.lst (l.map .int)) (.lst ys) = some b) : f2 P C .eq (.ref p) (.d (.lst ys)) M = .ok (.d (.bl b)) M := by
  have e : ownHere .eq (.ref p) (.d (.lst ys)) M = false := by
    simp only [ownHere, insOf, hM, Option.isSome_none]
  unfold f2
  rw [e, dat_ref hM]
  simp only [Bool.false_eq_true, if_false, dataOf]
  show datEq false _ _ M = _
  unfold datEq
  rw [h]
  rfl
theorem eq_CE (hM : M[p]? = some (cellI l)) : f2 P C .eq (.ref p) (.d (.lst [])) M = .ok (.d (.bl l.isEmpty)) M := eqd_C hM ints_none
theorem eq_CL {b : List Int} (hM : M[p]? = some (cellI l)) : f2 P C .eq (.ref p) (.d (.lst (b.map .int))) M = .ok (.d (.bl (l == b))) M := eqd_C hM eqDs_ints
theorem ne_CL {b : List Int} (hM : M[p]? = some (cellI l)) : f2 P C .ne (.ref p) (.d (.lst (b.map .int))) M = .ok (.d (.bl (!(l == b)))) M := ne_ref (xs := l.map .int) (ys := b.map .int) hM eqDs_ints
theorem last_C (hM : M[p]? = some (cellI l)) (h : 0 < l.length) : f2 P C .get (.ref p) (.d (.int (-1))) M = .ok (.d (.int (ati l ((l.length : Int) - 1)))) M := by
  obtain ⟨m, hm⟩ : ∃ m, l.length = m + 1 := ⟨l.length - 1, by omega⟩
  refine get_last (m := m) (seq_C hM) (by simp only [insOf, hM]) (by simp [hm]) ?_
  unfold ati
  rw [hm, show (((m + 1 : Nat) : Int) - 1).toNat = m by omega, List.getElem?_map, List.getElem?_map, List.getElem?_eq_getElem (by omega)]
  rfl
theorem last_L (h : 0 < l.length) : f2 P C .get (.d (.lst (l.map .int))) (.d (.int (-1))) M = .ok (.d (.int (ati l ((l.length : Int) - 1)))) M := by
  obtain ⟨m, hm⟩ : ∃ m, l.length = m + 1 := ⟨l.length - 1, by omega⟩
  refine get_last (xs := (l.map D.int).map Val.d) (m := m) rfl rfl (by simp [hm]) ?_
  unfold ati
  rw [hm, show (((m + 1 : Nat) : Int) - 1).toNat = m by omega, List.getElem?_map, List.getElem?_map, List.getElem?_eq_getElem (by omega)]
  rfl
theorem last_T (h : 0 < l.length) : f2 P C .get (.d (.tup (l.map .int))) (.d (.int (-1))) M = .ok (.d (.int (ati l ((l.length : Int) - 1)))) M := by
  obtain ⟨m, hm⟩ : ∃ m, l.length = m + 1 := ⟨l.length - 1, by omega⟩
  refine get_last (xs := (l.map D.int).map Val.d) (m := m) rfl rfl (by simp [hm]) ?_
  unfold ati
  rw [hm, show (((m + 1 : Nat) : Int) - 1).toNat = m by omega, List.getElem?_map, List.getElem?_map, List.getElem?_eq_getElem (by omega)]
  rfl
theorem rcv_C {k : KM} (hM : M[p]? = some (cellI l)) (hk : k = .append ∨ k = .pop) : rcv k (.ref p) M = true := by
  rcases hk with rfl | rfl
  · exact rcv_app hM
  · show (lstOf M (.ref p)).isSome = true
    simp only [lstOf, hM, Option.isSome_some]
theorem pop_C (hM : M[p]? = some (cellI l)) (h : 0 < l.length) : fbm .pop (.ref p) [] M = .ok (.d (.int (ati l ((l.length : Int) - 1)))) (M.set p (cellI l.dropLast)) := by
  obtain ⟨m, hm⟩ : ∃ m, l.length = m + 1 := ⟨l.length - 1, by omega⟩
  show mPop (.ref p) M = _
  have e : (((l.map D.int).map Val.d))[((l.map D.int).map Val.d).length - 1]? = some (.d (.int (ati l ((l.length : Int) - 1)))) := by
    unfold ati
    rw [List.length_map, List.length_map, hm, show (((m + 1 : Nat) : Int) - 1).toNat = m by omega, show m + 1 - 1 = m by omega, List.getElem?_map, List.getElem?_map, List.getElem?_eq_getElem (by omega)]
    rfl
  unfold mPop
  simp only [hM, e]
  rw [← List.map_dropLast, ← List.map_dropLast]
theorem app_C {x : Int} (hM : M[p]? = some (cellI l)) (h : l.length < 16777216) : fbm .append (.ref p) [.d (.int x)] M = .ok (.d .non) (M.set p (cellI (l ++ [x]))) := by
  have z := app_ok (v := .d (.int x)) hM (by rw [List.length_map, List.length_map]; exact h) rfl
  show mAppend (.ref p) (.d (.int x)) M = .ok (.d .non) (M.set p (some (.lst (((l ++ [x]).map D.int).map Val.d))))
  rw [z, List.map_append, List.map_append]
  rfl
end
theorem range_set {f g : Nat → Int} {n k : Nat} {v : Int} (hk : k < n) (h1 : g k = v) (h2 : ∀ j, j < n → j ≠ k → g j = f j) : ((List.range n).map f).set k v = (List.range n).map g := by
  apply List.ext_getElem?
  intro j
  by_cases e : k = j
  · subst e
    rw [List.getElem?_set_self (by simpa using hk), List.getElem?_map, List.getElem?_range hk]
    show some v = some (g k)
    rw [h1]
  · rw [List.getElem?_set_ne e, List.getElem?_map, List.getElem?_map]
    by_cases hj : j < n
    · rw [List.getElem?_range hj]
      show some (f j) = some (g j)
      rw [h2 j hj (fun z => e z.symm)]
    · rw [List.getElem?_eq_none (by rw [List.length_range]; omega)]
      rfl
theorem ati_range {f : Nat → Int} {n k : Nat} (h : k < n) : ati ((List.range n).map f) (k : Int) = f k := by
  rw [ati_nat, List.getElem?_map, List.getElem?_range h]
  rfl
/-! ### blocks -/
section
variable {P : Pg} {C : Caller} {q : Asker} {M M1 : Store} {r : BV.Env}
/-- a block without a test that changes nothing, over the items of a list -/
theorem cp_map {it : It} {tg : List Nat} {e : E} {rd : Rd} {its : List (List Val)} (g : Nat → D) (h1 : evI P C q it (tg.length != 1) r M = .ok rd M) (h2 : rd M = some its) (hl : its.length ≤ 16777216)
    (hb : ∀ k item, its[k]? = some item → ∃ r', setAll tg item (wipeE tg (dropX r)) = some r' ∧ ev P C q e r' M = .ok (.d (g k)) M) :
    ev P C q (.cp false it tg .nil e) r M = .ok (.d (.lst ((List.range its.length).map g))) M :=
  ev_cpN its.length g h1 h2 rfl hl fun k item _ h => hb k item h
/-- .. over a range -/
theorem cp_rng {as : As} {tg : Nat} {e : E} {lo : Int} {n : Nat} (g : Nat → D) (h1 : evI P C q (.rng as) false r M = .ok (rdRng lo n 1) M) (hl : n ≤ 16777216)
    (hb : ∀ k : Nat, k < n → ev P C q e ((wipeE [tg] (dropX r)).set tg (some (.d (.int (lo + k))))) M = .ok (.d (g k)) M) :
    ev P C q (.cp false (.rng as) [tg] .nil e) r M = .ok (.d (.lst ((List.range n).map g))) M :=
  ev_cpN n g h1 (its := (List.range n).map fun (k : Nat) => [Val.d (.int (lo + k * 1))]) rg_its (by simp) hl fun k item hk h => by
    obtain ⟨_, rfl⟩ := rg_get h
    exact ⟨_, rfl, hb k hk⟩
theorem map_range {a : Type} {l : List a} {g : Nat → D} {f : a → D} (h : ∀ k x, l[k]? = some x → g k = f x) : (List.range l.length).map g = l.map f := by
  apply List.ext_getElem?
  intro k
  rw [List.getElem?_map, List.getElem?_map]
  by_cases hk : k < l.length
  · rw [List.getElem?_range hk, List.getElem?_eq_getElem hk]
    exact congrArg some (h k _ (List.getElem?_eq_getElem hk))
  · rw [List.getElem?_eq_none (by rw [List.length_range]; omega), List.getElem?_eq_none (by omega)]
    rfl
/-- .. over a list, a tuple -/
theorem cp_lst {a : E} {tg : Nat} {e : E} {l : List D} (f : D → D) (h1 : ev P C q a r M = .ok (.d (.lst l)) M) (hl : l.length ≤ 16777216)
    (hb : ∀ x ∈ l, ev P C q e ((wipeE [tg] (dropX r)).set tg (some (.d x))) M = .ok (.d (f x)) M) :
    ev P C q (.cp false (.e a) [tg] .nil e) r M = .ok (.d (.lst (l.map f))) M := by
  have k1 : evI P C q (.e a) (([tg] : List Nat).length != 1) r M = .ok (rdSeq (.d (.lst l)) false) M := by
    rw [evI, h1, bind_ok]
    show (if (rdSeq (.d (.lst l)) false M).isSome = true then R.ok (rdSeq (.d (.lst l)) false) M else .no) = _
    rw [rd_lst]
    rfl
  have k2 := ev_cpN (e := e) l.length (fun k => ((l[k]?).map f).getD .non) k1 (its := l.map fun x => [Val.d x]) rd_lst (by simp) hl fun k item hk h => by
    rw [List.getElem?_map] at h
    cases z : l[k]? with
    | none => rw [z] at h; cases h
    | some x => rw [z] at h; cases h; exact ⟨_, rfl, hb x (List.mem_of_getElem? z)⟩
  rw [k2, map_range (f := f) fun k x h => by rw [h]; rfl]
theorem cp_tup {a : E} {tg : Nat} {e : E} {l : List D} (f : D → D) (h1 : ev P C q a r M = .ok (.d (.tup l)) M) (hl : l.length ≤ 16777216)
    (hb : ∀ x ∈ l, ev P C q e ((wipeE [tg] (dropX r)).set tg (some (.d x))) M = .ok (.d (f x)) M) :
    ev P C q (.cp false (.e a) [tg] .nil e) r M = .ok (.d (.lst (l.map f))) M := by
  have k1 : evI P C q (.e a) (([tg] : List Nat).length != 1) r M = .ok (rdSeq (.d (.tup l)) false) M := by
    rw [evI, h1, bind_ok]
    show (if (rdSeq (.d (.tup l)) false M).isSome = true then R.ok (rdSeq (.d (.tup l)) false) M else .no) = _
    rw [rd_tup]
    rfl
  have k2 := ev_cpN (e := e) l.length (fun k => ((l[k]?).map f).getD .non) k1 (its := l.map fun x => [Val.d x]) rd_tup (by simp) hl fun k item hk h => by
    rw [List.getElem?_map] at h
    cases z : l[k]? with
    | none => rw [z] at h; cases h
    | some x => rw [z] at h; cases h; exact ⟨_, rfl, hb x (List.mem_of_getElem? z)⟩
  rw [k2, map_range (f := f) fun k x h => by rw [h]; rfl]
/-- .. of ints, for ints -/
theorem cp_ints {a : E} {tg : Nat} {e : E} {l : List Int} (f : Int → Int) (h1 : ev P C q a r M = .ok (.d (.lst (l.map .int))) M) (hl : l.length ≤ 16777216)
    (hb : ∀ x ∈ l, ev P C q e ((wipeE [tg] (dropX r)).set tg (some (.d (.int x)))) M = .ok (.d (.int (f x))) M) :
    ev P C q (.cp false (.e a) [tg] .nil e) r M = .ok (.d (.lst ((l.map f).map .int))) M := by
  have z := cp_lst (e := e) (tg := tg) (fun d => match d with | .int i => .int (f i) | d => d) h1 (by rw [List.length_map]; exact hl) (fun x hx => by
    obtain ⟨i, hi, rfl⟩ := List.mem_map.mp hx
    exact hb i hi)
  rw [z, List.map_map, List.map_map]
  rfl
theorem cp_intsT {a : E} {tg : Nat} {e : E} {l : List Int} (f : Int → Int) (h1 : ev P C q a r M = .ok (.d (.tup (l.map .int))) M) (hl : l.length ≤ 16777216)
    (hb : ∀ x ∈ l, ev P C q e ((wipeE [tg] (dropX r)).set tg (some (.d (.int x)))) M = .ok (.d (.int (f x))) M) :
    ev P C q (.cp false (.e a) [tg] .nil e) r M = .ok (.d (.lst ((l.map f).map .int))) M := by
  have z := cp_tup (e := e) (tg := tg) (fun d => match d with | .int i => .int (f i) | d => d) h1 (by rw [List.length_map]; exact hl) (fun x hx => by
    obtain ⟨i, hi, rfl⟩ := List.mem_map.mp hx
    exact hb i hi)
  rw [z, List.map_map, List.map_map]
  rfl
/-- .. of a range, for ints -/
theorem cp_rngI {as : As} {tg : Nat} {e : E} {lo : Int} {n : Nat} (g : Nat → Int) (h1 : evI P C q (.rng as) false r M = .ok (rdRng lo n 1) M) (hl : n ≤ 16777216)
    (hb : ∀ k : Nat, k < n → ev P C q e ((wipeE [tg] (dropX r)).set tg (some (.d (.int (lo + k))))) M = .ok (.d (.int (g k))) M) :
    ev P C q (.cp false (.rng as) [tg] .nil e) r M = .ok (.d (.lst (((List.range n).map g).map .int))) M := by
  rw [cp_rng (fun k => .int (g k)) h1 hl hb, List.map_map]
  rfl
/-- .. over the nine sizes -/
theorem cp_e9 {tg : Nat} {e : E} (g : Nat → Int) (hb : ∀ k : Nat, k < 9 → ev P C q e ((wipeE [tg] (dropX r)).set tg (some (.d (.int ((k : Int) + 1))))) M = .ok (.d (.int (g k))) M) :
    ev P C q (.cp false (.e (.c (.tup [.int 1, .int 2, .int 3, .int 4, .int 5, .int 6, .int 7, .int 8, .int 9]))) [tg] .nil e) r M = .ok (.d (.lst (((List.range 9).map g).map .int))) M := by
  have z := cp_intsT (a := .c (.tup [.int 1, .int 2, .int 3, .int 4, .int 5, .int 6, .int 7, .int 8, .int 9])) (tg := tg) (e := e) (r := r) (l := (List.range 9).map fun (k : Nat) => ((k : Int) + 1)) (P := P) (C := C) (q := q) (M := M) (fun x => g (x - 1).toNat) (by rw [e_c]; rfl) (by simp) (fun x hx => by
    obtain ⟨k, hk, rfl⟩ := List.mem_map.mp hx
    have h9 := List.mem_range.mp hk
    have e1 : ((k : Int) + 1 - 1).toNat = k := by omega
    rw [e1]
    exact hb k h9)
  rw [z, List.map_map (f := fun k : Nat => (k : Int) + 1)]
  congr 4
end
section
variable {a b i : Int}
theorem in_ok (h1 : a ≤ i) (h2 : i ≤ b) : inD a b (.int i) = true := by
  show (decide (a ≤ i) && decide (i ≤ b)) = true
  rw [decide_eq_true h1, decide_eq_true h2]
  rfl
end
/-! ### the pen stays -/
theorem pen_lt {K p : Nat} {M : Store} (h : PenOk K M p) : p < M.length := by
  obtain ⟨s, i, g, h1, _⟩ := h
  exact (List.getElem?_eq_some_iff.mp h1).1
theorem pen_same {K p : Nat} {M M' : Store} (h : PenOk K M p) (e : M'[p]? = M[p]?) : PenOk K M' p := by
  obtain ⟨s, i, g, h1, h2⟩ := h
  exact ⟨s, i, g, by rw [e]; exact h1, h2⟩
theorem pen_app {K p : Nat} {M l : Store} (h : PenOk K M p) : PenOk K (M ++ l) p := pen_same h (List.getElem?_append_left (pen_lt h))
theorem pen_set {K p q : Nat} {M : Store} {c : Option Cell} (h : PenOk K M p) (hq : q ≠ p) : PenOk K (M.set q c) p := pen_same h (List.getElem?_set_ne hq)
theorem Only.pen {K p q : Nat} {M M' : Store} (h : PenOk K M q) (o : Only p M M') (hq : q ≠ p) : PenOk K M' q := pen_same h (o.2 q hq)
section
variable {P : Pg} {C : Caller} {q : Asker} {M : Store} {r : BV.Env}
theorem e_hear {g : Nat} {e : E} : ev P C q (.hear g e) r M = C g (some fun M1 => ev P C q e (dropX r) M1) [] M := by rw [ev]
theorem nm_1 {x0 : D} : newL true [.d x0] M = .ok (.ref M.length) (M ++ [some (.lst [.d x0])]) := newL_mut (by show 1 ≤ lim; decide) rfl
theorem nm_0 : newL true [] M = .ok (.ref M.length) (M ++ [some (.lst [])]) := newL_mut (by show 0 ≤ lim; decide) rfl
theorem app_V {p : Nat} {xs : List Val} {x : D} (hM : M[p]? = some (some (.lst xs))) (h : xs.length < 16777216) : fbm .append (.ref p) [.d x] M = .ok (.d .non) (M.set p (some (.lst (xs ++ [.d x])))) := app_ok (v := .d x) hM h rfl
theorem ne_V {p : Nat} {xs : List Val} {ds ys : List D} {b : Bool} (hM : M[p]? = some (some (.lst xs))) (ha : xs = ds.map Val.d) (h : eqD 12 (.lst ds) (.lst ys) = some b) : f2 P C .ne (.ref p) (.d (.lst ys)) M = .ok (.d (.bl (!b))) M := ne_ref (by rw [hM, ha]) h
theorem rcv_V {p : Nat} {xs : List Val} {k : KM} (hM : M[p]? = some (some (.lst xs))) (hk : k = .append ∨ k = .pop) : rcv k (.ref p) M = true := by
  rcases hk with rfl | rfl
  · exact rcv_app hM
  · show (lstOf M (.ref p)).isSome = true
    simp only [lstOf, hM, Option.isSome_some]
/-- a block with a test, of ints -/
theorem cp_intsF {a : E} {tg : Nat} {t : Te} {e : E} {l : List Int} (pr : Int → Bool) (f : Int → Int) (h1 : ev P C q a r M = .ok (.d (.lst (l.map .int))) M) (hl : l.length ≤ 16777216)
    (hb : ∀ x ∈ l, evT P C q t ((wipeE [tg] (dropX r)).set tg (some (.d (.int x)))) M = .ok (pr x) M ∧ ev P C q e ((wipeE [tg] (dropX r)).set tg (some (.d (.int x)))) M = .ok (.d (.int (f x))) M) :
    ev P C q (.cp false (.e a) [tg] (.cons t .nil) e) r M = .ok (.d (.lst (((l.filter pr).map f).map .int))) M := by
  have k1 : evI P C q (.e a) (([tg] : List Nat).length != 1) r M = .ok (rdSeq (.d (.lst (l.map .int))) false) M := by
    rw [evI, h1, bind_ok]
    show (if (rdSeq (.d (.lst (l.map .int))) false M).isSome = true then R.ok (rdSeq (.d (.lst (l.map .int))) false) M else .no) = _
    rw [rd_lst]
    rfl
  obtain ⟨acc, M', b1, b2, b3⟩ := cloop_flt (rd := rdSeq (.d (.lst (l.map .int))) false) (its := (l.map D.int).map fun x => [Val.d x]) (body := cpB P C q [tg] (.cons t .nil) e r)
    (fun i acc M' => M' = M ∧ acc = ((((l.take i).filter pr).map f).map D.int).map Val.d) (fun _ _ _ _ => rd_lst) (fun i it acc M' hi j => by
      obtain ⟨rfl, rfl⟩ := j
      rw [List.getElem?_map, List.getElem?_map] at hi
      cases z : l[i]? with
      | none => rw [z] at hi; cases hi
      | some x =>
        rw [z] at hi
        cases hi
        obtain ⟨t1, t2⟩ := hb x (List.mem_of_getElem? z)
        have hb' := cpB_tst (P := P) (C := C) (q := q) (tg := [tg]) (item := [.d (.int x)]) rfl t1 t2
        have hlt := (List.getElem?_eq_some_iff.mp z).1
        have tk : l.take (i + 1) = l.take i ++ [x] := by rw [List.take_succ, z]; rfl
        rw [tk, List.filter_append]
        cases hp : pr x with
        | false =>
          rw [hp] at hb'
          exact .inl ⟨_, hb', rfl, by simp [hp]⟩
        | true =>
          rw [hp] at hb'
          refine .inr ⟨_, _, hb', ?_, rfl, rfl, by simp [hp]⟩
          have hf := List.length_filter_le pr (l.take i)
          rw [List.length_take] at hf
          simp only [List.length_map]
          unfold lim
          omega) ((l.map D.int).map fun x => [Val.d x]).length (((l.map D.int).map fun x => [Val.d x]).length + 1) 0 [] M (by simp) (by omega) ⟨rfl, rfl⟩
  have el : rdLen (rdSeq (.d (.lst (l.map .int))) false) M = ((l.map D.int).map fun x => [Val.d x]).length := by
    unfold rdLen
    rw [rd_lst]
  rw [ev_cp, k1, bind_ok, el, b1, bind_ok, b2, b3]
  rw [List.length_map, List.length_map, List.take_length]
  refine newL_ints ?_
  rw [List.length_map, List.length_map]
  exact lim_le (Nat.le_trans (List.length_filter_le _ _) hl)
end
section
variable {P : Pg} {C : Caller} {M : Store}
theorem pow59 : f2 P C .pow (.d (.int 10)) (.d (.int 59)) M = .ok (.d (.int (10 ^ 59))) M := op_pow (by decide)
theorem pow60 : f2 P C .pow (.d (.int 10)) (.d (.int 60)) M = .ok (.d (.int (10 ^ 60))) M := op_pow (by decide)
theorem fdiv_2 {i : Int} : f2 P C .fdiv (.d (.int i)) (.d (.int 2)) M = .ok (.d (.int (i / 2))) M := op_fdiv (by decide)
end
section
variable {P : Pg} {C : Caller} {M : Store}
theorem mul_t2 {l : List D} : f2 P C .mul (.d (.lst [.tup l])) (.d (.int 2)) M = .ok (.d (.lst [.tup l, .tup l])) M := op_mulL (a := [.tup l]) (k := 2) (by show 1 * 2 ≤ lim; decide) (by decide)
theorem add_tt {l m k : List D} : f2 P C .add (.d (.lst [.tup l])) (.d (.lst [.tup m, .tup k])) M = .ok (.d (.lst [.tup l, .tup m, .tup k])) M := op_addL (a := [.tup l]) (b := [.tup m, .tup k]) (by show 3 ≤ lim; decide)
end
abbrev sq (a b : Str) : D := .tup [.str a, .str b]
theorem eq_sq3 {a b c d e f : Str} : eqD 12 (.lst [sq a b, sq c d, sq e f]) (.lst [sq a b, sq c d, sq e f]) = some true := by
  simp [eqD, eqDs]
/-- a row that never ascends -/
abbrev desc (l : List Int) : Prop := ∀ i : Nat, i + 1 < l.length → ati l ((i + 1 : Nat) : Int) ≤ ati l (i : Int)
theorem ati_mem {l : List Int} {Q : Int → Prop} (h0 : Q 0) (h : ∀ x ∈ l, Q x) (i : Int) : Q (ati l i) := by
  unfold ati
  cases e : l[i.toNat]? with
  | none => exact h0
  | some x => exact h x (List.mem_of_getElem? e)
theorem ati_trim (l : List Int) (i : Int) : ati (trim l) i = ati l i := by
  unfold ati
  rw [trim_get]
/-- the least of g 0, .., g n, as min tells it -/
def mn (g : Nat → Int) : Nat → Int
  | 0 => g 0
  | n + 1 => if g (n + 1) < mn g n then g (n + 1) else mn g n
theorem minL_app : ∀ (l : List Int) (m x : Int), minL m (l ++ [x]) = if x < minL m l then x else minL m l
  | [], m, x => rfl
  | y :: l, m, x => by
    show minL (if y < m then y else m) (l ++ [x]) = _
    rw [minL_app l _ x]
    rfl
theorem minL_range (g : Nat → Int) : ∀ n, minL (g 0) ((List.range n).map fun k => g (k + 1)) = mn g n
  | 0 => rfl
  | n + 1 => by
    rw [List.range_succ, List.map_append, List.map_singleton, minL_app, minL_range g n]
    rfl
theorem min_range {P : Pg} {C : Caller} {M : Store} {g : Nat → Int} {n : Nat} (h : 0 < n) : fbi P C .min [.d (.lst (((List.range n).map g).map .int))] M = .ok (.d (.int (mn g (n - 1)))) M := by
  obtain ⟨m, rfl⟩ : ∃ m, n = m + 1 := ⟨n - 1, by omega⟩
  have e : fbi P C .min [.d (.lst (((List.range (m + 1)).map g).map .int))] M = bMin [.d (.lst (((List.range (m + 1)).map g).map .int))] M := rfl
  rw [e]
  unfold bMin
  have e2 : (List.range (m + 1)).map g = g 0 :: (List.range m).map fun k => g (k + 1) := by
    rw [List.range_succ_eq_map, List.map_cons, List.map_map]
    rfl
  simp only [lstOf, allInt_map2, e2]
  rw [minL_range]
  rfl
/-- the greatest of a row from its first one on, as max tells it -/
theorem max_L {P : Pg} {C : Caller} {M : Store} {x : Int} {l : List Int} : fbi P C .max [.d (.lst ((x :: l).map .int))] M = .ok (.d (.int (maxL x l))) M := by
  have e : fbi P C .max [.d (.lst ((x :: l).map .int))] M = bMax [.d (.lst ((x :: l).map .int))] M := rfl
  rw [e]
  unfold bMax
  simp only [lstOf, allInt_map2]
section
variable {P : Pg} {C : Caller} {q : Asker} {M : Store} {r : BV.Env}
theorem zip_itsL {a b : List Int} : (zipL ((a.map D.int).map Val.d) ((b.map D.int).map Val.d)) = (a.zip b).map fun q => [Val.d (.int q.1), .d (.int q.2)] := by
  unfold zipL
  rw [List.zipWith_map, List.zipWith_map, List.zip, List.map_zipWith]
/-- a block over two rows at once -/
theorem cp_zip {ea eb : E} {t1 t2 : Nat} {e : E} {a b : List Int} (f : Int → Int → Int) (h1 : ev P C q ea r M = .ok (.d (.lst (a.map .int))) M) (h2 : ev P C q eb r M = .ok (.d (.lst (b.map .int))) M) (hl : a.length ≤ 16777216)
    (hb : ∀ x y, ∃ r', setAll [t1, t2] [.d (.int x), .d (.int y)] (wipeE [t1, t2] (dropX r)) = some r' ∧ ev P C q e r' M = .ok (.d (.int (f x y))) M) :
    ev P C q (.cp false (.zip ea eb) [t1, t2] .nil e) r M = .ok (.d (.lst ((List.zipWith f a b).map .int))) M := by
  obtain ⟨k1, k2⟩ := zip_ok h1 h2
  have k3 := ev_cpN (e := e) (tg := [t1, t2]) ((a.zip b).map fun q => [Val.d (.int q.1), .d (.int q.2)]).length (fun k => (((a.zip b)[k]?).map fun q => D.int (f q.1 q.2)).getD .non) k1 (its := (a.zip b).map fun q => [Val.d (.int q.1), .d (.int q.2)]) (by rw [k2, zip_itsL]) rfl (by
      rw [List.length_map, List.length_zip]
      exact lim_le (by omega)) fun k item hk h => by
    rw [List.getElem?_map] at h
    cases z : (a.zip b)[k]? with
    | none => rw [z] at h; cases h
    | some x =>
      rw [z] at h
      cases h
      obtain ⟨r', e1, e2⟩ := hb x.1 x.2
      exact ⟨r', e1, e2⟩
  rw [k3, List.length_map, map_range (f := fun q => D.int (f q.1 q.2)) fun k x h => by rw [h]; rfl]
  rw [List.zip, List.map_zipWith, List.map_zipWith]
/-- .. with a test, numbers written down -/
theorem cp_zipF {ea eb : E} {t1 t2 : Nat} {t : Te} {e : E} {a b : List Int} (pr : Int × Int → Bool) (f : Int × Int → Int) (h1 : ev P C q ea r M = .ok (.d (.lst (a.map .int))) M) (h2 : ev P C q eb r M = .ok (.d (.lst (b.map .int))) M) (hl : a.length ≤ 16777216)
    (hb : ∀ x y, ∃ r', setAll [t1, t2] [.d (.int x), .d (.int y)] (wipeE [t1, t2] (dropX r)) = some r' ∧ evT P C q t r' M = .ok (pr (x, y)) M ∧ ev P C q e r' M = .ok (.d (.int (f (x, y)))) M) :
    ev P C q (.cp false (.zip ea eb) [t1, t2] (.cons t .nil) e) r M = .ok (.d (.lst ((((a.zip b).filter pr).map f).map .int))) M := by
  obtain ⟨k1, k2⟩ := zip_ok h1 h2
  rw [zip_itsL] at k2
  have rdc : ∀ M' : Store, rdZip (.d (.lst (a.map .int))) (.d (.lst (b.map .int))) M' = some ((a.zip b).map fun q => [Val.d (.int q.1), .d (.int q.2)]) := fun M' => by
    unfold rdZip
    simp only [lstOf, zip_itsL]
  obtain ⟨acc, M', b1, b2, b3⟩ := cloop_flt (rd := rdZip (.d (.lst (a.map .int))) (.d (.lst (b.map .int)))) (its := (a.zip b).map fun q => [Val.d (.int q.1), .d (.int q.2)]) (body := cpB P C q [t1, t2] (.cons t .nil) e r)
    (fun i acc M' => M' = M ∧ acc = (((((a.zip b).take i).filter pr).map f).map D.int).map Val.d) (fun _ _ M' _ => rdc M') (fun i it acc M' hi j => by
      obtain ⟨rfl, rfl⟩ := j
      rw [List.getElem?_map] at hi
      cases z : (a.zip b)[i]? with
      | none => rw [z] at hi; cases hi
      | some x =>
        rw [z] at hi
        cases hi
        obtain ⟨r', e0, e1, e2⟩ := hb x.1 x.2
        have hb' := cpB_tst (P := P) (C := C) (q := q) (tg := [t1, t2]) (item := [.d (.int x.1), .d (.int x.2)]) e0 e1 e2
        have hlt := (List.getElem?_eq_some_iff.mp z).1
        have tk : (a.zip b).take (i + 1) = (a.zip b).take i ++ [x] := by rw [List.take_succ, z]; rfl
        rw [tk, List.filter_append]
        cases hp : pr x with
        | false =>
          have hp' : pr (x.1, x.2) = false := hp
          rw [hp'] at hb'
          exact .inl ⟨_, hb', rfl, by simp [hp]⟩
        | true =>
          have hp' : pr (x.1, x.2) = true := hp
          rw [hp'] at hb'
          refine .inr ⟨_, _, hb', ?_, rfl, rfl, by simp [hp]⟩
          have hf := List.length_filter_le pr ((a.zip b).take i)
          rw [List.length_take, List.length_zip] at hf
          rw [List.length_zip] at hlt
          simp only [List.length_map]
          unfold lim
          omega) ((a.zip b).map fun q => [Val.d (.int q.1), .d (.int q.2)]).length (((a.zip b).map fun q => [Val.d (.int q.1), .d (.int q.2)]).length + 1) 0 [] M (by simp) (by omega) ⟨rfl, rfl⟩
  have el : rdLen (rdZip (.d (.lst (a.map .int))) (.d (.lst (b.map .int)))) M = ((a.zip b).map fun q => [Val.d (.int q.1), .d (.int q.2)]).length := by
    unfold rdLen
    rw [rdc]
  rw [ev_cp, show (([t1, t2] : List Nat).length != 1) = true from rfl, k1, bind_ok, el, b1, bind_ok, b2, b3]
  rw [List.length_map, List.take_length]
  refine newL_ints ?_
  rw [List.length_map, List.length_map]
  refine lim_le (Nat.le_trans (List.length_filter_le _ _) ?_)
  rw [List.length_zip]
  omega
end
/-- what is alike is found alike -/
theorem eqDs_self {f : D → D → Option Bool} : ∀ {l : List D}, (∀ x ∈ l, f x x = some true) → eqDs f l l = some true
  | [], _ => rfl
  | x :: l, h => by
    rw [eqDs, h x List.mem_cons_self, eqDs_self fun y hy => h y (List.mem_cons_of_mem _ hy)]
    rfl
theorem eqD_tupI {n : Nat} {l : List Int} : eqD (n + 2) (.tup (l.map .int)) (.tup (l.map .int)) = some true := eqDs_self fun x hx => by
  obtain ⟨i, _, rfl⟩ := List.mem_map.mp hx
  simp [eqD]
theorem eqD_lstI {n : Nat} {l : List Int} : eqD (n + 2) (.lst (l.map .int)) (.lst (l.map .int)) = some true := eqDs_self fun x hx => by
  obtain ⟨i, _, rfl⟩ := List.mem_map.mp hx
  simp [eqD]
/-! ### lists of any data -/
abbrev cellD (l : List D) : Option Cell := some (.lst (l.map Val.d))
theorem rd_ref {l : List D} {M : Store} {p : Nat} (hM : M[p]? = some (cellD l)) : rdSeq (.ref p) false M = some (l.map fun x => [Val.d x]) := by
  have e : seqOf M (.ref p) = some (l.map Val.d) := by simp only [seqOf, lstOf, hM]
  unfold rdSeq
  simp only [strOf, e]
  show some ((l.map Val.d).map fun x => [x]) = _
  rw [List.map_map]
  rfl
section
variable {P : Pg} {C : Caller} {q : Asker} {M M1 : Store} {r : BV.Env}
theorem cp_lstM {α : Type} (φ g : α → D) {a : E} {tg : Nat} {e : E} {l : List α} (h1 : ev P C q a r M = .ok (.d (.lst (l.map φ))) M) (hl : l.length ≤ 16777216)
    (hb : ∀ x ∈ l, ev P C q e ((wipeE [tg] (dropX r)).set tg (some (.d (φ x)))) M = .ok (.d (g x)) M) :
    ev P C q (.cp false (.e a) [tg] .nil e) r M = .ok (.d (.lst (l.map g))) M := by
  have k1 : evI P C q (.e a) (([tg] : List Nat).length != 1) r M = .ok (rdSeq (.d (.lst (l.map φ))) false) M := by
    rw [evI, h1, bind_ok]
    show (if (rdSeq (.d (.lst (l.map φ))) false M).isSome = true then R.ok (rdSeq (.d (.lst (l.map φ))) false) M else .no) = _
    rw [rd_lst]
    rfl
  have k2 := ev_cpN (e := e) l.length (fun k => ((l[k]?).map g).getD .non) k1 (its := (l.map φ).map fun x => [Val.d x]) rd_lst (by simp) hl fun k item hk h => by
    rw [List.getElem?_map, List.getElem?_map] at h
    cases z : l[k]? with
    | none => rw [z] at h; cases h
    | some x => rw [z] at h; cases h; exact ⟨_, rfl, hb x (List.mem_of_getElem? z)⟩
  rw [k2, map_range (f := g) fun k x h => by rw [h]; rfl]
theorem cp_refM {α : Type} (φ g : α → D) {a : E} {tg p : Nat} {e : E} {l : List α} (h1 : ev P C q a r M = .ok (.ref p) M) (hM : M[p]? = some (cellD (l.map φ))) (hl : l.length ≤ 16777216)
    (hb : ∀ x ∈ l, ev P C q e ((wipeE [tg] (dropX r)).set tg (some (.d (φ x)))) M = .ok (.d (g x)) M) :
    ev P C q (.cp false (.e a) [tg] .nil e) r M = .ok (.d (.lst (l.map g))) M := by
  have rd := rd_ref hM
  have k1 : evI P C q (.e a) (([tg] : List Nat).length != 1) r M = .ok (rdSeq (.ref p) false) M := by
    rw [evI, h1, bind_ok]
    show (if (rdSeq (.ref p) false M).isSome = true then R.ok (rdSeq (.ref p) false) M else .no) = _
    rw [rd]
    rfl
  have k2 := ev_cpN (e := e) l.length (fun k => ((l[k]?).map g).getD .non) k1 (its := (l.map φ).map fun x => [Val.d x]) rd (by simp) hl fun k item hk h => by
    rw [List.getElem?_map, List.getElem?_map] at h
    cases z : l[k]? with
    | none => rw [z] at h; cases h
    | some x => rw [z] at h; cases h; exact ⟨_, rfl, hb x (List.mem_of_getElem? z)⟩
  rw [k2, map_range (f := g) fun k x h => by rw [h]; rfl]
/-- a loop over a list of its own kind that stays as it is -/
theorem w_ref {Z : SR → Prop} {t : Ss} {tg p : Nat} {e : E} {b : Ss} {l : List D} (hI : ev P C q e r M = .ok (.ref p) M1) (J : Nat → BV.Env → Store → Prop) (hJ : ∀ i r M, J i r M → M[p]? = some (cellD l)) (j0 : J 0 r M1)
    (hb : ∀ (i : Nat) (x : D) r M, l[i]? = some x → J i r M → LZ (fun o => Z (nxt P C q t o)) (J (i + 1)) (exSs P C q b (r.set tg (some (.d x))) M))
    (he : ∀ r M, J l.length r M → Z (exSs P C q t r M)) : Z (nxt P C q t (exS P C q (.for [tg] (.e e) b) r M)) :=
  w_for (l.map fun x => [Val.d x]) (rd := rdSeq (.ref p) false) (by
      rw [evI, hI, bind_ok]
      show (if (rdSeq (.ref p) false M1).isSome = true then R.ok (rdSeq (.ref p) false) M1 else .no) = _
      rw [rd_ref (hJ _ _ _ j0)]
      rfl) J (fun i r M j => rd_ref (hJ i r M j)) j0 (fun i item r M hi j => by
    rw [List.getElem?_map] at hi
    cases e : l[i]? with
    | none => rw [e] at hi; cases hi
    | some x => rw [e] at hi; cases hi; exact ⟨_, rfl, hb i x r M e j⟩) (fun r M j => he r M (by rw [List.length_map] at j; exact j))
theorem app_D {p : Nat} {l : List D} {x : D} (hM : M[p]? = some (cellD l)) (h : l.length < 16777216) : fbm .append (.ref p) [.d x] M = .ok (.d .non) (M.set p (cellD (l ++ [x]))) := by
  have z := app_ok (v := .d x) hM (by rw [List.length_map]; exact h) rfl
  show mAppend (.ref p) (.d x) M = .ok (.d .non) (M.set p (some (.lst ((l ++ [x]).map Val.d))))
  rw [z, List.map_append]
  rfl
end
/-- all that a walk needs, together -/
def WB := And.intro (And.intro (And.intro (And.intro (And.intro (And.intro (And.intro (@st_ok) (And.intro (@st_ex) (@bind_ok))) (And.intro (And.intro (@bind_ex) (@t_bl)) (And.intro (@op_add) (@op_sub)))) (And.intro (And.intro (@op_mod) (And.intro (@op_fdiv) (@op_mul))) (And.intro (And.intro (@op_lt) (@op_le)) (And.intro (@op_gt) (@op_ge))))) (And.intro (And.intro (And.intro (@op_eqI) (And.intro (@op_neI) (@bi_intI))) (And.intro (And.intro (@bi_intB) (@bi_abs)) (And.intro (@bi_lenL) (@bi_lenT)))) (And.intro (And.intro (And.intro (@eqT_ints) (@neL_ints)) (And.intro (@BW.s_nil) (@BW.s_cons))) (And.intro (And.intro (@BW.n_nx) (@BW.n_rt)) (And.intro (@BW.n_bk) (@BW.n_ct)))))) (And.intro (And.intro (And.intro (And.intro (@BW.n_ex) (And.intro (@BW.s_asg) (@BW.s_par))) (And.intro (And.intro (@BW.s_sub) (@BW.s_aug)) (And.intro (@BW.s_ex) (@BW.s_ret)))) (And.intro (And.intro (@BW.s_ifs) (And.intro (@BW.s_raise) (@BW.aug_i))) (And.intro (And.intro (@BW.aug_ins) (@BW.aug_add)) (And.intro (@BW.aug_sub) (@BW.s_sto))))) (And.intro (And.intro (And.intro (@BW.sl_nil) (And.intro (@BW.sl_nm) (@BW.sl_sub))) (And.intro (And.intro (@BW.ssK_some) (@BW.s_brk)) (And.intro (@BW.s_cont) (@BW.s_pass)))) (And.intro (And.intro (And.intro (@BW.lk_d) (@BW.lk_r)) (And.intro (@BW.lk_x) (@BW.lk_s))) (And.intro (And.intro (@BW.e_v) (@BW.e_c)) (And.intro (@BW.e_o1) (@BW.e_o2))))))) (And.intro (And.intro (And.intro (And.intro (And.intro (@BW.e_andV) (And.intro (@BW.e_orV) (@BW.e_tst))) (And.intro (And.intro (@BW.e_ite) (@BW.e_chain)) (And.intro (@BW.chK_bl) (@BW.e_tup)))) (And.intro (And.intro (@BW.e_lst) (And.intro (@BW.e_mut) (@BW.e_call))) (And.intro (And.intro (@BW.e_mk) (@BW.e_bi)) (And.intro (@BW.e_me) (@BW.meK_t))))) (And.intro (And.intro (And.intro (@BW.meK_f) (And.intro (@BW.e_callP) (@BW.e_mkP))) (And.intro (And.intro (@BW.e_meP) (@BW.mePK_t)) (And.intro (@BW.mePK_f) (@BW.per_10)))) (And.intro (And.intro (And.intro (@BW.per_01) (@BW.per_0)) (And.intro (@BW.e_bm) (@BW.bmK_t))) (And.intro (And.intro (@BW.e_sl) (@BW.o_none)) (And.intro (@BW.o_some) (@BW.oiK_i)))))) (And.intro (And.intro (And.intro (And.intro (@BW.a_nil) (And.intro (@BW.a_cons) (@BW.a_star))) (And.intro (And.intro (@BW.stK_some) (@BW.t_tr)) (And.intro (@BW.t_and) (@BW.t_or)))) (And.intro (And.intro (@BW.t_not) (And.intro (@BW.ts_nil) (@BW.ts_cons))) (And.intro (And.intro (@BW.i_rng) (@BW.rng_1)) (And.intro (@BW.rng_2) (@BW.rng_3))))) (And.intro (And.intro (And.intro (@BW.sa_nil) (And.intro (@BW.sa_cons) (@BW.wi_nil))) (And.intro (And.intro (@BW.wi_cons) (@BW.dx_nil)) (And.intro (@BW.dx_none) (@BW.dx_d)))) (And.intro (And.intro (And.intro (@BW.dx_r) (@BW.r_d)) (And.intro (@BW.r_ref) (@BW.r_nx))) (And.intro (And.intro (@BW.r_ex) (@BW.t_int)) (And.intro (@BW.t_non) (@BW.t_lst)))))))) (And.intro (And.intro (And.intro (And.intro (And.intro (And.intro (@BW.t_tup) (And.intro (@BW.op_eqB) (@BW.op_neB))) (And.intro (And.intro (@BW.trK_bl) (@BW.trK_ex)) (And.intro (@BW.chk_len) (@BW.chk_str)))) (And.intro (And.intro (@BW.calm_ok) (And.intro (@BW.o1_neg) (@BW.rep_bl))) (And.intro (And.intro (@BW.z_nx) (@BW.z_ct)) (And.intro (@BW.z_bk) (@BW.z_rt))))) (And.intro (And.intro (And.intro (@BW.z_ex) (And.intro (@BW.wz_t) (@BW.wz_f))) (And.intro (And.intro (@BW.s_try) (@BW.tk_ex)) (And.intro (@BW.tk_nx) (@BW.tk_d)))) (And.intro (And.intro (And.intro (@BW.tk_r) (@BW.hK_d)) (And.intro (@BW.hK_nx) (@BW.dx_x))) (And.intro (And.intro (@BW.dx_lam) (@BW.e_ask)) (And.intro (@BW.rep_rs) (@BW.e_dct0)))))) (And.intro (And.intro (And.intro (And.intro (@BW.e_dct1) (And.intro (@BW.nl_0) (@BW.nt_0))) (And.intro (And.intro (@BW.nl_1) (@BW.nt_1)) (And.intro (@BW.nl_2) (@BW.nt_2)))) (And.intro (And.intro (@BW.nl_3) (And.intro (@BW.nt_3) (@BW.nl_4))) (And.intro (And.intro (@BW.nt_4) (@BW.nl_5)) (And.intro (@BW.nt_5) (@BW.nl_6))))) (And.intro (And.intro (And.intro (@BW.nt_6) (And.intro (@BW.nl_7) (@BW.nt_7))) (And.intro (And.intro (@BW.nl_8) (@BW.nt_8)) (And.intro (@BW.nl_9) (@BW.nt_9)))) (And.intro (And.intro (And.intro (@BW.nl_10) (@BW.nt_10)) (And.intro (@BW.nl_11) (@BW.nt_11))) (And.intro (And.intro (@BW.nl_12) (@BW.nt_12)) (And.intro (@BW.rp_d) (@BW.rp_ref))))))) (And.intro (And.intro (And.intro (And.intro (And.intro (@BW.rp_nx) (And.intro (@BW.rx_ex) (@BW.op_eqS))) (And.intro (And.intro (@BW.op_neS) (@BW.eqL_ints)) (And.intro (@BW.neT_ints) (@BW.ati_s)))) (And.intro (And.intro (@BW.get_L) (And.intro (@BW.get_T) (@BW.get_C))) (And.intro (And.intro (@BW.set_C) (@BW.len_C)) (And.intro (@BW.fz_C) (@BW.sl_L0))))) (And.intro (And.intro (And.intro (@BW.sl_L1) (And.intro (@BW.sl_L2) (@BW.sl_T0))) (And.intro (And.intro (@BW.sl_T1) (@BW.sl_T2)) (And.intro (@BW.list_L) (@BW.list_T)))) (And.intro (And.intro (And.intro (@BW.tup_L) (@BW.tup_T)) (And.intro (@BW.listm_L) (@BW.listm_T))) (And.intro (And.intro (@BW.sum_L) (@BW.sum_T)) (And.intro (@BW.add_L) (@BW.addm_L)))))) (And.intro (And.intro (And.intro (And.intro (@BW.mul_1) (And.intro (@BW.max_2) (@BW.min_2))) (And.intro (And.intro (@BW.ne_E) (@BW.eq_E)) (And.intro (@BW.seq_L) (@BW.seq_T)))) (And.intro (And.intro (And.intro (@BW.list_C) (@BW.listm_C)) (And.intro (@BW.tup_C) (@BW.sum_C))) (And.intro (And.intro (@BW.ne_CE) (@BW.eq_CE)) (And.intro (@BW.eq_CL) (@BW.ne_CL))))) (And.intro (And.intro (And.intro (@BW.last_C) (And.intro (@BW.last_L) (@BW.last_T))) (And.intro (And.intro (@BW.rcv_C) (@BW.pop_C)) (And.intro (@BW.app_C) (@BW.in_ok)))) (And.intro (And.intro (And.intro (@BW.e_hear) (@BW.nm_1)) (And.intro (@BW.nm_0) (@BW.pow59))) (And.intro (And.intro (@BW.pow60) (@BW.fdiv_2)) (And.intro (@BW.mul_t2) (@BW.add_tt))))))))
end BW

set_option Elab.async false
set_option maxRecDepth 100000
set_option maxHeartbeats 4000000
/-! PM4: the needs of a house, in plain Lean. -/
namespace BW
open BV
/-- how many of the sizes a to b - 1 -/
def cb (h : List Int) (a b : Int) : Int := ((h.take (b - 1).toNat).drop (a - 1).toNat).sum
theorem take_drop_le (l : List Int) {a b : Nat} (h : b ≤ a) : ((l.take b).drop a).sum = 0 := take_drop_nil l h
theorem sum_nonneg' {l : List Int} (h : ∀ x ∈ l, 0 ≤ x) : 0 ≤ l.sum := sum_nonneg h
theorem cb_U {h : List Int} {a b : Int} (h1 : 1 ≤ a) (h2 : a ≤ b) : cb h a b = U h (a - 1).toNat - U h (b - 1).toNat := by
  have := take_drop_sum h (a := (a - 1).toNat) (b := (b - 1).toNat) (by omega)
  unfold cb U
  omega
/-- the greatest of 0 and what the numbers of the first k sizes pass the lockers below a size by -/
def gB (num h : List Int) (e : Int) : Nat → Int
  | 0 => 0
  | k + 1 => if ati num (k : Int) - cb h ((k : Int) + 1) e > gB num h e k then ati num (k : Int) - cb h ((k : Int) + 1) e else gB num h e k
theorem gB_nonneg (num h : List Int) (e : Int) : ∀ k, 0 ≤ gB num h e k
  | 0 => Int.le_refl 0
  | k + 1 => by
    have := gB_nonneg num h e k
    unfold gB
    split <;> omega
theorem gB_ge {num h : List Int} {e : Int} : ∀ {k v : Nat}, v < k → ati num (v : Int) - cb h ((v : Int) + 1) e ≤ gB num h e k
  | k + 1, v, hv => by
    unfold gB
    by_cases z : v = k
    · subst z
      split <;> omega
    · have := gB_ge (num := num) (h := h) (e := e) (show v < k by omega)
      split <;> omega
theorem gB_le {num h : List Int} {e b : Int} (h0 : 0 ≤ b) : ∀ {k : Nat}, (∀ v : Nat, v < k → ati num (v : Int) - cb h ((v : Int) + 1) e ≤ b) → gB num h e k ≤ b
  | 0, _ => h0
  | k + 1, hv => by
    have h1 := hv k (by omega)
    have h2 := gB_le (k := k) h0 (fun v hv' => hv v (by omega))
    unfold gB
    split <;> omega
theorem gB_att (num h : List Int) (e : Int) : ∀ k : Nat, gB num h e k = 0 ∨ ∃ v : Nat, v < k ∧ gB num h e k = ati num (v : Int) - cb h ((v : Int) + 1) e
  | 0 => .inl rfl
  | k + 1 => by
    unfold gB
    split
    · exact .inr ⟨k, by omega, rfl⟩
    · rcases gB_att num h e k with z | ⟨v, h1, h2⟩
      · exact .inl z
      · exact .inr ⟨v, by omega, h2⟩
theorem gB_congr {num num' h h' : List Int} {e e' : Int} : ∀ {k : Nat}, (∀ v : Nat, v < k → ati num (v : Int) - cb h ((v : Int) + 1) e = ati num' (v : Int) - cb h' ((v : Int) + 1) e') → gB num h e k = gB num' h' e' k
  | 0, _ => rfl
  | k + 1, hv => by
    unfold gB
    rw [hv k (by omega), gB_congr fun v h1 => hv v (by omega)]
theorem mn_le {g : Nat → Int} : ∀ {n k : Nat}, k ≤ n → mn g n ≤ g k
  | 0, k, h => by
    obtain rfl : k = 0 := by omega
    exact Int.le_refl _
  | n + 1, k, h => by
    unfold mn
    by_cases z : k = n + 1
    · subst z
      split <;> omega
    · have := mn_le (g := g) (show k ≤ n by omega)
      split <;> omega
theorem le_mn {g : Nat → Int} {b : Int} : ∀ {n : Nat}, (∀ k, k ≤ n → b ≤ g k) → b ≤ mn g n
  | 0, h => h 0 (Nat.le_refl _)
  | n + 1, h => by
    have h1 := h (n + 1) (Nat.le_refl _)
    have h2 := le_mn (n := n) (fun k hk => h k (by omega))
    unfold mn
    split <;> omega
theorem mn_att (g : Nat → Int) : ∀ n, ∃ k, k ≤ n ∧ mn g n = g k
  | 0 => ⟨0, Nat.le_refl _, rfl⟩
  | n + 1 => by
    unfold mn
    split
    · exact ⟨n + 1, Nat.le_refl _, rfl⟩
    · obtain ⟨k, h1, h2⟩ := mn_att g n
      exact ⟨k, by omega, h2⟩
theorem mn_congr {g g' : Nat → Int} : ∀ {n : Nat}, (∀ k, k ≤ n → g k = g' k) → mn g n = mn g' n
  | 0, h => h 0 (Nat.le_refl _)
  | n + 1, h => by
    unfold mn
    rw [h (n + 1) (Nat.le_refl _), mn_congr fun k hk => h k (by omega)]
/-- the needs of the first n sizes -/
def nd (m h : List Int) : Nat → List Int
  | 0 => []
  | n + 1 => nd m h n ++ [mn (fun s => ati m (s : Int) + gB (nd m h n) h ((n : Int) + 1) s) n]
theorem nd_len (m h : List Int) : ∀ n, (nd m h n).length = n
  | 0 => rfl
  | n + 1 => by
    unfold nd
    rw [List.length_append, nd_len m h n]
    rfl
/-- the need of the size k + 1 -/
def R (m h : List Int) (k : Nat) : Int := ati (nd m h (k + 1)) (k : Int)
theorem nd_at (m h : List Int) : ∀ {n k : Nat}, k < n → ati (nd m h n) (k : Int) = R m h k
  | n + 1, k, hk => by
    by_cases z : k = n
    · subst z; rfl
    · have ih := nd_at m h (show k < n by omega)
      rw [← ih]
      rw [ati_nat, ati_nat]
      show ((nd m h n ++ [_])[k]?).getD 0 = _
      rw [List.getElem?_append_left (by rw [nd_len]; omega)]
theorem R_eq (m h : List Int) (k : Nat) : R m h k = mn (fun s => ati m (s : Int) + gB (nd m h k) h ((k : Int) + 1) s) k := by
  unfold R
  rw [ati_nat]
  show ((nd m h k ++ [_])[k]?).getD 0 = _
  rw [List.getElem?_append_right (by rw [nd_len]; exact Nat.le_refl _), nd_len, Nat.sub_self]
  rfl
/-- G of the needs -/
def G (m h : List Int) (u k : Nat) : Int := gB (nd m h k) h ((k : Int) + 1) u
theorem R_mn (m h : List Int) (k : Nat) : R m h k = mn (fun s => ati m (s : Int) + G m h s k) k := R_eq m h k
theorem G_nonneg (m h : List Int) (u k : Nat) : 0 ≤ G m h u k := gB_nonneg _ _ _ _
theorem G_ge {m h : List Int} {u k v : Nat} (hv : v < u) (hu : u ≤ k) : R m h v - cb h ((v : Int) + 1) ((k : Int) + 1) ≤ G m h u k := by
  have := gB_ge (num := nd m h k) (h := h) (e := (k : Int) + 1) hv
  rw [nd_at m h (by omega)] at this
  exact this
theorem G_le {m h : List Int} {u k : Nat} {b : Int} (h0 : 0 ≤ b) (hu : u ≤ k) (hb : ∀ v, v < u → R m h v - cb h ((v : Int) + 1) ((k : Int) + 1) ≤ b) : G m h u k ≤ b := by
  refine gB_le h0 fun v hv => ?_
  rw [nd_at m h (by omega)]
  exact hb v hv
theorem cb_of {h : List Int} {v k : Nat} (hv : v ≤ k) : cb h ((v : Int) + 1) ((k : Int) + 1) = U h v - U h k := by
  rw [cb_U (by omega) (by omega)]
  rw [show ((v : Int) + 1 - 1).toNat = v by omega, show ((k : Int) + 1 - 1).toNat = k by omega]
theorem U_mono {h : List Int} (hn : nonneg h) {a b : Nat} (hab : a ≤ b) : U h b ≤ U h a := by
  induction b with
  | zero => rw [show a = 0 by omega]; exact Int.le_refl _
  | succ b ih =>
    by_cases z : a = b + 1
    · rw [z]; exact Int.le_refl _
    · exact Int.le_trans (U_anti hn b) (ih (by omega))
theorem R_le {m h : List Int} {k s : Nat} (hs : s ≤ k) : R m h k ≤ ati m (s : Int) + G m h s k := by
  rw [R_mn]
  exact mn_le (g := fun s => ati m (s : Int) + G m h s k) hs
theorem le_R {m h : List Int} {k : Nat} {b : Int} (hb : ∀ s, s ≤ k → b ≤ ati m (s : Int) + G m h s k) : b ≤ R m h k := by
  rw [R_mn]
  exact le_mn hb
/-! ### what needs keep -/
section
variable {m h : List Int} (hm : ∀ i : Nat, 0 ≤ ati m (i : Int)) (hd : ∀ i j : Nat, i ≤ j → ati m (j : Int) ≤ ati m (i : Int)) (hn : nonneg h)
theorem R_top (k : Nat) : R m h k ≤ ati m 0 := by
  have := R_le (m := m) (h := h) (k := k) (s := 0) (by omega)
  have z : G m h 0 k = 0 := rfl
  rw [z] at this
  simpa using this
theorem R_bot (hd : ∀ i j : Nat, i ≤ j → ati m (j : Int) ≤ ati m (i : Int)) (k : Nat) : ati m (k : Int) ≤ R m h k := le_R fun s hs => by
  have h1 := hd s k hs
  have h2 := G_nonneg m h s k
  omega
theorem G_anti (hn : nonneg h) {u k l : Nat} (hu : u ≤ k) (hk : k ≤ l) : G m h u l ≤ G m h u k := G_le (G_nonneg _ _ _ _) (by omega) fun v hv => by
  have h1 := G_ge (m := m) (h := h) hv hu
  rw [cb_of (by omega)] at h1 ⊢
  have := U_mono hn hk
  omega
theorem R_anti (hn : nonneg h) {k l : Nat} (hk : k ≤ l) : R m h l ≤ R m h k := le_R fun s hs => by
  have h1 := R_le (m := m) (h := h) (k := l) (s := s) (by omega)
  have h2 := G_anti (m := m) hn hs hk
  omega
theorem R_step (hm : ∀ i : Nat, 0 ≤ ati m (i : Int)) (hn : nonneg h) {i j : Nat} (hij : i < j) : R m h i ≤ R m h j + cb h ((i : Int) + 1) ((j : Int) + 1) := by
  have key : R m h i - cb h ((i : Int) + 1) ((j : Int) + 1) ≤ R m h j := le_R fun s hs => by
    have h0 := hm s
    by_cases z : s ≤ i
    · have h1 := R_le (m := m) (h := h) z
      have h2 : G m h s i ≤ G m h s j + cb h ((i : Int) + 1) ((j : Int) + 1) := G_le (by
        have := G_nonneg m h s j
        have := U_mono hn (show i ≤ j by omega)
        rw [cb_of (by omega)]
        omega) z fun v hv => by
          have h3 := G_ge (m := m) (h := h) hv (show s ≤ j by omega)
          rw [cb_of (by omega)] at h3 ⊢
          rw [cb_of (by omega)]
          omega
      omega
    · have h1 := G_ge (m := m) (h := h) (show i < s by omega) hs
      omega
  omega
end
/-- greater limits never need less -/
theorem R_more {m m' h : List Int} (hmm : ∀ i : Nat, ati m (i : Int) ≤ ati m' (i : Int)) : ∀ k, R m h k ≤ R m' h k := by
  intro k
  induction k using Nat.strongRecOn with
  | _ k ih =>
    refine le_R fun s hs => ?_
    have h1 := R_le (m := m) (h := h) hs
    have h2 : G m h s k ≤ G m' h s k := G_le (G_nonneg _ _ _ _) hs fun v hv => by
      have h3 := ih v (by omega)
      have h4 := G_ge (m := m') (h := h) hv hs
      omega
    have := hmm s
    omega
/-- more lockers of one size: no need up to this size is another one, none is greater -/
theorem R_wider {m h h' : List Int} {s : Nat} (hlow : ∀ a b : Nat, a ≤ b → b ≤ s → U h' a - U h' b = U h a - U h b) (hall : ∀ a b : Nat, a ≤ b → U h a - U h b ≤ U h' a - U h' b) : ∀ k, (k ≤ s → R m h' k = R m h k) ∧ R m h' k ≤ R m h k := by
  intro k
  induction k using Nat.strongRecOn with
  | _ k ih =>
    constructor
    · intro hk
      rw [R_mn, R_mn]
      refine mn_congr fun u hu => ?_
      have : G m h' u k = G m h u k := gB_congr fun v hv => by
        rw [nd_at m h' (by omega), nd_at m h (by omega), (ih v (by omega)).1 (by omega), cb_of (by omega), cb_of (by omega), hlow v k (by omega) hk]
      rw [this]
    · refine le_R fun u hu => ?_
      have h1 := R_le (m := m) (h := h') hu
      have h2 : G m h' u k ≤ G m h u k := G_le (G_nonneg _ _ _ _) hu fun v hv => by
        have h3 := (ih v (by omega)).2
        have h4 := G_ge (m := m) (h := h) hv hu
        rw [cb_of (by omega)] at h4 ⊢
        have := hall v k (by omega)
        omega
      omega
theorem cb_scale {h : List Int} {n a b : Int} : cb (h.map (n * ·)) a b = n * cb h a b := by
  unfold cb
  rw [← List.map_take, ← List.map_drop]
  generalize (h.take (b - 1).toNat).drop (a - 1).toNat = l
  induction l with
  | nil => simp
  | cons x l ih => rw [List.map_cons, List.sum_cons, List.sum_cons, ih, Int.mul_add]
theorem ati_scale {l : List Int} {n i : Int} : ati (l.map (n * ·)) i = n * ati l i := by
  unfold ati
  rw [List.getElem?_map]
  cases l[i.toNat]? with
  | none => simp
  | some x => rfl
theorem gB_scale {num num' h : List Int} {n e : Int} (hn : 0 < n) : ∀ {k : Nat}, (∀ v : Nat, v < k → ati num' (v : Int) = n * ati num (v : Int)) → gB num' (h.map (n * ·)) e k = n * gB num h e k
  | 0, _ => by simp [gB]
  | k + 1, hv => by
    unfold gB
    rw [gB_scale hn (fun v h1 => hv v (by omega)), hv k (by omega), cb_scale, ← Int.mul_sub]
    by_cases z : ati num (k : Int) - cb h ((k : Int) + 1) e > gB num h e k
    · rw [if_pos z, if_pos (Int.mul_lt_mul_of_pos_left z hn)]
    · rw [if_neg z, if_neg (by
        have := Int.mul_le_mul_of_nonneg_left (Int.not_lt.mp z) (Int.le_of_lt hn)
        omega)]
theorem mn_scale {g g' : Nat → Int} {n : Int} (hn : 0 < n) : ∀ {k : Nat}, (∀ s, s ≤ k → g' s = n * g s) → mn g' k = n * mn g k
  | 0, h => h 0 (Nat.le_refl _)
  | k + 1, h => by
    unfold mn
    rw [h (k + 1) (Nat.le_refl _), mn_scale hn (fun s hs => h s (by omega))]
    by_cases z : g (k + 1) < mn g k
    · rw [if_pos z, if_pos (Int.mul_lt_mul_of_pos_left z hn)]
    · rw [if_neg z, if_neg (by
        have := Int.mul_le_mul_of_nonneg_left (Int.not_lt.mp z) (Int.le_of_lt hn)
        omega)]
theorem R_scale {m h : List Int} {n : Int} (hn : 0 < n) : ∀ k, R (m.map (n * ·)) (h.map (n * ·)) k = n * R m h k := by
  intro k
  induction k using Nat.strongRecOn with
  | _ k ih =>
    rw [R_mn, R_mn]
    refine mn_scale hn fun s hs => ?_
    have : G (m.map (n * ·)) (h.map (n * ·)) s k = n * G m h s k := gB_scale hn fun v hv => by
      rw [nd_at _ _ (by omega), nd_at _ _ (by omega), ih v (by omega)]
    rw [this, ati_scale, Int.mul_add]
/-- needs look at numbers alone -/
theorem R_same {m m' h h' : List Int} (hm : ∀ i : Nat, ati m (i : Int) = ati m' (i : Int)) (hh : ∀ k, U h k = U h' k) : ∀ k, R m h k = R m' h' k := by
  intro k
  induction k using Nat.strongRecOn with
  | _ k ih =>
    rw [R_mn, R_mn]
    refine mn_congr fun u hu => ?_
    have : G m h u k = G m' h' u k := gB_congr fun v hv => by
      rw [nd_at _ _ (by omega), nd_at _ _ (by omega), ih v (by omega), cb_of (by omega), cb_of (by omega), hh, hh]
    show ati m u + G m h u k = ati m' u + G m' h' u k
    rw [this, hm]
end BW

set_option Elab.async false
set_option maxRecDepth 100000
set_option maxHeartbeats 4000000
/-! PM5: the order of rows, their bounds. -/
namespace BW
open BV
def difs (g : Nat → Int) : List Int := (List.range 9).map fun k => g k - g (k + 1)
def gmin (a b : List Int) (k : Nat) : Int := if U a k < U b k then U a k else U b k
def gmax (a b : List Int) (k : Nat) : Int := if U a k < U b k then U b k else U a k
def sums (a b : List Int) : List Int := (List.range 9).map fun k => (a[k]?).getD 0 + (b[k]?).getD 0
theorem difs_len9 (g : Nat → Int) : (difs g).length = 9 := by unfold difs; simp
theorem nonneg_trim {l : List Int} (h : nonneg l) : nonneg (trim l) := fun x hx => h x (List.mem_of_mem_take hx)
theorem dom_trim (a b : List Int) : dom (trim a) (trim b) = dom a b := dom_of (fun k _ => U_trim a k) (fun k _ => U_trim b k)
theorem dom_trim1 (a b : List Int) : dom (trim a) b = dom a b := dom_of (fun k _ => U_trim a k) (fun k _ => rfl)
theorem dom_trim2 (a b : List Int) : dom a (trim b) = dom a b := dom_of (fun k _ => rfl) (fun k _ => U_trim b k)
theorem gmin_trim (a b : List Int) : gmin (trim a) (trim b) = gmin a b := by
  funext k; unfold gmin; rw [U_trim, U_trim]
theorem gmax_trim (a b : List Int) : gmax (trim a) (trim b) = gmax a b := by
  funext k; unfold gmax; rw [U_trim, U_trim]
theorem gmin_comm (a b : List Int) : gmin a b = gmin b a := by
  funext k; unfold gmin; split <;> split <;> omega
theorem gmax_comm (a b : List Int) : gmax a b = gmax b a := by
  funext k; unfold gmax; split <;> split <;> omega
theorem nonneg_difs {g : Nat → Int} (h : ∀ k, k < 9 → g (k + 1) ≤ g k) : nonneg (difs g) := fun x hx => by
  unfold difs at hx
  obtain ⟨k, hk, rfl⟩ := List.mem_map.mp hx
  have := h k (List.mem_range.mp hk)
  omega
theorem U_difs' {g : Nat → Int} (h9 : g 9 = 0) {k : Nat} (hk : k ≤ 9) : U (difs g) k = g k := U_diff g h9 k hk
theorem U_difs {g : Nat → Int} (h9 : g 9 = 0) {k : Nat} (hk : k ≤ 9) : U (trim (difs g)) k = g k := by
  rw [U_trim]
  exact U_diff g h9 k hk
theorem gmin_anti {a b : List Int} (ha : nonneg a) (hb : nonneg b) (k : Nat) : gmin a b (k + 1) ≤ gmin a b k := by
  have h1 := U_anti ha k
  have h2 := U_anti hb k
  unfold gmin
  split <;> split <;> omega
theorem gmax_anti {a b : List Int} (ha : nonneg a) (hb : nonneg b) (k : Nat) : gmax a b (k + 1) ≤ gmax a b k := by
  have h1 := U_anti ha k
  have h2 := U_anti hb k
  unfold gmax
  split <;> split <;> omega
theorem gmin9 {a b : List Int} (ha : a.length ≤ 9) (hb : b.length ≤ 9) : gmin a b 9 = 0 := by unfold gmin; rw [U_end ha, U_end hb]; rfl
theorem gmax9 {a b : List Int} (ha : a.length ≤ 9) (hb : b.length ≤ 9) : gmax a b 9 = 0 := by unfold gmax; rw [U_end ha, U_end hb]; rfl
theorem difs_congr {g h : Nat → Int} (e : ∀ k, k ≤ 9 → g k = h k) : difs g = difs h := by
  unfold difs
  apply List.map_congr_left
  intro k hk
  have := List.mem_range.mp hk
  rw [e k (by omega), e (k + 1) (by omega)]
/-- the bounds of bounds: only the sums count -/
theorem gmin_difs {g : Nat → Int} {b : List Int} (h9 : g 9 = 0) : difs (gmin (difs g) b) = difs (fun k => if g k < U b k then g k else U b k) :=
  difs_congr fun k hk => by unfold gmin; rw [U_difs' h9 hk]
theorem trim_wide (l : List Int) (hl : l.length ≤ 9) : trim (wide l) = trim l := by
  unfold trim
  have step : ∀ m, l.length ≤ m → m ≤ 9 → cutZ (wide l) m = cutZ (wide l) l.length := by
    intro m
    induction m with
    | zero => intro h _; rw [show l.length = 0 by omega]
    | succ m ih =>
      intro h1 h2
      by_cases e : l.length = m + 1
      · rw [e]
      · rw [cutZ, if_pos ?_, ih (by omega) (by omega)]
        unfold wide
        rw [List.getElem?_append_right (by omega), List.getElem?_replicate, if_pos (by omega)]
  have low : ∀ m, m ≤ l.length → cutZ (wide l) m = cutZ l m := by
    intro m
    induction m with
    | zero => intro _; rfl
    | succ m ih =>
      intro h
      have e : (wide l)[m]? = l[m]? := by unfold wide; rw [List.getElem?_append_left (by omega)]
      rw [cutZ, cutZ, e, ih (by omega)]
  rw [wide_len hl, step 9 hl (by omega), low _ (Nat.le_refl _)]
  unfold wide
  rw [List.take_append_of_le_length (cutZ_le l _)]
theorem trim_ext {a b : List Int} (ha : a.length ≤ 9) (hb : b.length ≤ 9) (h : ∀ k, k < 9 → (a[k]?).getD 0 = (b[k]?).getD 0) : trim a = trim b := by
  rw [← trim_wide a ha, ← trim_wide b hb]
  congr 1
  apply List.ext_getElem?
  intro k
  by_cases hk : k < 9
  · have e : ∀ l : List Int, l.length ≤ 9 → (wide l)[k]? = some ((l[k]?).getD 0) := fun l hl => by
      rw [← wide_get, List.getElem?_eq_getElem (by rw [wide_len hl]; exact hk)]
      rfl
    rw [e a ha, e b hb, h k hk]
  · rw [List.getElem?_eq_none (by rw [wide_len ha]; omega), List.getElem?_eq_none (by rw [wide_len hb]; omega)]
theorem trim_trim (l : List Int) (hl : l.length ≤ 9) : trim (trim l) = trim l := trim_ext (Nat.le_trans (trim_len l) hl) hl fun k _ => trim_get l k
theorem dom_eq {a b : List Int} (ha : a.length ≤ 9) (hb : b.length ≤ 9) : (dom a b && dom b a) = (trim a == trim b) := by
  rw [Bool.eq_iff_iff, Bool.and_eq_true, beq_iff_eq]
  constructor
  · rintro ⟨h1, h2⟩
    have e : ∀ k, U a k = U b k := fun k => by
      by_cases hk : k < 9
      · exact Int.le_antisymm (dom_iff.mp h1 k hk) (dom_iff.mp h2 k hk)
      · rw [U_end (by omega), U_end (by omega)]
    refine trim_ext ha hb fun k _ => ?_
    have s1 := U_step a k
    have s2 := U_step b k
    rw [e k, e (k + 1)] at s1
    omega
  · intro h
    have e : ∀ k, U a k = U b k := fun k => by rw [← U_trim a, ← U_trim b, h]
    exact ⟨dom_iff.mpr fun k _ => by rw [e k]; exact Int.le_refl _, dom_iff.mpr fun k _ => by rw [e k]; exact Int.le_refl _⟩
theorem dom_lt {a b : List Int} (ha : a.length ≤ 9) (hb : b.length ≤ 9) : (dom a b && !(trim a == trim b)) = (dom a b && !dom b a) := by
  rw [← dom_eq ha hb]
  cases dom a b <;> cases dom b a <;> rfl
/-- the greatest lower, the least upper bound -/
theorem dom_gmin {a b c : List Int} (ha : a.length ≤ 9) (hb : b.length ≤ 9) : dom c (difs (gmin a b)) = (dom c a && dom c b) := by
  rw [Bool.eq_iff_iff, Bool.and_eq_true, dom_iff, dom_iff, dom_iff]
  constructor
  · intro h
    refine ⟨fun k hk => ?_, fun k hk => ?_⟩ <;>
      (have := h k hk; rw [U_difs' (gmin9 ha hb) (by omega)] at this; unfold gmin at this; split at this <;> omega)
  · rintro ⟨h1, h2⟩ k hk
    have a1 := h1 k hk
    have a2 := h2 k hk
    rw [U_difs' (gmin9 ha hb) (by omega)]
    unfold gmin
    split <;> omega
theorem dom_gmax {a b c : List Int} (ha : a.length ≤ 9) (hb : b.length ≤ 9) : dom (difs (gmax a b)) c = (dom a c && dom b c) := by
  rw [Bool.eq_iff_iff, Bool.and_eq_true, dom_iff, dom_iff, dom_iff]
  constructor
  · intro h
    refine ⟨fun k hk => ?_, fun k hk => ?_⟩ <;>
      (have := h k hk; rw [U_difs' (gmax9 ha hb) (by omega)] at this; unfold gmax at this; split at this <;> omega)
  · rintro ⟨h1, h2⟩ k hk
    have a1 := h1 k hk
    have a2 := h2 k hk
    rw [U_difs' (gmax9 ha hb) (by omega)]
    unfold gmax
    split <;> omega
theorem dom_refl (a : List Int) : dom a a = true := dom_iff.mpr fun _ _ => Int.le_refl _
theorem gmin_dom {a b : List Int} (ha : a.length ≤ 9) (hb : b.length ≤ 9) : dom (difs (gmin a b)) a = true ∧ dom (difs (gmin a b)) b = true := by
  have h := dom_gmin (c := difs (gmin a b)) ha hb
  rw [dom_refl] at h
  exact Bool.and_eq_true_iff.mp h.symm
theorem dom_gmax' {a b : List Int} (ha : a.length ≤ 9) (hb : b.length ≤ 9) : dom a (difs (gmax a b)) = true ∧ dom b (difs (gmax a b)) = true := by
  have h := dom_gmax (c := difs (gmax a b)) ha hb
  rw [dom_refl] at h
  exact Bool.and_eq_true_iff.mp h.symm
/-- the sums of a row from each size on -/
def ups (l : List Int) : List Int := (List.range 9).map (U l)
theorem ups_len (l : List Int) : (ups l).length = 9 := by unfold ups; simp
theorem zipWith_ups (f : Int → Int → Int) (a b : List Int) : List.zipWith f (ups a) (ups b) = (List.range 9).map fun k => f (U a k) (U b k) := by
  unfold ups
  rw [List.zipWith_map, List.zipWith_self]
theorem filter_empty {a : Type} {l : List a} {p : a → Bool} : (l.filter p).isEmpty = l.all fun x => !p x := by
  induction l with
  | nil => rfl
  | cons x l ih =>
    rw [List.filter_cons, List.all_cons, ← ih]
    cases p x <;> rfl
theorem zip_dom {a b : List Int} : (((ups a).zip (ups b)).filter fun q => decide (q.1 > q.2)).isEmpty = dom a b := by
  rw [filter_empty]
  unfold ups dom
  rw [List.zip_map', List.all_map]
  congr 1
  funext k
  show (!decide (U a k > U b k)) = decide (U a k ≤ U b k)
  by_cases h : U a k ≤ U b k
  · rw [decide_eq_true h, decide_eq_false (by omega)]
    rfl
  · rw [decide_eq_false h, decide_eq_true (by omega)]
    rfl
end BW

set_option Elab.async false
set_option maxRecDepth 100000
set_option maxHeartbeats 4000000
/-! the law's tables answer -/
namespace L16
open PySem BV BW
section
variable {C : Caller} {M : Store}
theorem w1 {ds : List D} {x : Val} : f2 X.B.P C .get (.d (.ins 8 ds)) x M = C 22 none [.d (.ins 8 ds), x] M := rfl
theorem w2 {ds : List D} : tgtOf X.B.P 36 (.d (.ins 11 ds)) M = some (49, true) := rfl
theorem w3 {ds : List D} : tgtOf X.B.P 30 (.d (.ins 11 ds)) M = some (52, true) := rfl
theorem w4 {ds : List D} : tgtOf X.B.P 36 (.d (.ins 12 ds)) M = some (49, true) := rfl
theorem w5 {ds : List D} : tgtOf X.B.P 30 (.d (.ins 12 ds)) M = some (52, true) := rfl
theorem w6 {ds : List D} : tgtOf X.B.P 36 (.d (.ins 13 ds)) M = some (49, true) := rfl
theorem w7 {ds : List D} : tgtOf X.B.P 30 (.d (.ins 13 ds)) M = some (52, true) := rfl
theorem w8 {ds : List D} : tgtOf X.B.P 36 (.d (.ins 14 ds)) M = some (83, true) := rfl
theorem w9 {ds : List D} {x : Val} : f2 X.B.P C .get (.d (.ins 14 ds)) x M = C 84 none [.d (.ins 14 ds), x] M := rfl
theorem w10 : tgtOf X.B.P 37 (.d (.cls 12)) M = some (69, true) := rfl
theorem w11 : tgtOf X.B.P 37 (.d (.cls 14)) M = some (79, true) := rfl
theorem w12 {x0 x1 x2 : D} : f1 X.B.P C (.at 33) (.d (.ins 8 [x0, x1, x2])) M = .ok (.d x0) M := rfl
theorem w13 {x0 x1 x2 : D} : f1 X.B.P C (.at 32) (.d (.ins 8 [x0, x1, x2])) M = .ok (.d x1) M := rfl
theorem w14 {x0 x1 x2 : D} : f1 X.B.P C (.at 31) (.d (.ins 8 [x0, x1, x2])) M = .ok (.d x2) M := rfl
theorem w15 {x0 : D} : f1 X.B.P C (.at 34) (.d (.ins 10 [x0])) M = .ok (.d x0) M := rfl
theorem w16 {x0 : D} : f1 X.B.P C (.at 35) (.d (.ins 11 [x0])) M = .ok (.d x0) M := rfl
theorem w17 {x0 : D} : f1 X.B.P C (.at 35) (.d (.ins 12 [x0])) M = .ok (.d x0) M := rfl
theorem w18 {x0 : D} : f1 X.B.P C (.at 35) (.d (.ins 13 [x0])) M = .ok (.d x0) M := rfl
theorem w19 {x0 : D} : f1 X.B.P C (.at 35) (.d (.ins 14 [x0])) M = .ok (.d x0) M := rfl
theorem w20 {x0 : D} : f1 X.B.P C (.atx 38) (.exn 1 [x0]) M = .ok (.d x0) M := rfl
theorem w21 {x0 : D} : f1 X.B.P C (.atx 38) (.exn 2 [x0]) M = .ok (.d x0) M := rfl
theorem w22 {x0 : D} : f1 X.B.P C (.atx 38) (.exn 3 [x0]) M = .ok (.d x0) M := rfl
theorem w23 {x0 : D} : f1 X.B.P C (.atx 39) (.exn 4 [x0]) M = .ok (.d x0) M := rfl
theorem w24 {x0 : D} : f1 X.B.P C (.atx 40) (.exn 5 [x0]) M = .ok (.d x0) M := rfl
theorem w25 {x0 x1 : D} : f1 X.B.P C (.atx 41) (.exn 6 [x0, x1]) M = .ok (.d x0) M := rfl
theorem w26 {x0 x1 : D} : f1 X.B.P C (.atx 42) (.exn 6 [x0, x1]) M = .ok (.d x1) M := rfl
theorem w27 {x0 x1 : D} : f1 X.B.P C (.atx 43) (.exn 7 [x0, x1]) M = .ok (.d x0) M := rfl
theorem w28 {x0 x1 : D} : f1 X.B.P C (.atx 44) (.exn 7 [x0, x1]) M = .ok (.d x1) M := rfl
theorem w29 {ks vs : List D} : fbi X.B.P C (.isi [10] []) [.d (.dic ks vs)] M = .ok (.d (.bl false)) M := rfl
theorem w30  : fbi X.B.P C (.isi [10] []) [.d (.non)] M = .ok (.d (.bl false)) M := rfl
theorem w31 {b : Bool} : fbi X.B.P C (.isi [10] []) [.d (.bl b)] M = .ok (.d (.bl false)) M := rfl
theorem w32 {i : Int} : fbi X.B.P C (.isi [10] []) [.d (.int i)] M = .ok (.d (.bl false)) M := rfl
theorem w33 {x : Str} : fbi X.B.P C (.isi [10] []) [.d (.str x)] M = .ok (.d (.bl false)) M := rfl
theorem w34 {l : List D} : fbi X.B.P C (.isi [10] []) [.d (.tup l)] M = .ok (.d (.bl false)) M := rfl
theorem w35 {l : List D} : fbi X.B.P C (.isi [10] []) [.d (.lst l)] M = .ok (.d (.bl false)) M := rfl
theorem w36 {ds : List D} : fbi X.B.P C (.isi [10] []) [.d (.ins 8 ds)] M = .ok (.d (.bl false)) M := rfl
theorem w37 {ds : List D} : fbi X.B.P C (.isi [10] []) [.d (.ins 10 ds)] M = .ok (.d (.bl true)) M := rfl
theorem w38 {ds : List D} : fbi X.B.P C (.isi [10] []) [.d (.ins 11 ds)] M = .ok (.d (.bl false)) M := rfl
theorem w39 {ds : List D} : fbi X.B.P C (.isi [10] []) [.d (.ins 12 ds)] M = .ok (.d (.bl false)) M := rfl
theorem w40 {ds : List D} : fbi X.B.P C (.isi [10] []) [.d (.ins 13 ds)] M = .ok (.d (.bl false)) M := rfl
theorem w41 {ds : List D} : fbi X.B.P C (.isi [10] []) [.d (.ins 14 ds)] M = .ok (.d (.bl false)) M := rfl
theorem w42 {ks vs : List D} : fbi X.B.P C (.isi [] ["bool"]) [.d (.dic ks vs)] M = .ok (.d (.bl false)) M := rfl
theorem w43  : fbi X.B.P C (.isi [] ["bool"]) [.d (.non)] M = .ok (.d (.bl false)) M := rfl
theorem w44 {b : Bool} : fbi X.B.P C (.isi [] ["bool"]) [.d (.bl b)] M = .ok (.d (.bl true)) M := rfl
theorem w45 {i : Int} : fbi X.B.P C (.isi [] ["bool"]) [.d (.int i)] M = .ok (.d (.bl false)) M := rfl
theorem w46 {x : Str} : fbi X.B.P C (.isi [] ["bool"]) [.d (.str x)] M = .ok (.d (.bl false)) M := rfl
theorem w47 {l : List D} : fbi X.B.P C (.isi [] ["bool"]) [.d (.tup l)] M = .ok (.d (.bl false)) M := rfl
theorem w48 {l : List D} : fbi X.B.P C (.isi [] ["bool"]) [.d (.lst l)] M = .ok (.d (.bl false)) M := rfl
theorem w49 {ds : List D} : fbi X.B.P C (.isi [] ["bool"]) [.d (.ins 8 ds)] M = .ok (.d (.bl false)) M := rfl
theorem w50 {ds : List D} : fbi X.B.P C (.isi [] ["bool"]) [.d (.ins 10 ds)] M = .ok (.d (.bl false)) M := rfl
theorem w51 {ds : List D} : fbi X.B.P C (.isi [] ["bool"]) [.d (.ins 11 ds)] M = .ok (.d (.bl false)) M := rfl
theorem w52 {ds : List D} : fbi X.B.P C (.isi [] ["bool"]) [.d (.ins 12 ds)] M = .ok (.d (.bl false)) M := rfl
theorem w53 {ds : List D} : fbi X.B.P C (.isi [] ["bool"]) [.d (.ins 13 ds)] M = .ok (.d (.bl false)) M := rfl
theorem w54 {ds : List D} : fbi X.B.P C (.isi [] ["bool"]) [.d (.ins 14 ds)] M = .ok (.d (.bl false)) M := rfl
theorem w55 {ks vs : List D} : fbi X.B.P C (.isi [] ["int"]) [.d (.dic ks vs)] M = .ok (.d (.bl false)) M := rfl
theorem w56  : fbi X.B.P C (.isi [] ["int"]) [.d (.non)] M = .ok (.d (.bl false)) M := rfl
theorem w57 {b : Bool} : fbi X.B.P C (.isi [] ["int"]) [.d (.bl b)] M = .ok (.d (.bl true)) M := rfl
theorem w58 {i : Int} : fbi X.B.P C (.isi [] ["int"]) [.d (.int i)] M = .ok (.d (.bl true)) M := rfl
theorem w59 {x : Str} : fbi X.B.P C (.isi [] ["int"]) [.d (.str x)] M = .ok (.d (.bl false)) M := rfl
theorem w60 {l : List D} : fbi X.B.P C (.isi [] ["int"]) [.d (.tup l)] M = .ok (.d (.bl false)) M := rfl
theorem w61 {l : List D} : fbi X.B.P C (.isi [] ["int"]) [.d (.lst l)] M = .ok (.d (.bl false)) M := rfl
theorem w62 {ds : List D} : fbi X.B.P C (.isi [] ["int"]) [.d (.ins 8 ds)] M = .ok (.d (.bl false)) M := rfl
theorem w63 {ds : List D} : fbi X.B.P C (.isi [] ["int"]) [.d (.ins 10 ds)] M = .ok (.d (.bl false)) M := rfl
theorem w64 {ds : List D} : fbi X.B.P C (.isi [] ["int"]) [.d (.ins 11 ds)] M = .ok (.d (.bl false)) M := rfl
theorem w65 {ds : List D} : fbi X.B.P C (.isi [] ["int"]) [.d (.ins 12 ds)] M = .ok (.d (.bl false)) M := rfl
theorem w66 {ds : List D} : fbi X.B.P C (.isi [] ["int"]) [.d (.ins 13 ds)] M = .ok (.d (.bl false)) M := rfl
theorem w67 {ds : List D} : fbi X.B.P C (.isi [] ["int"]) [.d (.ins 14 ds)] M = .ok (.d (.bl false)) M := rfl
theorem w68 {ks vs : List D} : fbi X.B.P C (.isi [] ["list", "tuple"]) [.d (.dic ks vs)] M = .ok (.d (.bl false)) M := rfl
theorem w69  : fbi X.B.P C (.isi [] ["list", "tuple"]) [.d (.non)] M = .ok (.d (.bl false)) M := rfl
theorem w70 {b : Bool} : fbi X.B.P C (.isi [] ["list", "tuple"]) [.d (.bl b)] M = .ok (.d (.bl false)) M := rfl
theorem w71 {i : Int} : fbi X.B.P C (.isi [] ["list", "tuple"]) [.d (.int i)] M = .ok (.d (.bl false)) M := rfl
theorem w72 {x : Str} : fbi X.B.P C (.isi [] ["list", "tuple"]) [.d (.str x)] M = .ok (.d (.bl false)) M := rfl
theorem w73 {l : List D} : fbi X.B.P C (.isi [] ["list", "tuple"]) [.d (.tup l)] M = .ok (.d (.bl true)) M := rfl
theorem w74 {l : List D} : fbi X.B.P C (.isi [] ["list", "tuple"]) [.d (.lst l)] M = .ok (.d (.bl true)) M := rfl
theorem w75 {ds : List D} : fbi X.B.P C (.isi [] ["list", "tuple"]) [.d (.ins 8 ds)] M = .ok (.d (.bl false)) M := rfl
theorem w76 {ds : List D} : fbi X.B.P C (.isi [] ["list", "tuple"]) [.d (.ins 10 ds)] M = .ok (.d (.bl false)) M := rfl
theorem w77 {ds : List D} : fbi X.B.P C (.isi [] ["list", "tuple"]) [.d (.ins 11 ds)] M = .ok (.d (.bl false)) M := rfl
theorem w78 {ds : List D} : fbi X.B.P C (.isi [] ["list", "tuple"]) [.d (.ins 12 ds)] M = .ok (.d (.bl false)) M := rfl
theorem w79 {ds : List D} : fbi X.B.P C (.isi [] ["list", "tuple"]) [.d (.ins 13 ds)] M = .ok (.d (.bl false)) M := rfl
theorem w80 {ds : List D} : fbi X.B.P C (.isi [] ["list", "tuple"]) [.d (.ins 14 ds)] M = .ok (.d (.bl false)) M := rfl
end
def WL := And.intro (And.intro (And.intro (And.intro (And.intro (And.intro (@w1) (@w2)) (And.intro (@w3) (And.intro (@w4) (@w5)))) (And.intro (And.intro (@w6) (@w7)) (And.intro (@w8) (And.intro (@w9) (@w10))))) (And.intro (And.intro (And.intro (@w11) (@w12)) (And.intro (@w13) (And.intro (@w14) (@w15)))) (And.intro (And.intro (@w16) (@w17)) (And.intro (@w18) (And.intro (@w19) (@w20)))))) (And.intro (And.intro (And.intro (And.intro (@w21) (@w22)) (And.intro (@w23) (And.intro (@w24) (@w25)))) (And.intro (And.intro (@w26) (@w27)) (And.intro (@w28) (And.intro (@w29) (@w30))))) (And.intro (And.intro (And.intro (@w31) (@w32)) (And.intro (@w33) (And.intro (@w34) (@w35)))) (And.intro (And.intro (@w36) (@w37)) (And.intro (@w38) (And.intro (@w39) (@w40))))))) (And.intro (And.intro (And.intro (And.intro (And.intro (@w41) (@w42)) (And.intro (@w43) (And.intro (@w44) (@w45)))) (And.intro (And.intro (@w46) (@w47)) (And.intro (@w48) (And.intro (@w49) (@w50))))) (And.intro (And.intro (And.intro (@w51) (@w52)) (And.intro (@w53) (And.intro (@w54) (@w55)))) (And.intro (And.intro (@w56) (@w57)) (And.intro (@w58) (And.intro (@w59) (@w60)))))) (And.intro (And.intro (And.intro (And.intro (@w61) (@w62)) (And.intro (@w63) (And.intro (@w64) (@w65)))) (And.intro (And.intro (@w66) (@w67)) (And.intro (@w68) (And.intro (@w69) (@w70))))) (And.intro (And.intro (And.intro (@w71) (@w72)) (And.intro (@w73) (And.intro (@w74) (@w75)))) (And.intro (And.intro (@w76) (@w77)) (And.intro (@w78) (And.intro (@w79) (@w80)))))))
end L16

set_option Elab.async false
set_option maxRecDepth 100000
set_option maxHeartbeats 4000000
namespace BW
end BW
namespace L16
open PySem BV BW
abbrev P : Pg := X.B.P
theorem is_integer {n : Nat} {d : D} {M : Store} (h : okD d = true) : callF P (n + 1) 8 none [.d d] M = .ok (.d (.bl (isIntD d))) M := by
  cases d <;> first | rfl | cases h
theorem is_within {n : Nat} {d : D} {a b : Int} {M : Store} (h : okD d = true) : callF P (n + 2) 9 none [.d d, .d (.int a), .d (.int b)] M = .ok (.d (.bl (inD a b d))) M := by
  refine callF_pure (I := i9) rfl rfl rfl rfl rfl (M' := []) ?_
  have e := is_integer (n := n) (M := []) h
  simp only [i9, b9, exSs, exS, ev, evA, startE, List.map_cons, List.map_nil, List.cons_append, List.nil_append, List.getElem?_cons_zero, List.getElem?_cons_succ, bind_ok, e, truth]
  cases d <;> first | cases h; done | rfl | skip
  rename_i i
  cases h1 : decide (a ≤ i) with
  | false => simp [isIntD, inD, f2, ownHere, insOf, dataOf, datOp, intOp, h1, st_ok, bind_ok, retOf, plainV]
  | true => simp [isIntD, inD, f2, ownHere, insOf, dataOf, datOp, intOp, h1, st_ok, bind_ok, retOf, plainV]
theorem is_number {n : Nat} {d : D} {M : Store} (h : okD d = true) : callF P (n + 3) 10 none [.d d] M = .ok (.d (.bl (inD 0 (10 ^ 60 - 1) d))) M := by
  refine callF_pure (I := i10) rfl rfl rfl rfl rfl (M' := []) ?_
  have e := is_within (n := n) (M := []) (a := 0) (b := 10 ^ 60 - 1) h
  simp only [show (10 ^ 60 - 1 : Int) = 999999999999999999999999999999999999999999999999999999999999 by decide] at e ⊢
  simp only [i10, b10, exSs, exS, ev, evA, startE, List.map_cons, List.map_nil, List.cons_append, List.nil_append, List.getElem?_cons_zero, List.getElem?_cons_succ, bind_ok, e, st_ok, retOf, plainV, if_true]
theorem is_size {n : Nat} {d : D} {M : Store} (h : okD d = true) : callF P (n + 3) 11 none [.d d] M = .ok (.d (.bl (inD 1 9 d))) M := by
  refine callF_pure (I := i11) rfl rfl rfl rfl rfl (M' := []) ?_
  have e := is_within (n := n) (M := []) (a := 1) (b := 9) h
  simp only [i11, b11, exSs, exS, ev, evA, startE, List.map_cons, List.map_nil, List.cons_append, List.nil_append, List.getElem?_cons_zero, List.getElem?_cons_succ, bind_ok, e, st_ok, retOf, plainV, if_true]
theorem need_number {n : Nat} {d : D} {M : Store} (h : okD d = true) : callF P (n + 4) 12 none [.d d] M = if inD 0 (10 ^ 60 - 1) d then .ok (.d .non) M else .ex 1 [d] M := by
  have e := is_number (n := n) (M := []) h
  cases hd : inD 0 (10 ^ 60 - 1) d with
  | true =>
    refine callF_pure (I := i12) rfl rfl rfl rfl rfl (M' := []) ?_
    simp only [i12, b12, exSs, exS, ev, evA, evT, startE, List.map_cons, List.map_nil, List.cons_append, List.nil_append, List.getElem?_cons_zero, List.getElem?_cons_succ, bind_ok, e, t_bl, hd, Bool.not_true, Bool.false_eq_true, st_ok, if_false, retOf]
  | false =>
    refine callF_pureX (I := i12) rfl rfl rfl rfl rfl (M' := []) ?_
    simp only [i12, b12, exSs, exS, ev, evA, evT, startE, List.map_cons, List.map_nil, List.cons_append, List.nil_append, List.getElem?_cons_zero, List.getElem?_cons_succ, bind_ok, e, t_bl, hd, Bool.not_false, if_true, st_ok, retOf, allD, show P.exc 1 = some 1 from rfl, List.length_cons, List.length_nil]
theorem need_size {n : Nat} {d : D} {M : Store} (h : okD d = true) : callF P (n + 4) 13 none [.d d] M = if inD 1 9 d then .ok (.d .non) M else .ex 2 [d] M := by
  have e := is_size (n := n) (M := []) h
  cases hd : inD 1 9 d with
  | true =>
    refine callF_pure (I := i13) rfl rfl rfl rfl rfl (M' := []) ?_
    simp only [i13, b13, exSs, exS, ev, evA, evT, startE, List.map_cons, List.map_nil, List.cons_append, List.nil_append, List.getElem?_cons_zero, List.getElem?_cons_succ, bind_ok, e, t_bl, hd, Bool.not_true, Bool.false_eq_true, st_ok, if_false, retOf]
  | false =>
    refine callF_pureX (I := i13) rfl rfl rfl rfl rfl (M' := []) ?_
    simp only [i13, b13, exSs, exS, ev, evA, evT, startE, List.map_cons, List.map_nil, List.cons_append, List.nil_append, List.getElem?_cons_zero, List.getElem?_cons_succ, bind_ok, e, t_bl, hd, Bool.not_false, if_true, st_ok, retOf, allD, show P.exc 2 = some 1 from rfl, List.length_cons, List.length_nil]
/-! ### rows -/
/-- a row, as a list or a tuple -/
def RowV (v : Val) (l : List Int) : Prop := v = .d (.lst (l.map .int)) ∨ v = .d (.tup (l.map .int))
theorem len_row {C : Caller} {M : Store} {v : Val} {l : List Int} (h : RowV v l) : fbi P C .len [v] M = .ok (.d (.int l.length)) M := by
  rcases h with rfl | rfl
  · rw [bi_lenL, List.length_map]
  · rw [bi_lenT, List.length_map]
theorem get_row {C : Caller} {M : Store} {v : Val} {l : List Int} {k : Nat} {x : Int} (h : RowV v l) (hx : l[k]? = some x) : f2 P C .get v (.d (.int k)) M = .ok (.d (.int x)) M := by
  refine get_dat h (by omega) ?_
  rw [List.getElem?_map, Int.toNat_natCast, hx]
  rfl
theorem trim_loop {C : Caller} {M : Store} {v : Val} {l : List Int} (h : RowV v l) : ∀ (m k : Nat), m ≤ l.length → m < k →
    wloop (fun r M => evT P C none (.and (.tr (.o2 .gt (.v 1) (.c (.int 0)))) (.tr (.o2 .eq (.o2 .get (.v 0) (.o2 .sub (.v 1) (.c (.int 1)))) (.c (.int 0))))) r M)
      (fun r M => exSs P C none (.cons (.asg 1 (.o2 .sub (.v 1) (.c (.int 1)))) .nil) r M) k [some v, some (.d (.int m))] M = .ok (.nx [some v, some (.d (.int (cutZ l m)))]) M
  | 0, k + 1, _, _ => by
    have pv : ∀ r : BV.Env, ev P C none (.v 0) (some v :: r) M = .ok v M := fun r => by rcases h with rfl | rfl <;> rfl
    unfold wloop
    simp only [ev, evT, List.getElem?_cons_zero, List.getElem?_cons_succ, bind_ok, op_gt, t_bl, show decide ((0 : Int) < ((0 : Nat) : Int)) = false from rfl, Bool.false_eq_true, if_false]
    rfl
  | m + 1, k + 1, h1, h2 => by
    obtain ⟨x, hx⟩ : ∃ x, l[m]? = some x := ⟨l[m]'(by omega), List.getElem?_eq_getElem (by omega)⟩
    have pv : ∀ r : BV.Env, ev P C none (.v 0) (some v :: r) M = .ok v M := fun r => by rcases h with rfl | rfl <;> rfl
    have g := get_row (C := C) (M := M) h hx
    have ih := trim_loop (C := C) (M := M) h m k (by omega) (by omega)
    have e1 : ((m + 1 : Nat) : Int) - 1 = (m : Int) := by omega
    have e0 : decide ((0 : Int) < ((m + 1 : Nat) : Int)) = true := decide_eq_true (by omega)
    have t0 : evT P C none (.and (.tr (.o2 .gt (.v 1) (.c (.int 0)))) (.tr (.o2 .eq (.o2 .get (.v 0) (.o2 .sub (.v 1) (.c (.int 1)))) (.c (.int 0))))) [some v, some (.d (.int (m + 1 : Nat)))] M = .ok (x == 0) M := by
      rcases h with rfl | rfl <;>
      simp only [evT, ev, List.getElem?_cons_zero, List.getElem?_cons_succ, bind_ok, op_gt, t_bl, e0, if_true, op_sub, e1, g, op_eqI]
    unfold wloop
    simp only [t0]
    by_cases hz : x = 0
    · have c : cutZ l (m + 1) = cutZ l m := by
        rw [cutZ, if_pos (by rw [hx, hz])]
      have b : exSs P C none (.cons (.asg 1 (.o2 .sub (.v 1) (.c (.int 1)))) .nil) [some v, some (.d (.int (m + 1 : Nat)))] M = .ok (.nx [some v, some (.d (.int m))]) M := by
        simp only [exSs, exS, ev, List.getElem?_cons_zero, List.getElem?_cons_succ, bind_ok, st_ok, op_sub, e1, List.set]
      rw [show (x == 0) = true by simpa using hz, c]
      simp only [b]
      exact ih
    · have c : cutZ l (m + 1) = m + 1 := by
        rw [cutZ, if_neg (by rw [hx]; intro z; exact hz (Option.some.inj z))]
      rw [show (x == 0) = false by simpa using hz, c]
theorem trimmed {n : Nat} {v : D} {M : Store} {l : List Int} (h : RowV (.d v) l) (hl : l.length < 1000) : callF P (n + 1) 37 none [.d v] M = .ok (.d (.tup ((trim l).map .int))) M := by
  refine callF_pure (I := i37) rfl rfl rfl rfl rfl (M' := []) ?_
  have lm : ((trim l).map D.int).length ≤ lim := by
    rw [List.length_map]
    have := trim_len l
    unfold lim
    omega
  have c := cutZ_le l l.length
  have cz : ((l.map D.int).take (cutZ l l.length)).drop 0 = (trim l).map D.int := by
    rw [List.drop_zero, trim, List.map_take]
  have sl : ∀ (C : Caller), (ev P C none (.sl false (.v 0) .none (.some (.v 1))) [some (.d v), some (.d (.int (cutZ l l.length)))] []) = .ok (.d (match v with | .tup _ => .tup ((trim l).map .int) | _ => .lst ((trim l).map .int))) [] := fun C => by
    rcases h with e | e
    · cases e
      simp only [ev, evO, List.getElem?_cons_zero, List.getElem?_cons_succ, bind_ok, lstOf]
      rw [cut_nat 0 (cutZ l l.length) (.inr ⟨rfl, rfl⟩) (.inl rfl)]
      rw [← List.map_take, ← List.map_drop, cz]
      exact newL_ints lm
    · cases e
      simp only [ev, evO, List.getElem?_cons_zero, List.getElem?_cons_succ, bind_ok]
      rw [cut_nat 0 (cutZ l l.length) (.inr ⟨rfl, rfl⟩) (.inl rfl), cz]
      exact newT_ints lm
  have tp : ∀ (C : Caller) (x : D), x = .tup ((trim l).map .int) ∨ x = .lst ((trim l).map .int) → fbi P C .tuple [.d x] [] = .ok (.d (.tup ((trim l).map .int))) [] := fun C x hx => by
    rcases hx with rfl | rfl
    · exact bi_tupT lm
    · exact bi_tupL lm
  have lp := trim_loop (C := callF P n) (M := []) h l.length 1000 (Nat.le_refl _) hl
  have hv : ∀ C : Caller, ev P C none (.v 0) [some (.d v), none] [] = .ok (.d v) [] := fun C => rfl
  show retOf (exSs P (callF P n) none b37 [some (.d v), none] []) = _
  unfold b37
  rw [exSs, exS, ev, evA, hv]
  simp only [evA, bind_ok, len_row h, st_ok, List.set]
  rw [exSs, exS, lp]
  simp only [exSs, exS]
  rw [ev, evA, sl]
  simp only [evA, bind_ok]
  rw [tp _ _ (by rcases h with e | e <;> cases e <;> simp)]
  rfl
theorem checked {n : Nat} {M : Store} {l : List Int} (hl : l.length ≤ 9) (hr : rowOk l) : callF P (n + 5) 39 none [.d (.tup (l.map .int))] M = .ok (.d (.tup ((trim l).map .int))) M := by
  have rv : RowV (.d (.tup (l.map .int))) l := .inr rfl
  refine callF_pure (I := i39) rfl rfl rfl rfl rfl (M' := []) ?_
  show retOf (exSs P (callF P (n + 4)) none b39 [some (.d (.tup (l.map .int))), none] []) = _
  have t0 : ∀ r : BV.Env, evT P (callF P (n + 4)) none (.and (.tr (.o2 .eq (.bi .len (.cons (.v 0) .nil)) (.c (.int 1)))) (.tr (.bi (.isi [10] []) (.cons (.o2 .get (.v 0) (.c (.int 0))) .nil)))) (some (.d (.tup (l.map .int))) :: r) [] = .ok false [] := fun r => by
    simp only [evT, ev, evA, List.getElem?_cons_zero, bind_ok, len_row rv, op_eqI, t_bl]
    cases q : (l.length : Int) == 1 with
    | false => simp only [Bool.false_eq_true, if_false]
    | true =>
      have e : l.length = 1 := by
        have : (l.length : Int) = 1 := by simpa using q
        omega
      obtain ⟨x, hx⟩ : ∃ x, l[0]? = some x := ⟨l[0]'(by omega), List.getElem?_eq_getElem (by omega)⟩
      have g : f2 P (callF P (n + 4)) .get (.d (.tup (l.map .int))) (.d (.int 0)) [] = .ok (.d (.int x)) [] := get_row rv hx
      simp only [if_true, g, bind_ok]
      rfl
  have lp : ∃ r', loop (rdSeq (.d (.tup (l.map .int))) false) (forB P (callF P (n + 4)) none [1] (.cons (.ex (.call 12 (.cons (.v 1) .nil))) .nil)) (rdLen (rdSeq (.d (.tup (l.map .int))) false) [] + 1) 0 [some (.d (.tup (l.map .int))), none] [] = .ok (.nx r') [] ∧ ∃ w, r' = [some (.d (.tup (l.map .int))), w] := by
    obtain ⟨r', M', h1, h2, h3⟩ := loop_inv (rd := rdSeq (.d (.tup (l.map .int))) false) (its := (l.map D.int).map fun x => [Val.d x]) (body := forB P (callF P (n + 4)) none [1] (.cons (.ex (.call 12 (.cons (.v 1) .nil))) .nil)) (fun _ r M' => M' = [] ∧ ∃ w, r = [some (.d (.tup (l.map .int))), w]) (fun _ _ _ _ => rd_tup) (fun i it r M' hi j => by
      obtain ⟨rfl, w, rfl⟩ := j
      rw [List.map_map, List.getElem?_map] at hi
      cases hx : l[i]? with
      | none => rw [hx] at hi; cases hi
      | some x =>
        rw [hx] at hi
        cases hi
        have hb := hr x (List.mem_of_getElem? hx)
        have nn := need_number (n := n) (M := []) (d := .int x) rfl
        have ib : inD 0 (10 ^ 60 - 1) (.int x) = true := by
          show (decide (0 ≤ x) && decide (x ≤ 10 ^ 60 - 1)) = true
          rw [decide_eq_true hb.1, decide_eq_true hb.2]
          rfl
        rw [ib, if_pos rfl] at nn
        refine ⟨[some (.d (.tup (l.map .int))), some (.d (.int x))], [], .inl ?_, rfl, _, rfl⟩
        rw [forB_eq (r' := [some (.d (.tup (l.map .int))), some (.d (.int x))]) rfl]
        simp only [exSs, exS, ev, evA, List.getElem?_cons_zero, List.getElem?_cons_succ, bind_ok, nn, st_ok]) ((l.map D.int).map fun x => [Val.d x]).length (((l.map D.int).map fun x => [Val.d x]).length + 1) 0 _ [] (by simp) (by omega) ⟨rfl, none, rfl⟩
    have e : rdLen (rdSeq (.d (.tup (l.map .int))) false) [] = ((l.map D.int).map fun x => [Val.d x]).length := by
      unfold rdLen
      rw [rd_tup]
    rw [e]
    rw [h2] at h1
    exact ⟨r', h1, h3⟩
  obtain ⟨r', lp1, w, rfl⟩ := lp
  unfold b39
  rw [exSs, exS, t0]
  simp only [st_ok, Bool.false_eq_true, if_false]
  rw [exSs]
  simp only
  rw [exSs, exS_for, evI]
  simp only [ev, List.getElem?_cons_zero, bind_ok, rd_tup, Option.isSome_some, if_true, st_ok, show (([1] : List Nat).length != 1) = false from rfl]
  rw [lp1]
  have l9 : decide ((9 : Int) < (l.length : Int)) = false := decide_eq_false (by omega)
  have tr := trimmed (n := n + 3) (M := []) rv (by omega)
  simp only [exSs, exS, ev, evT, evA, List.getElem?_cons_zero, bind_ok, len_row rv, op_gt, t_bl, l9, st_ok, Bool.false_eq_true, if_false, tr, retOf, plainV, if_true]
/-! ### houses, parcels -/
abbrev isC (c : Nat) : Prop := c = 12 ∨ c = 13
abbrev insD (c : Nat) (t : List Int) : D := .ins c [.tup (t.map .int)]
theorem at_row {c : Nat} {t : List Int} {C : Caller} {M : Store} (hc : isC c) : f1 P C (.at 35) (.d (insD c t)) M = .ok (.d (.tup (t.map .int))) M := by
  rcases hc with rfl | rfl <;> rfl
theorem init_ok {n c : Nat} {M : Store} {l : List Int} (hc : isC c) (hl : l.length ≤ 9) (hr : rowOk l) : callF P (n + 6) 45 none (.ref M.length :: (l.map D.int).map Val.d) (M ++ [some (.ins c [])]) = .ok (.d .non) (M ++ [some (.ins c [.d (.tup ((trim l).map .int))])]) := by
  refine callF_mut (I := i45) rfl rfl (bind_star rfl rfl rfl (by rw [List.length_map]; unfold lim; omega)) rfl ?_
  show retOf (exSs P (callF P (n + 5)) none b45 [some (.ref M.length), some (.d (.tup (l.map .int)))] (M ++ [some (.ins c [])])) = _
  have ck := checked (n := n) (M := M ++ [some (.ins c [])]) hl hr
  have pf : P.fld c 35 = some 0 := by rcases hc with rfl | rfl <;> rfl
  simp only [b45, exSs, exS, ev, evA, List.getElem?_cons_zero, List.getElem?_cons_succ, bind_ok, ck, st_ok, get_end, pf, plainV, Bool.true_eq_false, if_false, List.length_nil, Nat.lt_irrefl, if_true, List.nil_append, set_end, retOf]
theorem mk_ok {n c : Nat} {M : Store} {l : List Int} (hc : isC c) (hl : l.length ≤ 9) (hr : rowOk l) : fmk P (callF P (n + 6)) c ((l.map D.int).map Val.d) M = .ok (.d (insD c (trim l))) (M ++ [none]) := by
  have pi : P.ini c = some 45 := by rcases hc with rfl | rfl <;> rfl
  have pz : P.frz c = some true := by rcases hc with rfl | rfl <;> rfl
  unfold fmk
  rw [pi]
  simp only [init_ok hc hl hr, pz, f1, get_end, allD, set_end]
  first | done | rfl
/-! ### what is asked of them -/
theorem sz_ok {k : Nat} (h1 : 1 ≤ k) (h2 : k ≤ 9) : inD 1 9 (.int k) = true := by
  show (decide ((1 : Int) ≤ k) && decide ((k : Int) ≤ 9)) = true
  rw [decide_eq_true (by omega), decide_eq_true (by omega)]
  rfl
theorem between_ok {n c a b : Nat} {M : Store} {t : List Int} (hc : isC c) (ht : t.length ≤ 9) (h1 : 1 ≤ a) (h2 : a ≤ 9) (h3 : 1 ≤ b) (h4 : b ≤ 9) : callF P (n + 5) 52 none [.d (insD c t), .d (.int a), .d (.int b)] M = .ok (.d (.int ((t.take (b - 1)).drop (a - 1)).sum)) M := by
  refine callF_pure (I := i52) rfl rfl rfl rfl rfl (M' := []) ?_
  show retOf (exSs P (callF P (n + 4)) none b52 [some (.d (insD c t)), some (.d (.int a)), some (.d (.int b))] []) = _
  have ns := need_size (n := n) (M := []) (d := .int a) rfl
  rw [sz_ok h1 h2, if_pos rfl] at ns
  have ns2 := need_size (n := n) (M := []) (d := .int b) rfl
  rw [sz_ok h3 h4, if_pos rfl] at ns2
  have e1 : (a : Int) - 1 = ((a - 1 : Nat) : Int) := by omega
  have e2 : (b : Int) - 1 = ((b - 1 : Nat) : Int) := by omega
  have ct : cut (t.map D.int) (some ((a - 1 : Nat) : Int)) (some ((b - 1 : Nat) : Int)) = ((t.take (b - 1)).drop (a - 1)).map D.int := by
    rw [cut_nat (a - 1) (b - 1) (.inl rfl) (.inl rfl), List.map_drop, List.map_take]
  have lm : (((t.take (b - 1)).drop (a - 1)).map D.int).length ≤ lim := by
    rw [List.length_map, List.length_drop, List.length_take]
    unfold lim
    omega
  simp only [b52, exSs, exS, ev, evA, evO, List.getElem?_cons_zero, List.getElem?_cons_succ, bind_ok, ns, ns2, st_ok, at_row hc, op_sub, e1, e2, ct, newT_ints lm, bi_sumT, retOf, plainV, if_true]
theorem between_bad1 {n c : Nat} {M : Store} {t : List Int} {d e : D} (hd : okD d = true) (he : okD e = true) (h : inD 1 9 d = false) : callF P (n + 5) 52 none [.d (insD c t), .d d, .d e] M = .ex 2 [d] M := by
  refine callF_pureX (I := i52) rfl rfl rfl rfl rfl (M' := []) ?_
  show retOf (exSs P (callF P (n + 4)) none b52 [some (.d (insD c t)), some (.d d), some (.d e)] []) = _
  have ns := need_size (n := n) (M := []) hd
  rw [h, if_neg (by decide)] at ns
  simp only [b52, exSs, exS, ev, evA, List.getElem?_cons_zero, List.getElem?_cons_succ, bind_ok, ns, st_ex, retOf]
theorem between_bad2 {n c a : Nat} {M : Store} {t : List Int} {e : D} (he : okD e = true) (h1 : 1 ≤ a) (h2 : a ≤ 9) (h : inD 1 9 e = false) : callF P (n + 5) 52 none [.d (insD c t), .d (.int a), .d e] M = .ex 2 [e] M := by
  refine callF_pureX (I := i52) rfl rfl rfl rfl rfl (M' := []) ?_
  show retOf (exSs P (callF P (n + 4)) none b52 [some (.d (insD c t)), some (.d (.int a)), some (.d e)] []) = _
  have ns := need_size (n := n) (M := []) (d := .int a) rfl
  rw [sz_ok h1 h2, if_pos rfl] at ns
  have ns2 := need_size (n := n) (M := []) he
  rw [h, if_neg (by decide)] at ns2
  simp only [b52, exSs, exS, ev, evA, List.getElem?_cons_zero, List.getElem?_cons_succ, bind_ok, ns, ns2, st_ok, st_ex, retOf]
theorem of_size_ok {n c k : Nat} {M : Store} {t : List Int} (hc : isC c) (h1 : 1 ≤ k) : callF P (n + 1) 49 none [.d (insD c t), .d (.int k)] M = .ok (.d (.int ((t[k - 1]?).getD 0))) M := by
  refine callF_pure (I := i49) rfl rfl rfl rfl rfl (M' := []) ?_
  show retOf (exSs P (callF P n) none b49 [some (.d (insD c t)), some (.d (.int k))] []) = _
  have rv : RowV (.d (.tup (t.map .int))) t := .inr rfl
  have e1 : (k : Int) - 1 = ((k - 1 : Nat) : Int) := by omega
  by_cases h : k ≤ t.length
  · have hx : t[k - 1]? = some (t[k - 1]'(by omega)) := List.getElem?_eq_getElem (by omega)
    have g := get_row (C := callF P n) (M := []) rv hx
    simp only [b49, exSs, exS, ev, evA, evT, List.getElem?_cons_zero, List.getElem?_cons_succ, bind_ok, st_ok, at_row hc, len_row rv, op_le, t_bl, decide_eq_true (show (k : Int) ≤ (t.length : Int) by omega), if_true, op_sub, e1, g, retOf, plainV, hx, Option.getD_some]
  · have hx : t[k - 1]? = none := List.getElem?_eq_none (by omega)
    simp only [b49, exSs, exS, ev, evA, evT, List.getElem?_cons_zero, List.getElem?_cons_succ, bind_ok, st_ok, at_row hc, len_row rv, op_le, t_bl, decide_eq_false (show ¬ (k : Int) ≤ (t.length : Int) by omega), Bool.false_eq_true, if_false, retOf, plainV, if_true, hx, Option.getD_none]
end L16

set_option Elab.async false
set_option maxRecDepth 100000
set_option maxHeartbeats 4000000
namespace BW
end BW
namespace L16
open PySem BV BW
theorem need_sizeI {n : Nat} {k : Int} {M : Store} (h1 : 1 ≤ k) (h2 : k ≤ 9) : callF P (n + 4) 13 none [.d (.int k)] M = .ok (.d .non) M := by
  rw [need_size rfl, if_pos (in_ok h1 h2)]
theorem need_sizeX {n : Nat} {d : D} {M : Store} (h : okD d = true) (h2 : inD 1 9 d = false) : callF P (n + 4) 13 none [.d d] M = .ex 2 [d] M := by
  rw [need_size h, if_neg (by rw [h2]; simp)]
theorem need_numberI {n : Nat} {k : Int} {M : Store} (h1 : 0 ≤ k) (h2 : k ≤ 10 ^ 60 - 1) : callF P (n + 4) 12 none [.d (.int k)] M = .ok (.d .non) M := by
  rw [need_number rfl, if_pos (in_ok h1 h2)]
theorem need_numberX {n : Nat} {d : D} {M : Store} (h : okD d = true) (h2 : inD 0 (10 ^ 60 - 1) d = false) : callF P (n + 4) 12 none [.d d] M = .ex 1 [d] M := by
  rw [need_number h, if_neg (by rw [h2]; simp)]
theorem of_sizeI {n c : Nat} {k : Int} {M : Store} {t : List Int} (hc : isC c) (h1 : 1 ≤ k) : callF P (n + 1) 49 none [.d (insD c t), .d (.int k)] M = .ok (.d (.int (ati t (k - 1)))) M := by
  have z := of_size_ok (n := n) (M := M) (t := t) (k := k.toNat) hc (by omega)
  rw [Int.toNat_of_nonneg (by omega)] at z
  rw [z]
  unfold ati
  rw [show k.toNat - 1 = (k - 1).toNat by omega]
/-- another number of one size -/
def putL (t : List Int) (s x : Int) : List Int := (List.range 9).map fun (k : Nat) => if ((k : Int) + 1 == s) = true then x else ati t k
theorem putL_len {t : List Int} {s x : Int} : (putL t s x).length = 9 := by unfold putL; simp
/-- so many of each size and more, less x -/
def lessU (t : List Int) (x : Int) (k : Nat) : Int := if x < U t k then U t k - x else 0
theorem law_pen {n : Nat} {M : Store} {s : List Int} : callF P (n + 1) 101 none [.d (.scr (s.map .int))] M = .ok (.ref M.length) (M ++ [some (penC (s.take 63) 0 0)]) := by
  refine callF_mut (I := i101) rfl rfl rfl rfl ?_
  show retOf (exSs P (callF P n) none b101 [some (.d (.scr (s.map .int)))] M) = _
  have ct : cut (s.map D.int) none (some (63 : Int)) = (s.take 63).map D.int := by
    refine (cut_nat 0 63 (.inr ⟨rfl, rfl⟩) (.inl rfl)).trans ?_
    rw [List.drop_zero, List.map_take]
  have lm : ((s.take 63).map D.int).length ≤ lim := by
    rw [List.length_map, List.length_take]
    unfold lim
    omega
  simp only [b101, exSs, exS, ev, evA, evO, List.getElem?_cons_zero, bind_ok, ct, newL_ints lm, bi_listL lm, st_ok]
  rfl
theorem draw {n p K : Nat} {M : Store} {many : Int} (hp : PenOk K M p) (hK : K < 1000000) (hm : divOk many = true) : ∃ v M', callF P (n + 1) 102 none [.ref p, .d (.int many)] M = .ok (.d (.int v)) M' ∧ 0 ≤ v ∧ v < many ∧ PenOk (K + 1) M' p ∧ Only p M M' :=
  draw_ok (A := 88032) (B := 3692) (M1 := 2147483549) (A2 := 80088) (B2 := 3692) (M2 := 2147483629) (C2 := 843) (A3 := 71864) (B3 := 80088) (M3 := 2147483587) rfl (by decide) hp hK hm
theorem pick {n p K : Nat} {M : Store} {l : List D} (hp : PenOk K M p) (hK : K < 1000000) (h0 : 0 < l.length) (h1 : l.length < 1000000) : ∃ x M', callF P (n + 2) 103 none [.ref p, .d (.lst l)] M = .ok (.d x) M' ∧ x ∈ l ∧ PenOk (K + 1) M' p ∧ Only p M M' := by
  obtain ⟨v, M', e1, e2, e3, e4, e5⟩ := draw (n := n) (many := (l.length : Int)) hp hK (divOk_small (by omega) (by omega))
  have hv : v.toNat < l.length := by omega
  refine ⟨l[v.toNat], M', ?_, List.getElem_mem _, e4, e5⟩
  refine callF_mut (I := i103) rfl rfl rfl rfl ?_
  show retOf (exSs P (callF P (n + 1)) none b103 [some (.ref p), some (.d (.lst l))] M) = _
  have g : f2 P (callF P (n + 1)) .get (.d (.lst l)) (.d (.int v)) M' = .ok (.d l[v.toNat]) M' := get_dat (.inl rfl) e2 (List.getElem?_eq_getElem hv)
  simp only [b103, exSs, exS, ev, evA, List.getElem?_cons_zero, List.getElem?_cons_succ, bind_ok, bi_lenL, e1, g, st_ok, retOf, plainV, if_true]
/-! ### limits, walked -/
abbrev insL (r : List Int) : D := .ins 14 [.tup (r.map .int)]
theorem checked_lim {n : Nat} {M : Store} {l : List Int} (hl : l.length ≤ 9) (hr : rowOk l) (hd : desc l) : callF P (n + 5) 75 none [.d (.tup (l.map .int))] M = .ok (.d (.tup ((trim l).map .int))) M := by
  refine pure_Z (I := i75) rfl rfl rfl rfl rfl ?_
  simp only [i75, startE, List.map_cons, List.map_nil, List.length_cons, List.length_nil, Nat.reduceAdd, Nat.reduceSub, List.reduceReplicate, List.cons_append, List.nil_append, List.drop_zero, List.drop_nil, List.append_nil, Nat.add_zero]; unfold b75
  have tr : ∀ M, callF P (n + 4) 37 none [.d (.tup (l.map .int))] M = .ok (.d (.tup ((trim l).map .int))) M := fun M => trimmed (n := n + 3) (.inr rfl) (by omega)
  cases h1 : ((l.length : Int) == 1)
  case' false => simp (disch := first | assumption | omega | exact Or.inl rfl | exact Or.inr rfl | (with_unfolding_all exact rfl) | decide) only [BW.WB, WL, if_true, Bool.false_eq_true, if_false, Bool.not_true, Bool.not_false, List.length_map, List.set_cons_zero, List.set_cons_succ, List.getElem?_cons_zero, List.getElem?_cons_succ, beq_self_eq_true, and_self, and_true, true_and, h1]
  case' true =>
    have h0 : (l.length : Int) = 1 := by simpa using h1
    simp (disch := first | assumption | omega | exact Or.inl rfl | exact Or.inr rfl | (with_unfolding_all exact rfl) | decide) only [BW.WB, WL, if_true, Bool.false_eq_true, if_false, Bool.not_true, Bool.not_false, List.length_map, List.set_cons_zero, List.set_cons_succ, List.getElem?_cons_zero, List.getElem?_cons_succ, beq_self_eq_true, and_self, and_true, true_and, h1]
  all_goals
    refine w_tup0 (l := l.map .int) (by simp (disch := first | assumption | omega | exact Or.inl rfl | exact Or.inr rfl | (with_unfolding_all exact rfl) | decide) only [BW.WB, WL, if_true, Bool.false_eq_true, if_false, Bool.not_true, Bool.not_false, List.length_map, List.set_cons_zero, List.set_cons_succ, List.getElem?_cons_zero, List.getElem?_cons_succ, beq_self_eq_true, and_self, and_true, true_and] <;> rfl) rfl (fun i x hx => ?_) (fun y => ?_)
    · rw [List.getElem?_map] at hx
      obtain ⟨z, hz, rfl⟩ := Option.map_eq_some_iff.mp hx
      obtain ⟨z0, z1⟩ := hr z (List.mem_of_getElem? hz)
      simp (disch := first | assumption | omega | exact Or.inl rfl | exact Or.inr rfl | (with_unfolding_all exact rfl) | decide) only [BW.WB, WL, if_true, Bool.false_eq_true, if_false, Bool.not_true, Bool.not_false, List.length_map, List.set_cons_zero, List.set_cons_succ, List.getElem?_cons_zero, List.getElem?_cons_succ, beq_self_eq_true, and_self, and_true, true_and, need_numberI]
    · simp (disch := first | assumption | omega | exact Or.inl rfl | exact Or.inr rfl | (with_unfolding_all exact rfl) | decide) only [BW.WB, WL, if_true, Bool.false_eq_true, if_false, Bool.not_true, Bool.not_false, List.length_map, List.set_cons_zero, List.set_cons_succ, List.getElem?_cons_zero, List.getElem?_cons_succ, beq_self_eq_true, and_self, and_true, true_and]
      refine w_rng0 (lo := 1) (n := ((l.length : Int) - 1).toNat) (by simp (disch := first | assumption | omega | exact Or.inl rfl | exact Or.inr rfl | (with_unfolding_all exact rfl) | decide) only [BW.WB, WL, if_true, Bool.false_eq_true, if_false, Bool.not_true, Bool.not_false, List.length_map, List.set_cons_zero, List.set_cons_succ, List.getElem?_cons_zero, List.getElem?_cons_succ, beq_self_eq_true, and_self, and_true, true_and] <;> rfl) rfl (fun i hi => ?_) (fun y => ?_)
      · have h1 : i + 1 < l.length := by omega
        have h2 := hd i h1
        have e2 : (1 : Int) + (i : Int) = ((i + 1 : Nat) : Int) := by omega
        have e3 : ((i + 1 : Nat) : Int) - 1 = (i : Int) := by omega
        have h3 : decide (ati l (i : Int) < ati l ((i + 1 : Nat) : Int)) = false := decide_eq_false (by omega)
        simp (disch := first | assumption | omega | exact Or.inl rfl | exact Or.inr rfl | (with_unfolding_all exact rfl) | decide) only [BW.WB, WL, if_true, Bool.false_eq_true, if_false, Bool.not_true, Bool.not_false, List.length_map, List.set_cons_zero, List.set_cons_succ, List.getElem?_cons_zero, List.getElem?_cons_succ, beq_self_eq_true, and_self, and_true, true_and, e2, e3, h3]
      · have h9 : decide ((9 : Int) < (l.length : Int)) = false := decide_eq_false (by omega)
        simp (disch := first | assumption | omega | exact Or.inl rfl | exact Or.inr rfl | (with_unfolding_all exact rfl) | decide) only [BW.WB, WL, if_true, Bool.false_eq_true, if_false, Bool.not_true, Bool.not_false, List.length_map, List.set_cons_zero, List.set_cons_succ, List.getElem?_cons_zero, List.getElem?_cons_succ, beq_self_eq_true, and_self, and_true, true_and, h9, tr]
theorem init_lim {n : Nat} {M : Store} {l : List Int} (hl : l.length ≤ 9) (hr : rowOk l) (hd : desc l) : callF P (n + 6) 78 none (.ref M.length :: (l.map D.int).map Val.d) (M ++ [some (.ins 14 [])]) = .ok (.d .non) (M ++ [some (.ins 14 [.d (.tup ((trim l).map .int))])]) := by
  refine callF_mut (I := i78) rfl rfl (vs := [.ref M.length, .d (.tup (l.map .int))]) (bind_star rfl rfl rfl (by rw [List.length_map]; exact lim_le (by omega))) rfl ?_
  show retOf (exSs P (callF P (n + 5)) none b78 [some (.ref M.length), some (.d (.tup (l.map .int)))] (M ++ [some (.ins 14 [])])) = _
  have ck := checked_lim (n := n) (M := M ++ [some (.ins 14 [])]) hl hr hd
  have pf : P.fld 14 35 = some 0 := rfl
  simp only [b78, exSs, exS, ev, evA, List.getElem?_cons_zero, List.getElem?_cons_succ, bind_ok, ck, st_ok, get_end, pf, plainV, Bool.true_eq_false, if_false, List.length_nil, Nat.lt_irrefl, if_true, List.nil_append, set_end, retOf]
theorem mk_lim {n : Nat} {M : Store} {l : List Int} (hl : l.length ≤ 9) (hr : rowOk l) (hd : desc l) : fmk P (callF P (n + 6)) 14 ((l.map D.int).map Val.d) M = .ok (.d (insL (trim l))) (M ++ [none]) := by
  unfold fmk
  rw [show P.ini 14 = some 78 from rfl]
  simp only [init_lim hl hr hd, show P.frz 14 = some true from rfl, f1, get_end, allD, set_end]
theorem ofLL {n : Nat} {M : Store} {l : List Int} (hl : l.length ≤ 9) (hr : rowOk l) (hd : desc l) : callF P (n + 7) 79 none [.d (.cls 14), .d (.lst (l.map .int))] M = .ok (.d (insL (trim l))) M := by
  have mk := mk_lim (n := n) (M := []) hl hr hd
  have pi : (P.ini 14).isSome = true := rfl
  have sq : seqOf [] (.d (.lst (l.map .int))) = some ((l.map D.int).map Val.d) := rfl
  refine pure_Z (I := i79) rfl rfl rfl rfl rfl ?_
  simp only [i79, startE, List.map_cons, List.map_nil, List.length_cons, List.length_nil, Nat.reduceAdd, Nat.reduceSub, List.reduceReplicate, List.cons_append, List.nil_append, List.drop_zero, List.drop_nil, List.append_nil, Nat.add_zero]; unfold b79
  simp (disch := first | assumption | omega | exact Or.inl rfl | exact Or.inr rfl | (with_unfolding_all exact rfl) | decide) only [BW.WB, WL, if_true, Bool.false_eq_true, if_false, Bool.not_true, Bool.not_false, List.length_map, List.set_cons_zero, List.set_cons_succ, List.getElem?_cons_zero, List.getElem?_cons_succ, beq_self_eq_true, and_self, and_true, true_and]
  simp only [ev, evA, List.getElem?_cons_zero, List.getElem?_cons_succ, bind_ok, pi, if_true, sq, List.append_nil, mk, st_ok]
  simp (disch := first | assumption | omega | exact Or.inl rfl | exact Or.inr rfl | (with_unfolding_all exact rfl) | decide) only [BW.WB, WL, if_true, Bool.false_eq_true, if_false, Bool.not_true, Bool.not_false, List.length_map, List.set_cons_zero, List.set_cons_succ, List.getElem?_cons_zero, List.getElem?_cons_succ, beq_self_eq_true, and_self, and_true, true_and]
theorem lim_size {n : Nat} {k : Int} {M : Store} {r : List Int} (h1 : 1 ≤ k) : callF P (n + 1) 83 none [.d (insL r), .d (.int k)] M = .ok (.d (.int (ati r (k - 1)))) M := by
  refine pure_Z (I := i83) rfl rfl rfl rfl rfl ?_
  simp only [i83, startE, List.map_cons, List.map_nil, List.length_cons, List.length_nil, Nat.reduceAdd, Nat.reduceSub, List.reduceReplicate, List.cons_append, List.nil_append, List.drop_zero, List.drop_nil, List.append_nil, Nat.add_zero]; unfold b83
  cases h : decide (k ≤ (r.length : Int)) with
  | true =>
    have h' := of_decide_eq_true h
    simp (disch := first | assumption | omega | exact Or.inl rfl | exact Or.inr rfl | (with_unfolding_all exact rfl) | decide) only [BW.WB, WL, if_true, Bool.false_eq_true, if_false, Bool.not_true, Bool.not_false, List.length_map, List.set_cons_zero, List.set_cons_succ, List.getElem?_cons_zero, List.getElem?_cons_succ, beq_self_eq_true, and_self, and_true, true_and, h]
  | false =>
    have h' := of_decide_eq_false h
    have e : ati r (k - 1) = 0 := by
      unfold ati
      rw [List.getElem?_eq_none (by omega)]
      rfl
    simp (disch := first | assumption | omega | exact Or.inl rfl | exact Or.inr rfl | (with_unfolding_all exact rfl) | decide) only [BW.WB, WL, if_true, Bool.false_eq_true, if_false, Bool.not_true, Bool.not_false, List.length_map, List.set_cons_zero, List.set_cons_succ, List.getElem?_cons_zero, List.getElem?_cons_succ, beq_self_eq_true, and_self, and_true, true_and, h, e]
theorem lim_get {n : Nat} {k : Int} {M : Store} {r : List Int} (h1 : 1 ≤ k) (h2 : k ≤ 9) : callF P (n + 5) 84 none [.d (insL r), .d (.int k)] M = .ok (.d (.int (ati r (k - 1)))) M := by
  refine pure_Z (I := i84) rfl rfl rfl rfl rfl ?_
  simp only [i84, startE, List.map_cons, List.map_nil, List.length_cons, List.length_nil, Nat.reduceAdd, Nat.reduceSub, List.reduceReplicate, List.cons_append, List.nil_append, List.drop_zero, List.drop_nil, List.append_nil, Nat.add_zero]; unfold b84
  simp (disch := first | assumption | omega | exact Or.inl rfl | exact Or.inr rfl | (with_unfolding_all exact rfl) | decide) only [BW.WB, WL, if_true, Bool.false_eq_true, if_false, Bool.not_true, Bool.not_false, List.length_map, List.set_cons_zero, List.set_cons_succ, List.getElem?_cons_zero, List.getElem?_cons_succ, beq_self_eq_true, and_self, and_true, true_and, need_sizeI, lim_size]
end L16

set_option Elab.async false
set_option maxRecDepth 100000
set_option maxHeartbeats 4000000
namespace BW
end BW
namespace L16
open PySem BV BW
/-! ### drawn rows -/
theorem mulm_1 {P : Pg} {C : Caller} {M : Store} {x k : Int} (h : k ≤ 16777216) (h1 : -16777216 ≤ k) : f2 P C .mulm (.d (.lst [.int x])) (.d (.int k)) M = .ok (.ref M.length) (M ++ [cellI (List.replicate k.toNat x)]) := by
  have fl : ∀ n : Nat, (List.replicate n [D.int x]).flatten = (List.replicate n x).map D.int := fun n => by
    induction n with
    | zero => rfl
    | succ n ih => rw [List.replicate_succ, List.flatten_cons, ih]; rfl
  show (if [D.int x].length * k.toNat ≤ lim ∧ -(2 ^ 63) ≤ k ∧ k < 2 ^ 63 then newL true ((List.replicate k.toNat [D.int x]).flatten.map Val.d) M else .no) = _
  rw [if_pos ⟨by simp only [List.length_cons, List.length_nil]; exact lim_le (by omega), by omega, by omega⟩, fl]
  exact newL_mut (by rw [List.length_map, List.length_map, List.length_replicate]; exact lim_le (by omega)) plain_map
theorem cp_draws {P : Pg} {C : Caller} {q : Asker} {r : BV.Env} {M M1 : Store} {it : It} {tg : List Nat} {e : E} {rd : Rd} {its : List (List Val)} (J : Nat → Store → Prop) (Q : List Val → Int → Prop) (h1 : evI P C q it (tg.length != 1) r M = .ok rd M1) (h2 : ∀ M', rd M' = some its) (hl : its.length ≤ 16777216) (j0 : J 0 M1)
    (hb : ∀ k item M', its[k]? = some item → J k M' → ∃ r' x M'', setAll tg item (wipeE tg (dropX r)) = some r' ∧ ev P C q e r' M' = .ok (.d (.int x)) M'' ∧ Q item x ∧ J (k + 1) M'') :
    ∃ (l : List Int) (M2 : Store), ev P C q (.cp false it tg .nil e) r M = .ok (.d (.lst (l.map .int))) M2 ∧ l.length = its.length ∧ (∀ (k : Nat) (x : Int), l[k]? = some x → ∃ item, its[k]? = some item ∧ Q item x) ∧ J its.length M2 := by
  obtain ⟨acc, M2, k1, l, rfl, k3, k4, k5⟩ := cloop_inv (rd := rd) (its := its) (body := cpB P C q tg .nil e r) (fun i acc M' => ∃ l : List Int, acc = (l.map D.int).map Val.d ∧ l.length = i ∧ (∀ (k : Nat) (x : Int), l[k]? = some x → ∃ item, its[k]? = some item ∧ Q item x) ∧ J i M') (fun _ _ M' _ => h2 M') (fun i item acc M' hi j => by
    obtain ⟨l, rfl, h3, h4, h5⟩ := j
    have hlt := (List.getElem?_eq_some_iff.mp hi).1
    obtain ⟨r', x, M'', b1, b2, b3, b4⟩ := hb i item M' hi h5
    refine ⟨.d (.int x), M'', cpB_nil b1 b2, ?_, rfl, l ++ [x], by simp, by simp [h3], fun k y hk => ?_, b4⟩
    · rw [List.length_map, List.length_map, h3]
      unfold lim
      omega
    · by_cases z : k < l.length
      · rw [List.getElem?_append_left z] at hk
        exact h4 k y hk
      · have hk2 := (List.getElem?_eq_some_iff.mp hk).1
        rw [List.length_append] at hk2
        have hk3 : k = l.length := by
          have : [x].length = 1 := rfl
          omega
        subst hk3
        rw [List.getElem?_append_right (Nat.le_refl _), Nat.sub_self] at hk
        cases hk
        exact ⟨item, by rw [h3]; exact hi, b3⟩) its.length (its.length + 1) 0 [] M1 (by omega) (by omega) ⟨[], rfl, rfl, (by intro k x h; cases h), j0⟩
  refine ⟨l, M2, ?_, k3, k4, k5⟩
  have el : rdLen rd M1 = its.length := by
    unfold rdLen
    rw [h2]
  rw [ev_cp, h1, bind_ok, el, k1, bind_ok]
  exact newL_ints (by rw [List.length_map, k3]; exact hl)
theorem get_set {M : Store} {q : Nat} {a c : Option Cell} (h : M[q]? = some a) : (M.set q c)[q]? = some c := by
  rw [List.getElem?_set_self]
  exact (List.getElem?_eq_some_iff.mp h).1
theorem ati_snoc1 {l : List Int} {x : Int} {i : Nat} (h : i < l.length) : ati (l ++ [x]) (i : Int) = ati l (i : Int) := by
  rw [ati_nat, ati_nat, List.getElem?_append_left h]
theorem ati_snoc2 {l : List Int} {x : Int} : ati (l ++ [x]) (l.length : Int) = x := by
  rw [ati_nat, List.getElem?_append_right (Nat.le_refl _), Nat.sub_self]
  rfl
theorem desc_nil : desc [] := fun i h => absurd h (by simp)
theorem desc_snoc {l : List Int} {x : Int} (h : desc l) (hx : l = [] ∨ x ≤ ati l ((l.length : Int) - 1)) : desc (l ++ [x]) := fun i hi => by
  rw [List.length_append] at hi
  have h1 : [x].length = 1 := rfl
  by_cases z : i + 1 < l.length
  · rw [ati_snoc1 z, ati_snoc1 (by omega)]
    exact h i z
  · have e : i + 1 = l.length := by omega
    rw [show ((i + 1 : Nat) : Int) = (l.length : Int) by omega, ati_snoc2, ati_snoc1 (by omega)]
    rcases hx with rfl | hx
    · exact absurd e (by simp)
    · rw [show (i : Int) = (l.length : Int) - 1 by omega]
      exact hx
theorem desc_dropLast {l : List Int} (h : desc l) : desc l.dropLast := fun i hi => by
  rw [List.length_dropLast] at hi
  have e : ∀ k : Nat, k < l.length - 1 → ati l.dropLast (k : Int) = ati l (k : Int) := fun k hk => by
    rw [ati_nat, ati_nat, List.dropLast_eq_take, List.getElem?_take_of_lt hk]
  rw [e _ hi, e _ (by omega)]
  exact h i (by omega)
abbrev boxed (b : Int) (l : List Int) : Prop := ∀ x ∈ l, 0 ≤ x ∧ x ≤ b
theorem boxed_snoc {b x : Int} {l : List Int} (h : boxed b l) (h0 : 0 ≤ x) (h1 : x ≤ b) : boxed b (l ++ [x]) := fun y hy => by
  rcases List.mem_append.mp hy with hy | hy
  · exact h y hy
  · rw [List.mem_singleton.mp hy]
    exact ⟨h0, h1⟩
theorem boxed_set {b y : Int} {l : List Int} {i : Nat} (h : boxed b l) (h0 : 0 ≤ y) (h1 : y ≤ b) : boxed b (l.set i y) := fun x hx => by
  rcases List.mem_or_eq_of_mem_set hx with h' | h'
  · exact h x h'
  · rw [h']
    exact ⟨h0, h1⟩
theorem boxed_mono {b c : Int} {l : List Int} (h : boxed b l) (hc : b ≤ c) : boxed c l := fun x hx => by
  have := h x hx
  omega
theorem boxed_ati {b : Int} {l : List Int} (h : boxed b l) (hb : 0 ≤ b) (i : Int) : 0 ≤ ati l i ∧ ati l i ≤ b := ati_mem (Q := fun x => 0 ≤ x ∧ x ≤ b) ⟨by decide, hb⟩ h i
theorem int_bool {P : Pg} {C : Caller} {M : Store} (s : Int) : ∃ z : Int, (∀ (C : Caller) (M : Store), fbi P C .int [.d (.bl (decide (s > 0)))] M = .ok (.d (.int z)) M) ∧ (z = 0 ∨ z = 1 ∧ 0 < s) := by
  cases hg : decide (s > 0)
  · exact ⟨0, fun _ _ => rfl, .inl rfl⟩
  · exact ⟨1, fun _ _ => rfl, .inr ⟨rfl, of_decide_eq_true hg⟩⟩
theorem ofH16 {n : Nat} {M : Store} {l : List Int} (hl : l.length ≤ 9) (hr : rowOk l) : callF P (n + 7) 69 none [.d (.cls 12), .d (.lst (l.map .int))] M = .ok (.d (insD 12 (trim l))) M := by
  have nr : callF P (n + 6) 41 none [.d (.lst (l.map .int))] [] = .ok (.d .non) [] := rfl
  have mk := mk_ok (n := n) (M := []) (c := 12) (.inl rfl) hl hr
  have pi : (P.ini 12).isSome = true := rfl
  have sq : seqOf [] (.d (.lst (l.map .int))) = some ((l.map D.int).map Val.d) := rfl
  have body : retOf (exSs P (callF P (n + 6)) none b69 [some (.d (.cls 12)), some (.d (.lst (l.map .int)))] []) = .ok (.d (insD 12 (trim l))) [none] := by
    simp only [b69, exSs, exS, ev, evA, List.getElem?_cons_zero, List.getElem?_cons_succ, bind_ok, nr, st_ok, pi, if_true, sq, List.append_nil, mk, retOf, plainV]
    rfl
  exact callF_pure (I := i69) rfl rfl rfl rfl rfl body
theorem told {n p K : Nat} {M : Store} {w t : Int} (hp : PenOk K M p) (hK : K < 700000) (w0 : 0 ≤ w) (w1 : w ≤ 9) (t0 : 0 ≤ t) (t1 : t ≤ 9) :
    ∃ v M', callF P (n + 3) 104 none [.ref p, .d (.int w), .d (.int t)] M = .ok v M' ∧ ∃ l : List Int, v = .d (.lst (l.map .int)) ∧ (l.length : Int) ≤ w ∧ desc l ∧ boxed t l ∧ PenOk (K + 30) M' p := by
  have hn : M.length ≠ p := by have := pen_lt hp; omega
  obtain ⟨v, M1, e1, v0, v1, p1, o1⟩ := draw (n := n + 1) (many := w + 1) (pen_app (l := [some (.lst [])]) hp) (by omega) (divOk_small (by omega) (by omega))
  have hq : M1[M.length]? = some (cellI []) := (o1.2 _ hn).trans get_end
  refine mut_Z (I := i104) rfl rfl rfl rfl ?_
  simp only [i104, startE, List.map_cons, List.map_nil, List.length_cons, List.length_nil, Nat.reduceAdd, Nat.reduceSub, List.reduceReplicate, List.cons_append, List.nil_append, List.drop_zero, List.drop_nil, List.append_nil, Nat.add_zero]; unfold b104
  simp (disch := first | assumption | omega | exact Or.inl rfl | exact Or.inr rfl | (with_unfolding_all exact rfl) | decide) only [BW.WB, WL, if_true, Bool.false_eq_true, if_false, Bool.not_true, Bool.not_false, List.length_map, List.set_cons_zero, List.set_cons_succ, List.getElem?_cons_zero, List.getElem?_cons_succ, beq_self_eq_true, and_self, and_true, true_and]
  refine w_rng (lo := 0) (n := v.toNat) (by simp (disch := first | assumption | omega | exact Or.inl rfl | exact Or.inr rfl | (with_unfolding_all exact rfl) | decide) only [BW.WB, WL, if_true, Bool.false_eq_true, if_false, Bool.not_true, Bool.not_false, List.length_map, List.set_cons_zero, List.set_cons_succ, List.getElem?_cons_zero, List.getElem?_cons_succ, beq_self_eq_true, and_self, and_true, true_and, e1] <;> rfl) (fun i r M' => ∃ l : List Int, M'[M.length]? = some (cellI l) ∧ l.length = i ∧ desc l ∧ boxed t l ∧ PenOk (K + 1 + 2 * i) M' p ∧ ∃ y4 y5, r = [some (.ref p), some (.d (.int w)), some (.d (.int t)), some (.ref M.length), y4, y5]) ⟨[], hq, rfl, desc_nil, (by intro x hx; cases hx), p1, _, _, rfl⟩ ?_ ?_
  · rintro i r M' hi ⟨l, hq', hl, hd, hb, hp', y4, y5, rfl⟩
    have hl2 : l.length < 16777216 := by omega
    have r1 := rcv_C (k := .append) hq' (.inl rfl)
    cases he : l.isEmpty
    · have hs : 0 ≤ (ati l ((l.length : Int) - 1)) ∧ (ati l ((l.length : Int) - 1)) ≤ t := by first | exact boxed_ati hb t0 _ | exact ⟨t0, Int.le_refl _⟩
      have hpos : false = true ∨ 0 < l.length := by
        cases l with
        | nil => first | exact .inl rfl | cases he
        | cons => exact .inr (by simp)
      have hpos2 : false = false → 0 < l.length := fun h => by rcases hpos with h' | h' <;> simp_all
      obtain ⟨hs0, hs1⟩ := hs
      obtain ⟨d, M2, e2, d0, d1, p2, o2⟩ := draw (n := n + 1) (many := (ati l ((l.length : Int) - 1)) + 1) hp' (by omega) (divOk_small (by omega) (by omega))
      obtain ⟨z, hz, z1⟩ := int_bool (P := P) (C := callF P (n + 2)) (M := M2) (ati l ((l.length : Int) - 1))
      obtain ⟨x, M3, e3, hx, p3, o3⟩ := pick (n := n) (l := [.int (ati l ((l.length : Int) - 1)), .int d, .int ((ati l ((l.length : Int) - 1)) - z)]) p2 (by omega) (by show 0 < 3; decide) (by show 3 < 1000000; decide)
      obtain ⟨y, rfl, y0, y1⟩ : ∃ y : Int, x = .int y ∧ 0 ≤ y ∧ y ≤ (ati l ((l.length : Int) - 1)) := by
        simp only [List.mem_cons, List.not_mem_nil, or_false] at hx
        rcases hx with rfl | rfl | rfl
        · exact ⟨_, rfl, hs0, Int.le_refl _⟩
        · exact ⟨_, rfl, d0, by omega⟩
        · exact ⟨_, rfl, by omega, by omega⟩
      have hq3 : M3[M.length]? = some (cellI l) := (o3.2 _ hn).trans ((o2.2 _ hn).trans hq')
      first
        | (have hpl : 0 < l.length := hpos2 rfl
           simp (disch := first | assumption | omega | exact Or.inl rfl | exact Or.inr rfl | (with_unfolding_all exact rfl) | decide) only [BW.WB, WL, if_true, Bool.false_eq_true, if_false, Bool.not_true, Bool.not_false, List.length_map, List.set_cons_zero, List.set_cons_succ, List.getElem?_cons_zero, List.getElem?_cons_succ, beq_self_eq_true, and_self, and_true, true_and, he, e2, hz, r1, e3])
        | simp (disch := first | assumption | omega | exact Or.inl rfl | exact Or.inr rfl | (with_unfolding_all exact rfl) | decide) only [BW.WB, WL, if_true, Bool.false_eq_true, if_false, Bool.not_true, Bool.not_false, List.length_map, List.set_cons_zero, List.set_cons_succ, List.getElem?_cons_zero, List.getElem?_cons_succ, beq_self_eq_true, and_self, and_true, true_and, he, e2, hz, r1, e3]
      refine ⟨l ++ [y], get_set hq3, by rw [List.length_append, hl]; rfl, desc_snoc hd ?_, boxed_snoc hb y0 (by omega), (pen_set p3 hn).mono (by omega), _, _, rfl⟩
      first | exact .inr y1 | exact .inl (by simpa using he)
    · have hs : 0 ≤ t ∧ t ≤ t := by first | exact boxed_ati hb t0 _ | exact ⟨t0, Int.le_refl _⟩
      have hpos : true = true ∨ 0 < l.length := by
        cases l with
        | nil => first | exact .inl rfl | cases he
        | cons => exact .inr (by simp)
      have hpos2 : true = false → 0 < l.length := fun h => by rcases hpos with h' | h' <;> simp_all
      obtain ⟨hs0, hs1⟩ := hs
      obtain ⟨d, M2, e2, d0, d1, p2, o2⟩ := draw (n := n + 1) (many := t + 1) hp' (by omega) (divOk_small (by omega) (by omega))
      obtain ⟨z, hz, z1⟩ := int_bool (P := P) (C := callF P (n + 2)) (M := M2) t
      obtain ⟨x, M3, e3, hx, p3, o3⟩ := pick (n := n) (l := [.int t, .int d, .int (t - z)]) p2 (by omega) (by show 0 < 3; decide) (by show 3 < 1000000; decide)
      obtain ⟨y, rfl, y0, y1⟩ : ∃ y : Int, x = .int y ∧ 0 ≤ y ∧ y ≤ t := by
        simp only [List.mem_cons, List.not_mem_nil, or_false] at hx
        rcases hx with rfl | rfl | rfl
        · exact ⟨_, rfl, hs0, Int.le_refl _⟩
        · exact ⟨_, rfl, d0, by omega⟩
        · exact ⟨_, rfl, by omega, by omega⟩
      have hq3 : M3[M.length]? = some (cellI l) := (o3.2 _ hn).trans ((o2.2 _ hn).trans hq')
      first
        | (have hpl : 0 < l.length := hpos2 rfl
           simp (disch := first | assumption | omega | exact Or.inl rfl | exact Or.inr rfl | (with_unfolding_all exact rfl) | decide) only [BW.WB, WL, if_true, Bool.false_eq_true, if_false, Bool.not_true, Bool.not_false, List.length_map, List.set_cons_zero, List.set_cons_succ, List.getElem?_cons_zero, List.getElem?_cons_succ, beq_self_eq_true, and_self, and_true, true_and, he, e2, hz, r1, e3])
        | simp (disch := first | assumption | omega | exact Or.inl rfl | exact Or.inr rfl | (with_unfolding_all exact rfl) | decide) only [BW.WB, WL, if_true, Bool.false_eq_true, if_false, Bool.not_true, Bool.not_false, List.length_map, List.set_cons_zero, List.set_cons_succ, List.getElem?_cons_zero, List.getElem?_cons_succ, beq_self_eq_true, and_self, and_true, true_and, he, e2, hz, r1, e3]
      refine ⟨l ++ [y], get_set hq3, by rw [List.length_append, hl]; rfl, desc_snoc hd ?_, boxed_snoc hb y0 (by omega), (pen_set p3 hn).mono (by omega), _, _, rfl⟩
      first | exact .inr y1 | exact .inl (by simpa using he)
  · rintro r M' ⟨l, hq', hl, hd, hb, hp', y4, y5, rfl⟩
    simp (disch := first | assumption | omega | exact Or.inl rfl | exact Or.inr rfl | (with_unfolding_all exact rfl) | decide) only [BW.WB, WL, if_true, Bool.false_eq_true, if_false, Bool.not_true, Bool.not_false, List.length_map, List.set_cons_zero, List.set_cons_succ, List.getElem?_cons_zero, List.getElem?_cons_succ, beq_self_eq_true, and_self, and_true, true_and]
    refine w_whl (fun i r M' => ∃ l : List Int, M'[M.length]? = some (cellI l) ∧ l.length = i ∧ (l.length : Int) ≤ w ∧ desc l ∧ boxed t l ∧ PenOk (K + 30) M' p ∧ ∃ y4 y5, r = [some (.ref p), some (.d (.int w)), some (.d (.int t)), some (.ref M.length), y4, y5]) (i := l.length) ⟨l, hq', rfl, by omega, hd, hb, hp'.mono (by omega), _, _, rfl⟩ (by omega) ?_
    clear hq' hl hd hb hp'
    rintro i r M' ⟨l, hq', hl, hw, hd, hb, hp', y4, y5, rfl⟩
    cases he : l.isEmpty
    · have hpl : 0 < l.length := by
        cases l with
        | nil => cases he
        | cons => simp
      have r1 := rcv_C (k := .pop) hq' (.inr rfl)
      cases hz : (ati l ((l.length : Int) - 1) == 0)
      · simp (disch := first | assumption | omega | exact Or.inl rfl | exact Or.inr rfl | (with_unfolding_all exact rfl) | decide) only [BW.WB, WL, if_true, Bool.false_eq_true, if_false, Bool.not_true, Bool.not_false, List.length_map, List.set_cons_zero, List.set_cons_succ, List.getElem?_cons_zero, List.getElem?_cons_succ, beq_self_eq_true, and_self, and_true, true_and, he, hz]
        exact ⟨l, rfl, hw, hd, hb, pen_set hp' hn⟩
      · simp (disch := first | assumption | omega | exact Or.inl rfl | exact Or.inr rfl | (with_unfolding_all exact rfl) | decide) only [BW.WB, WL, if_true, Bool.false_eq_true, if_false, Bool.not_true, Bool.not_false, List.length_map, List.set_cons_zero, List.set_cons_succ, List.getElem?_cons_zero, List.getElem?_cons_succ, beq_self_eq_true, and_self, and_true, true_and, he, hz, r1]
        exact ⟨i - 1, by omega, l.dropLast, get_set hq', by rw [List.length_dropLast, hl], by rw [List.length_dropLast]; omega, desc_dropLast hd, fun x hx => hb x ((List.dropLast_sublist l).subset hx), pen_set hp' hn, _, _, rfl⟩
    · simp (disch := first | assumption | omega | exact Or.inl rfl | exact Or.inr rfl | (with_unfolding_all exact rfl) | decide) only [BW.WB, WL, if_true, Bool.false_eq_true, if_false, Bool.not_true, Bool.not_false, List.length_map, List.set_cons_zero, List.set_cons_succ, List.getElem?_cons_zero, List.getElem?_cons_succ, beq_self_eq_true, and_self, and_true, true_and, he]
      exact ⟨l, rfl, hw, hd, hb, pen_set hp' hn⟩
end L16

set_option Elab.async false
set_option maxRecDepth 100000
set_option maxHeartbeats 4000000
namespace BW
end BW
namespace L16
open PySem BV BW
theorem lrow {n p K : Nat} {M : Store} {l : List Int} {w : Int} (hp : PenOk K M p) (hK : K < 700000) (w0 : 2 ≤ w) (w1 : w ≤ 9) (hl : (l.length : Int) ≤ w) (hr : boxed 9 l) :
    ∃ v M', callF P (n + 3) 105 none [.ref p, .d (.lst (l.map .int)), .d (.int w)] M = .ok v M' ∧ ∃ t : List Int, v = .d (.lst (t.map .int)) ∧ (t.length : Int) = w ∧ boxed 83 t ∧ PenOk (K + 40) M' p := by
  have hn : M.length ≠ p := by have := pen_lt hp; omega
  obtain ⟨a, M1, e1, a0, a1, p1, o1⟩ := draw (n := n + 1) (many := 4) (pen_app (l := [cellI (List.replicate w.toNat 0)]) hp) (by omega) (by decide)
  have hq : M1[M.length]? = some (cellI (List.replicate w.toNat 0)) := (o1.2 _ hn).trans get_end
  have b0 : boxed 0 (List.replicate w.toNat 0) := fun x hx => by rw [List.eq_of_mem_replicate hx]; exact ⟨by decide, by decide⟩
  refine mut_Z (I := i105) rfl rfl rfl rfl ?_
  simp only [i105, startE, List.map_cons, List.map_nil, List.length_cons, List.length_nil, Nat.reduceAdd, Nat.reduceSub, List.reduceReplicate, List.cons_append, List.nil_append, List.drop_zero, List.drop_nil, List.append_nil, Nat.add_zero]; unfold b105
  have l16 : l.length ≤ 16777216 := by omega
  have ln : ((l.length : Int) + 1 - 1).toNat = l.length := by omega
  cases ha : (a == 0)
  · simp (disch := first | assumption | omega | exact Or.inl rfl | exact Or.inr rfl | (with_unfolding_all exact rfl) | decide) only [BW.WB, WL, if_true, Bool.false_eq_true, if_false, Bool.not_true, Bool.not_false, List.length_map, List.set_cons_zero, List.set_cons_succ, List.getElem?_cons_zero, List.getElem?_cons_succ, beq_self_eq_true, and_self, and_true, true_and, mulm_1, e1, ha]
    refine w_rng (lo := 1) (n := l.length) (by simp (disch := first | assumption | omega | exact Or.inl rfl | exact Or.inr rfl | (with_unfolding_all exact rfl) | decide) only [BW.WB, WL, if_true, Bool.false_eq_true, if_false, Bool.not_true, Bool.not_false, List.length_map, List.set_cons_zero, List.set_cons_succ, List.getElem?_cons_zero, List.getElem?_cons_succ, beq_self_eq_true, and_self, and_true, true_and, ln] <;> rfl) (fun i r M' => ∃ f : List Int, M'[M.length]? = some (cellI f) ∧ (f.length : Int) = w ∧ boxed (9 * (i : Int)) f ∧ PenOk (K + 1 + 2 * i) M' p ∧ ∃ (b : Int) (y5 y8 : Option Val), 1 ≤ b ∧ b ≤ (i : Int) + 1 ∧ r = [some (.ref p), some (.d (.lst (l.map .int))), some (.d (.int w)), some (.ref M.length), some (.d (.int b)), y5, none, none, y8]) ⟨_, hq, by rw [List.length_replicate]; omega, b0, p1, 1, none, none, by omega, by omega, rfl⟩ ?_ ?_
    · rintro i r M' hi ⟨f, hq', hf, hb, hp', b, y5, y8, c0, c1, rfl⟩
      obtain ⟨g0, g1⟩ := boxed_ati hr (by decide) (b - 1)
      have fin : ∀ (k : Int) , 0 ≤ ati f k + ati l (b - 1) ∧ ati f k + ati l (b - 1) ≤ 9 * ((i + 1 : Nat) : Int) := fun k => by
        have := boxed_ati hb (by omega) k
        omega
      have hb2 : boxed (9 * ((i + 1 : Nat) : Int)) f := boxed_mono hb (by omega)
      cases h1 : ((1 : Int) + (i : Int) == (l.length : Int))
      case' true =>
        have pz : PenOk (K + 1 + 2 * i + 1) M' p := hp'.mono (by omega)
        have hz := hq'
        simp (disch := first | assumption | omega | exact Or.inl rfl | exact Or.inr rfl | (with_unfolding_all exact rfl) | decide) only [BW.WB, WL, if_true, Bool.false_eq_true, if_false, Bool.not_true, Bool.not_false, List.length_map, List.set_cons_zero, List.set_cons_succ, List.getElem?_cons_zero, List.getElem?_cons_succ, beq_self_eq_true, and_self, and_true, true_and, h1]
      case' false =>
        obtain ⟨u, M2, e2, u0, u1, pz, o2⟩ := draw (n := n + 1) (many := 2) hp' (by omega) (by decide)
        have hz : M2[M.length]? = some (cellI f) := (o2.2 _ hn).trans hq'
        cases h2 : (u == 0)
        case' false =>
          simp (disch := first | assumption | omega | exact Or.inl rfl | exact Or.inr rfl | (with_unfolding_all exact rfl) | decide) only [BW.WB, WL, if_true, Bool.false_eq_true, if_false, Bool.not_true, Bool.not_false, List.length_map, List.set_cons_zero, List.set_cons_succ, List.getElem?_cons_zero, List.getElem?_cons_succ, beq_self_eq_true, and_self, and_true, true_and, h1, e2, h2]
          exact ⟨f, hz, hf, hb2, pz.mono (by omega), b, _, _, by omega, by omega, rfl⟩
        case' true =>
          simp (disch := first | assumption | omega | exact Or.inl rfl | exact Or.inr rfl | (with_unfolding_all exact rfl) | decide) only [BW.WB, WL, if_true, Bool.false_eq_true, if_false, Bool.not_true, Bool.not_false, List.length_map, List.set_cons_zero, List.set_cons_succ, List.getElem?_cons_zero, List.getElem?_cons_succ, beq_self_eq_true, and_self, and_true, true_and, h1, e2, h2]
      all_goals
        cases h3 : decide ((1 : Int) + (i : Int) < w)
        · have h3' := of_decide_eq_false h3
          have h4 : 0 ≤ (1 : Int) + (i : Int) - 1 := by omega
          have h5 : (1 : Int) + (i : Int) - 1 < (f.length : Int) := by omega
          simp (disch := first | assumption | omega | exact Or.inl rfl | exact Or.inr rfl | (with_unfolding_all exact rfl) | decide) only [BW.WB, WL, if_true, Bool.false_eq_true, if_false, Bool.not_true, Bool.not_false, List.length_map, List.set_cons_zero, List.set_cons_succ, List.getElem?_cons_zero, List.getElem?_cons_succ, beq_self_eq_true, and_self, and_true, true_and, h3]
          exact ⟨_, get_set hz, by rw [List.length_set]; exact hf, boxed_set hb2 (fin _).1 (fin _).2, (pen_set pz hn).mono (by omega), _, _, _, by omega, by omega, rfl⟩
        · have h3' := of_decide_eq_true h3
          obtain ⟨z, M3, e3, z0, z1, p3, o3⟩ := draw (n := n + 1) (many := 2) pz (by omega) (by decide)
          have hz3 : M3[M.length]? = some (cellI f) := (o3.2 _ hn).trans hz
          have h4 : 0 ≤ (1 : Int) + (i : Int) + z - 1 := by omega
          have h5 : (1 : Int) + (i : Int) + z - 1 < (f.length : Int) := by omega
          simp (disch := first | assumption | omega | exact Or.inl rfl | exact Or.inr rfl | (with_unfolding_all exact rfl) | decide) only [BW.WB, WL, if_true, Bool.false_eq_true, if_false, Bool.not_true, Bool.not_false, List.length_map, List.set_cons_zero, List.set_cons_succ, List.getElem?_cons_zero, List.getElem?_cons_succ, beq_self_eq_true, and_self, and_true, true_and, h3, e3]
          exact ⟨_, get_set hz3, by rw [List.length_set]; exact hf, boxed_set hb2 (fin _).1 (fin _).2, (pen_set p3 hn).mono (by omega), _, _, _, by omega, by omega, rfl⟩
    · rintro r M' ⟨f, hq', hf, hb, hp', b, y5, y8, c0, c1, rfl⟩
      obtain ⟨c, M2, e2, u0, u1, p2, o2⟩ := draw (n := n + 1) (many := 3) hp' (by omega) (by decide)
      have hq2 : M2[M.length]? = some (cellI f) := (o2.2 _ hn).trans hq'
      have hb2 : boxed (81 + ((0 : Nat) : Int)) f := boxed_mono hb (by omega)
      simp (disch := first | assumption | omega | exact Or.inl rfl | exact Or.inr rfl | (with_unfolding_all exact rfl) | decide) only [BW.WB, WL, if_true, Bool.false_eq_true, if_false, Bool.not_true, Bool.not_false, List.length_map, List.set_cons_zero, List.set_cons_succ, List.getElem?_cons_zero, List.getElem?_cons_succ, beq_self_eq_true, and_self, and_true, true_and]
      refine w_rng (lo := 0) (n := c.toNat) (by simp (disch := first | assumption | omega | exact Or.inl rfl | exact Or.inr rfl | (with_unfolding_all exact rfl) | decide) only [BW.WB, WL, if_true, Bool.false_eq_true, if_false, Bool.not_true, Bool.not_false, List.length_map, List.set_cons_zero, List.set_cons_succ, List.getElem?_cons_zero, List.getElem?_cons_succ, beq_self_eq_true, and_self, and_true, true_and, e2] <;> rfl) (fun i r M' => ∃ f : List Int, M'[M.length]? = some (cellI f) ∧ (f.length : Int) = w ∧ boxed (81 + (i : Int)) f ∧ PenOk (K + 1 + 2 * l.length + 1 + 2 * i) M' p ∧ ∃ (y6 y7 : Option Val), r = [some (.ref p), some (.d (.lst (l.map .int))), some (.d (.int w)), some (.ref M.length), some (.d (.int b)), y5, y6, y7, y8]) ⟨f, hq2, hf, hb2, p2, _, _, rfl⟩ ?_ ?_
      · clear hq' hq2 hf hb hb2 hp' p2 o2
        rintro i r M' hi ⟨f, hq', hf, hb, hp', y6, y7, rfl⟩
        obtain ⟨v, M3, e3, v0, v1, p3, o3⟩ := draw (n := n + 1) (many := w) hp' (by omega) (divOk_small (by omega) (by omega))
        have hq3 : M3[M.length]? = some (cellI f) := (o3.2 _ hn).trans hq'
        obtain ⟨g0, g1⟩ := boxed_ati hb (by omega) v
        obtain ⟨z, hz, z1⟩ := int_bool (P := P) (C := callF P (n + 2)) (M := M3) (ati f v)
        obtain ⟨x, M4, e4, hx, p4, o4⟩ := pick (n := n) (l := [.int 1, .int 1, .int (0 - z)]) p3 (by omega) (by show 0 < 3; decide) (by show 3 < 1000000; decide)
        have hq4 : M4[M.length]? = some (cellI f) := (o4.2 _ hn).trans hq3
        obtain ⟨y, rfl, y0, y1⟩ : ∃ y : Int, x = .int y ∧ 0 ≤ ati f v + y ∧ y ≤ 1 := by
          simp only [List.mem_cons, List.not_mem_nil, or_false] at hx
          rcases hx with rfl | rfl | rfl
          · exact ⟨_, rfl, by omega, by omega⟩
          · exact ⟨_, rfl, by omega, by omega⟩
          · exact ⟨_, rfl, by omega, by omega⟩
        have v2 : v < (f.length : Int) := by omega
        simp (disch := first | assumption | omega | exact Or.inl rfl | exact Or.inr rfl | (with_unfolding_all exact rfl) | decide) only [BW.WB, WL, if_true, Bool.false_eq_true, if_false, Bool.not_true, Bool.not_false, List.length_map, List.set_cons_zero, List.set_cons_succ, List.getElem?_cons_zero, List.getElem?_cons_succ, beq_self_eq_true, and_self, and_true, true_and, e3, hz, e4]
        exact ⟨_, get_set hq4, by rw [List.length_set]; exact hf, boxed_set (boxed_mono hb (by omega)) y0 (by omega), (pen_set p4 hn).mono (by omega), _, _, rfl⟩
      · clear hq' hq2 hf hb hb2 hp' p2 o2
        rintro r M' ⟨f, hq', hf, hb, hp', y6, y7, rfl⟩
        simp (disch := first | assumption | omega | exact Or.inl rfl | exact Or.inr rfl | (with_unfolding_all exact rfl) | decide) only [BW.WB, WL, if_true, Bool.false_eq_true, if_false, Bool.not_true, Bool.not_false, List.length_map, List.set_cons_zero, List.set_cons_succ, List.getElem?_cons_zero, List.getElem?_cons_succ, beq_self_eq_true, and_self, and_true, true_and]
        exact ⟨f, rfl, hf, boxed_mono hb (by omega), (pen_set hp' hn).mono (by omega)⟩
  · obtain ⟨t, M2, e2, t1, t2, p2⟩ := cp_draws (P := P) (C := callF P (n + 2)) (q := none) (r := [some (.ref p), some (.d (.lst (l.map .int))), some (.d (.int w)), some (.ref M.length), none, none, none, none, none]) (M := M1) (M1 := M1) (it := .rng (.cons (.v 2) .nil)) (tg := [5]) (e := .call 102 (.cons (.v 0) (.cons (.c (.int 4)) .nil))) (rd := rdRng 0 w.toNat 1) (its := (List.range w.toNat).map fun (k : Nat) => [Val.d (.int (0 + k * 1))]) (fun k M' => PenOk (K + 1 + k) M' p) (fun _ x => 0 ≤ x ∧ x ≤ 83) (by show evI _ _ _ _ false _ _ = _; simp (disch := first | assumption | omega | exact Or.inl rfl | exact Or.inr rfl | (with_unfolding_all exact rfl) | decide) only [BW.WB, WL, if_true, Bool.false_eq_true, if_false, Bool.not_true, Bool.not_false, List.length_map, List.set_cons_zero, List.set_cons_succ, List.getElem?_cons_zero, List.getElem?_cons_succ, beq_self_eq_true, and_self, and_true, true_and] <;> rfl) (fun _ => rg_its) (by rw [List.length_map, List.length_range]; omega) p1 (fun k item M' hk hp' => by
      have hk2 := (List.getElem?_eq_some_iff.mp hk).1
      rw [List.length_map, List.length_range] at hk2
      obtain ⟨_, rfl⟩ := rg_get hk
      obtain ⟨x, M3, e3, x0, x1, p3, o3⟩ := draw (n := n + 1) (many := 4) hp' (by omega) (by decide)
      exact ⟨_, x, M3, rfl, by simp (disch := first | assumption | omega | exact Or.inl rfl | exact Or.inr rfl | (with_unfolding_all exact rfl) | decide) only [BW.WB, WL, if_true, Bool.false_eq_true, if_false, Bool.not_true, Bool.not_false, List.length_map, List.set_cons_zero, List.set_cons_succ, List.getElem?_cons_zero, List.getElem?_cons_succ, beq_self_eq_true, and_self, and_true, true_and, e3], ⟨x0, by omega⟩, p3⟩)
    rw [List.length_map, List.length_range] at t1 p2
    have t3 : boxed 83 t := fun x hx => by
      obtain ⟨k, hk, rfl⟩ := List.getElem_of_mem hx
      obtain ⟨item, _, h⟩ := t2 k _ (List.getElem?_eq_getElem hk)
      exact h
    simp (disch := first | assumption | omega | exact Or.inl rfl | exact Or.inr rfl | (with_unfolding_all exact rfl) | decide) only [BW.WB, WL, if_true, Bool.false_eq_true, if_false, Bool.not_true, Bool.not_false, List.length_map, List.set_cons_zero, List.set_cons_succ, List.getElem?_cons_zero, List.getElem?_cons_succ, beq_self_eq_true, and_self, and_true, true_and, mulm_1, e1, ha]
    rw [e2]
    simp (disch := first | assumption | omega | exact Or.inl rfl | exact Or.inr rfl | (with_unfolding_all exact rfl) | decide) only [BW.WB, WL, if_true, Bool.false_eq_true, if_false, Bool.not_true, Bool.not_false, List.length_map, List.set_cons_zero, List.set_cons_succ, List.getElem?_cons_zero, List.getElem?_cons_succ, beq_self_eq_true, and_self, and_true, true_and]
    exact ⟨t, rfl, by omega, t3, p2.mono (by omega)⟩
end L16

set_option Elab.async false
set_option maxRecDepth 100000
set_option maxHeartbeats 4000000
namespace BW
end BW
namespace L16
open PySem BV BW
/-! ### needs, walked -/
theorem betweenI {n c : Nat} {a b : Int} {M : Store} {t : List Int} (hc : isC c) (ht : t.length ≤ 9) (h1 : 1 ≤ a) (h2 : a ≤ 9) (h3 : 1 ≤ b) (h4 : b ≤ 9) : callF P (n + 5) 52 none [.d (insD c t), .d (.int a), .d (.int b)] M = .ok (.d (.int (cb t a b))) M := by
  have z := between_ok (n := n) (M := M) (t := t) (a := a.toNat) (b := b.toNat) hc ht (by omega) (by omega) (by omega) (by omega)
  rw [Int.toNat_of_nonneg (by omega), Int.toNat_of_nonneg (by omega)] at z
  rw [z]
  unfold cb
  rw [show a.toNat - 1 = (a - 1).toNat by omega, show b.toNat - 1 = (b - 1).toNat by omega]
/-- what passes, the numbers in a list of their own -/
theorem beyond_C {n p : Nat} {s e : Int} {M : Store} {num h : List Int} (hM : M[p]? = some (cellI num)) (hh : h.length ≤ 9) (h1 : 1 ≤ s) (h2 : s ≤ 9) (h3 : 1 ≤ e) (h4 : e ≤ 9) (hs : s - 1 ≤ (num.length : Int)) : callF P (n + 6) 15 none [.ref p, .d (insD 12 h), .d (.int s), .d (.int e)] M = .ok (.d (.int (gB num h e (s - 1).toNat))) M := by
  suffices z : ∃ v M', callF P (n + 6) 15 none [.ref p, .d (insD 12 h), .d (.int s), .d (.int e)] M = .ok v M' ∧ v = .d (.int (gB num h e (s - 1).toNat)) ∧ M' = M by
    obtain ⟨_, _, z, rfl, rfl⟩ := z
    exact z
  refine mut_Z (I := i15) rfl rfl rfl rfl ?_
  simp only [i15, startE, List.map_cons, List.map_nil, List.length_cons, List.length_nil, Nat.reduceAdd, Nat.reduceSub, List.reduceReplicate, List.cons_append, List.nil_append, List.drop_zero, List.drop_nil, List.append_nil, Nat.add_zero]; unfold b15
  simp (disch := first | assumption | omega | exact Or.inl rfl | exact Or.inr rfl | (with_unfolding_all exact rfl) | decide) only [BW.WB, WL, if_true, Bool.false_eq_true, if_false, Bool.not_true, Bool.not_false, List.length_map, List.set_cons_zero, List.set_cons_succ, List.getElem?_cons_zero, List.getElem?_cons_succ, beq_self_eq_true, and_self, and_true, true_and]
  refine w_rng (lo := 1) (n := (s - 1).toNat) (by simp (disch := first | assumption | omega | exact Or.inl rfl | exact Or.inr rfl | (with_unfolding_all exact rfl) | decide) only [BW.WB, WL, if_true, Bool.false_eq_true, if_false, Bool.not_true, Bool.not_false, List.length_map, List.set_cons_zero, List.set_cons_succ, List.getElem?_cons_zero, List.getElem?_cons_succ, beq_self_eq_true, and_self, and_true, true_and] <;> rfl) (fun i r M' => M' = M ∧ ∃ y, r = [some (.ref p), some (.d (insD 12 h)), some (.d (.int s)), some (.d (.int e)), some (.d (.int (gB num h e i))), y]) ⟨rfl, none, rfl⟩ ?_ ?_
  · rintro i r M' hi ⟨rfl, y, rfl⟩
    have e1 : (1 : Int) + (i : Int) = (i : Int) + 1 := by omega
    simp (disch := first | assumption | omega | exact Or.inl rfl | exact Or.inr rfl | (with_unfolding_all exact rfl) | decide) only [BW.WB, WL, if_true, Bool.false_eq_true, if_false, Bool.not_true, Bool.not_false, List.length_map, List.set_cons_zero, List.set_cons_succ, List.getElem?_cons_zero, List.getElem?_cons_succ, beq_self_eq_true, and_self, and_true, true_and, e1, betweenI]
    exact ⟨_, rfl⟩
  · rintro r M' ⟨rfl, y, rfl⟩
    simp (disch := first | assumption | omega | exact Or.inl rfl | exact Or.inr rfl | (with_unfolding_all exact rfl) | decide) only [BW.WB, WL, if_true, Bool.false_eq_true, if_false, Bool.not_true, Bool.not_false, List.length_map, List.set_cons_zero, List.set_cons_succ, List.getElem?_cons_zero, List.getElem?_cons_succ, beq_self_eq_true, and_self, and_true, true_and]
theorem needs_of {n : Nat} {M : Store} {m h : List Int} (hh : h.length ≤ 9) : callF P (n + 7) 16 none [.d (insL m), .d (insD 12 h)] M = .ok (.d (.lst ((nd m h 9).map .int))) M := by
  refine pure_Z (I := i16) rfl rfl rfl rfl rfl ?_
  simp only [i16, startE, List.map_cons, List.map_nil, List.length_cons, List.length_nil, Nat.reduceAdd, Nat.reduceSub, List.reduceReplicate, List.cons_append, List.nil_append, List.drop_zero, List.drop_nil, List.append_nil, Nat.add_zero]; unfold b16
  simp (disch := first | assumption | omega | exact Or.inl rfl | exact Or.inr rfl | (with_unfolding_all exact rfl) | decide) only [BW.WB, WL, if_true, Bool.false_eq_true, if_false, Bool.not_true, Bool.not_false, List.length_map, List.set_cons_zero, List.set_cons_succ, List.getElem?_cons_zero, List.getElem?_cons_succ, beq_self_eq_true, and_self, and_true, true_and, List.nil_append, List.length_nil]
  refine w_rng (lo := 1) (n := 9) (by simp (disch := first | assumption | omega | exact Or.inl rfl | exact Or.inr rfl | (with_unfolding_all exact rfl) | decide) only [BW.WB, WL, if_true, Bool.false_eq_true, if_false, Bool.not_true, Bool.not_false, List.length_map, List.set_cons_zero, List.set_cons_succ, List.getElem?_cons_zero, List.getElem?_cons_succ, beq_self_eq_true, and_self, and_true, true_and] <;> rfl) (fun i r M' => M' = [cellI (nd m h i)] ∧ ∃ y3 y4, (y4 = none ∨ ∃ d, y4 = some (.d d)) ∧ r = [some (.d (insL m)), some (.d (insD 12 h)), some (.ref 0), y3, y4]) ⟨rfl, none, none, .inl rfl, rfl⟩ ?_ ?_
  · rintro i r M' hi ⟨rfl, y3, y4, hy4, rfl⟩
    have e1 : (1 : Int) + (i : Int) = (i : Int) + 1 := by omega
    have hq : ([cellI (nd m h i)] : Store)[0]? = some (cellI (nd m h i)) := rfl
    have hl := nd_len m h i
    have dx : ∀ r', dropX (y4 :: r') = y4 :: dropX r' := by
      rcases hy4 with rfl | ⟨d, rfl⟩ <;> (intro r'; rfl)
    simp (disch := first | assumption | omega | exact Or.inl rfl | exact Or.inr rfl | (with_unfolding_all exact rfl) | decide) only [BW.WB, WL, if_true, Bool.false_eq_true, if_false, Bool.not_true, Bool.not_false, List.length_map, List.set_cons_zero, List.set_cons_succ, List.getElem?_cons_zero, List.getElem?_cons_succ, beq_self_eq_true, and_self, and_true, true_and, e1]
    rw [cp_rngI (lo := 1) (n := i + 1) (fun s => ati m (s : Int) + gB (nd m h i) h ((i : Int) + 1) s)]
    · have mr := min_range (P := P) (C := callF P (n + 6)) (M := [cellI (nd m h i)]) (g := fun s => ati m (s : Int) + gB (nd m h i) h ((i : Int) + 1) s) (n := i + 1) (by omega)
      have hlt : (nd m h i).length < 16777216 := by omega
      simp (disch := first | assumption | omega | exact Or.inl rfl | exact Or.inr rfl | (with_unfolding_all exact rfl) | decide) only [BW.WB, WL, if_true, Bool.false_eq_true, if_false, Bool.not_true, Bool.not_false, List.length_map, List.set_cons_zero, List.set_cons_succ, List.getElem?_cons_zero, List.getElem?_cons_succ, beq_self_eq_true, and_self, and_true, true_and, mr, Nat.add_sub_cancel]
      refine ⟨rfl, _, _, hy4, rfl⟩
    · have e2 : ((i : Int) + 1 + 1 - 1).toNat = i + 1 := by omega
      simp (disch := first | assumption | omega | exact Or.inl rfl | exact Or.inr rfl | (with_unfolding_all exact rfl) | decide) only [BW.WB, WL, if_true, Bool.false_eq_true, if_false, Bool.not_true, Bool.not_false, List.length_map, List.set_cons_zero, List.set_cons_succ, List.getElem?_cons_zero, List.getElem?_cons_succ, beq_self_eq_true, and_self, and_true, true_and, e1, e2]
    · omega
    · intro k hk
      have e3 : (1 : Int) + (k : Int) = (k : Int) + 1 := by omega
      have e4 : ((k : Int) + 1 - 1).toNat = k := by omega
      simp (disch := first | assumption | omega | exact Or.inl rfl | exact Or.inr rfl | (with_unfolding_all exact rfl) | decide) only [BW.WB, WL, if_true, Bool.false_eq_true, if_false, Bool.not_true, Bool.not_false, List.length_map, List.set_cons_zero, List.set_cons_succ, List.getElem?_cons_zero, List.getElem?_cons_succ, beq_self_eq_true, and_self, and_true, true_and, dx, e1, e3, lim_get, beyond_C, e4]
  · rintro r M' ⟨rfl, y3, y4, hy4, rfl⟩
    have hq : ([cellI (nd m h 9)] : Store)[0]? = some (cellI (nd m h 9)) := rfl
    simp (disch := first | assumption | omega | exact Or.inl rfl | exact Or.inr rfl | (with_unfolding_all exact rfl) | decide) only [BW.WB, WL, if_true, Bool.false_eq_true, if_false, Bool.not_true, Bool.not_false, List.length_map, List.set_cons_zero, List.set_cons_succ, List.getElem?_cons_zero, List.getElem?_cons_succ, beq_self_eq_true, and_self, and_true, true_and]
abbrev insN (m h : List Int) : D := .ins 8 [insL m, insD 12 h, .lst ((nd m h 9).map .int)]
theorem init_needs {n : Nat} {M : Store} {m h : List Int} (hh : h.length ≤ 9) : callF P (n + 8) 17 none [.ref M.length, .d (insL m), .d (insD 12 h)] (M ++ [some (.ins 8 [])]) = .ok (.d .non) (M ++ [some (.ins 8 [.d (insL m), .d (insD 12 h), .d (.lst ((nd m h 9).map .int))])]) := by
  refine callF_mut (I := i17) rfl rfl rfl rfl ?_
  show retOf (exSs P (callF P (n + 7)) none b17 [some (.ref M.length), some (.d (insL m)), some (.d (insD 12 h))] (M ++ [some (.ins 8 [])])) = _
  have no : ∀ M, callF P (n + 7) 16 none [.d (insL m), .d (insD 12 h)] M = .ok (.d (.lst ((nd m h 9).map .int))) M := fun M => needs_of hh
  have p0 : P.fld 8 33 = some 0 := rfl
  have p1 : P.fld 8 32 = some 1 := rfl
  have p2 : P.fld 8 31 = some 2 := rfl
  simp only [b17, exSs, exS, ev, evA, List.getElem?_cons_zero, List.getElem?_cons_succ, bind_ok, st_ok, get_end, p0, p1, p2, no, plainV, Bool.true_eq_false, if_false, List.length_nil, List.length_cons, Nat.lt_irrefl, if_true, List.nil_append, List.cons_append, set_end, retOf, Nat.zero_add]
theorem mk_needs {n : Nat} {M : Store} {m h : List Int} (hh : h.length ≤ 9) : fmk P (callF P (n + 8)) 8 [.d (insL m), .d (insD 12 h)] M = .ok (.d (insN m h)) (M ++ [none]) := by
  unfold fmk
  rw [show P.ini 8 = some 17 from rfl]
  simp only [init_needs hh, show P.frz 8 = some true from rfl, f1, get_end, allD, set_end]
theorem needs_fn {n : Nat} {M : Store} {m h : List Int} (hh : h.length ≤ 9) : callF P (n + 9) 25 none [.d (insL m), .d (insD 12 h)] M = .ok (.d (insN m h)) M := by
  have mk := mk_needs (n := n) (M := []) (m := m) hh
  refine pure_Z (I := i25) rfl rfl rfl rfl rfl ?_
  simp only [i25, startE, List.map_cons, List.map_nil, List.length_cons, List.length_nil, Nat.reduceAdd, Nat.reduceSub, List.reduceReplicate, List.cons_append, List.nil_append, List.drop_zero, List.drop_nil, List.append_nil, Nat.add_zero]; unfold b25
  simp (disch := first | assumption | omega | exact Or.inl rfl | exact Or.inr rfl | (with_unfolding_all exact rfl) | decide) only [BW.WB, WL, if_true, Bool.false_eq_true, if_false, Bool.not_true, Bool.not_false, List.length_map, List.set_cons_zero, List.set_cons_succ, List.getElem?_cons_zero, List.getElem?_cons_succ, beq_self_eq_true, and_self, and_true, true_and, mk]
theorem needs_get {n : Nat} {k : Int} {M : Store} {m h : List Int} (h1 : 1 ≤ k) (h2 : k ≤ 9) : callF P (n + 5) 22 none [.d (insN m h), .d (.int k)] M = .ok (.d (.int (ati (nd m h 9) (k - 1)))) M := by
  have hl := nd_len m h 9
  refine pure_Z (I := i22) rfl rfl rfl rfl rfl ?_
  simp only [i22, startE, List.map_cons, List.map_nil, List.length_cons, List.length_nil, Nat.reduceAdd, Nat.reduceSub, List.reduceReplicate, List.cons_append, List.nil_append, List.drop_zero, List.drop_nil, List.append_nil, Nat.add_zero]; unfold b22
  simp (disch := first | assumption | omega | exact Or.inl rfl | exact Or.inr rfl | (with_unfolding_all exact rfl) | decide) only [BW.WB, WL, if_true, Bool.false_eq_true, if_false, Bool.not_true, Bool.not_false, List.length_map, List.set_cons_zero, List.set_cons_succ, List.getElem?_cons_zero, List.getElem?_cons_succ, beq_self_eq_true, and_self, and_true, true_and, need_sizeI]
theorem numbers {n : Nat} {M : Store} {m r : List Int} (hm : m.length ≤ 9) (rm : rowOk m) (dm : desc m) (hr : r.length ≤ 9) (rr : rowOk r) : callF P (n + 10) 106 none [.d (.lst (m.map .int)), .d (.lst (r.map .int))] M = .ok (.d (.lst (((List.range 9).map (R m r)).map .int))) M := by
  have lt := Nat.le_trans (trim_len r) hr
  refine pure_Z (I := i106) rfl rfl rfl rfl rfl ?_
  simp only [i106, startE, List.map_cons, List.map_nil, List.length_cons, List.length_nil, Nat.reduceAdd, Nat.reduceSub, List.reduceReplicate, List.cons_append, List.nil_append, List.drop_zero, List.drop_nil, List.append_nil, Nat.add_zero]; unfold b106
  simp (disch := first | assumption | omega | exact Or.inl rfl | exact Or.inr rfl | (with_unfolding_all exact rfl) | decide) only [BW.WB, WL, if_true, Bool.false_eq_true, if_false, Bool.not_true, Bool.not_false, List.length_map, List.set_cons_zero, List.set_cons_succ, List.getElem?_cons_zero, List.getElem?_cons_succ, beq_self_eq_true, and_self, and_true, true_and, ofLL, ofH16, needs_fn]
  rw [cp_rngI (lo := 1) (n := 9) (R m r)]
  · simp (disch := first | assumption | omega | exact Or.inl rfl | exact Or.inr rfl | (with_unfolding_all exact rfl) | decide) only [BW.WB, WL, if_true, Bool.false_eq_true, if_false, Bool.not_true, Bool.not_false, List.length_map, List.set_cons_zero, List.set_cons_succ, List.getElem?_cons_zero, List.getElem?_cons_succ, beq_self_eq_true, and_self, and_true, true_and]
  · simp (disch := first | assumption | omega | exact Or.inl rfl | exact Or.inr rfl | (with_unfolding_all exact rfl) | decide) only [BW.WB, WL, if_true, Bool.false_eq_true, if_false, Bool.not_true, Bool.not_false, List.length_map, List.set_cons_zero, List.set_cons_succ, List.getElem?_cons_zero, List.getElem?_cons_succ, beq_self_eq_true, and_self, and_true, true_and] <;> rfl
  · decide
  · intro k hk
    have ek : ati (nd (trim m) (trim r) 9) ((1 : Int) + (k : Int) - 1) = R m r k := by
      rw [show (1 : Int) + (k : Int) - 1 = (k : Int) by omega, nd_at _ _ hk]
      exact R_same (fun i => ati_trim m i) (fun k => U_trim r k) k
    simp (disch := first | assumption | omega | exact Or.inl rfl | exact Or.inr rfl | (with_unfolding_all exact rfl) | decide) only [BW.WB, WL, if_true, Bool.false_eq_true, if_false, Bool.not_true, Bool.not_false, List.length_map, List.set_cons_zero, List.set_cons_succ, List.getElem?_cons_zero, List.getElem?_cons_succ, beq_self_eq_true, and_self, and_true, true_and, needs_get, ek]
theorem desc_le {m : List Int} (hm : ∀ x ∈ m, 0 ≤ x) (dm : desc m) : ∀ i j : Nat, i ≤ j → ati m (j : Int) ≤ ati m (i : Int) := fun i j h => by
  have pos : ∀ k : Int, 0 ≤ ati m k := fun k => ati_mem (Q := fun x => 0 ≤ x) (by decide) hm k
  induction j with
  | zero => rw [show i = 0 by omega]; exact Int.le_refl _
  | succ j ih =>
    by_cases z : i = j + 1
    · rw [z]; exact Int.le_refl _
    · have h1 := ih (by omega)
      by_cases z2 : j + 1 < m.length
      · have := dm j z2
        omega
      · have e : ati m ((j + 1 : Nat) : Int) = 0 := by
          rw [ati_nat, List.getElem?_eq_none (by omega)]
          rfl
        rw [e]
        exact pos _
theorem falls {n : Nat} {M : Store} {m r : List Int} (hm : m.length ≤ 9) (rm : ∀ x ∈ m, 0 ≤ x) (dm : desc m) (hr : r.length ≤ 9) (rr : nonneg r) : callF P (n + 1) 107 none [.d (.lst (((List.range 9).map (R m r)).map .int)), .d (.lst (m.map .int)), .d (.lst (r.map .int))] M = .ok (.d (.bl true)) M := by
  have pos : ∀ k : Nat, 0 ≤ ati m (k : Int) := fun k => ati_mem (Q := fun x => 0 ≤ x) (by decide) rm k
  have gr : ∀ k : Nat, k < 9 → ati ((List.range 9).map (R m r)) ((1 : Int) + (k : Int) - 1) = R m r k := fun k hk => by
    rw [show (1 : Int) + (k : Int) - 1 = (k : Int) by omega]
    exact ati_range hk
  have l9 : ((List.range 9).map (R m r)).length = 9 := by simp
  have r16 : r.length ≤ 16777216 := by omega
  refine pure_Z (I := i107) rfl rfl rfl rfl rfl ?_
  simp only [i107, startE, List.map_cons, List.map_nil, List.length_cons, List.length_nil, Nat.reduceAdd, Nat.reduceSub, List.reduceReplicate, List.cons_append, List.nil_append, List.drop_zero, List.drop_nil, List.append_nil, Nat.add_zero]; unfold b107
  refine w_rng (lo := 1) (n := 9) (by simp (disch := first | assumption | omega | exact Or.inl rfl | exact Or.inr rfl | (with_unfolding_all exact rfl) | decide) only [BW.WB, WL, if_true, Bool.false_eq_true, if_false, Bool.not_true, Bool.not_false, List.length_map, List.set_cons_zero, List.set_cons_succ, List.getElem?_cons_zero, List.getElem?_cons_succ, beq_self_eq_true, and_self, and_true, true_and] <;> rfl) (fun _ r' _ => ∃ y3 y4 y5, r' = [some (.d (.lst (((List.range 9).map (R m r)).map .int))), some (.d (.lst (m.map .int))), some (.d (.lst (r.map .int))), y3, y4, y5]) ⟨_, _, _, rfl⟩ ?_ ?_
  · rintro i r' M' hi ⟨y3, y4, y5, rfl⟩
    have g0 := gr i hi
    have g1 : decide (R m r i < ati m (i : Int)) = false := decide_eq_false (by have := R_bot (h := r) (desc_le rm dm) i; omega)
    have top := R_top (m := m) (h := r) i
    have e1 : (1 : Int) + (i : Int) - 1 = (i : Int) := by omega
    have e2 : ((1 : Int) + (i : Int) - 1).toNat = i := by omega
    cases h : decide ((1 : Int) + (i : Int) ≤ (m.length : Int))
    case' true =>
      have h' := of_decide_eq_true h
      have ea : ati m ((1 : Int) + (i : Int) - 1) = ati m (i : Int) := by rw [e1]
      simp (disch := first | assumption | omega | exact Or.inl rfl | exact Or.inr rfl | (with_unfolding_all exact rfl) | decide) only [BW.WB, WL, if_true, Bool.false_eq_true, if_false, Bool.not_true, Bool.not_false, List.length_map, List.set_cons_zero, List.set_cons_succ, List.getElem?_cons_zero, List.getElem?_cons_succ, beq_self_eq_true, and_self, and_true, true_and, h, ea]
    case' false =>
      have h' := of_decide_eq_false h
      have ea : (0 : Int) = ati m (i : Int) := by
        rw [ati_nat, List.getElem?_eq_none (by omega)]
        rfl
      simp (disch := first | assumption | omega | exact Or.inl rfl | exact Or.inr rfl | (with_unfolding_all exact rfl) | decide) only [BW.WB, WL, if_true, Bool.false_eq_true, if_false, Bool.not_true, Bool.not_false, List.length_map, List.set_cons_zero, List.set_cons_succ, List.getElem?_cons_zero, List.getElem?_cons_succ, beq_self_eq_true, and_self, and_true, true_and, h]
      have g1 : decide (R m r i < 0) = false := by rw [ea]; exact g1
    all_goals
      cases he : m.isEmpty
      case' true =>
        have g2 : decide (R m r i > 0) = false := decide_eq_false (by
          have e0 : ati m 0 = 0 := by
            rw [List.isEmpty_iff.mp he]
            rfl
          omega)
        simp (disch := first | assumption | omega | exact Or.inl rfl | exact Or.inr rfl | (with_unfolding_all exact rfl) | decide) only [BW.WB, WL, if_true, Bool.false_eq_true, if_false, Bool.not_true, Bool.not_false, List.length_map, List.set_cons_zero, List.set_cons_succ, List.getElem?_cons_zero, List.getElem?_cons_succ, beq_self_eq_true, and_self, and_true, true_and, he, g0, g1, g2]
      case' false =>
        have hp : 0 < m.length := by
          cases m with
          | nil => cases he
          | cons => simp
        have g2 : decide (R m r i > ati m 0) = false := decide_eq_false (by omega)
        simp (disch := first | assumption | omega | exact Or.inl rfl | exact Or.inr rfl | (with_unfolding_all exact rfl) | decide) only [BW.WB, WL, if_true, Bool.false_eq_true, if_false, Bool.not_true, Bool.not_false, List.length_map, List.set_cons_zero, List.set_cons_succ, List.getElem?_cons_zero, List.getElem?_cons_succ, beq_self_eq_true, and_self, and_true, true_and, he, g0, g1, g2]
      all_goals
        apply w_rng (lo := 1) (n := i) (M1 := M') (J := fun _ r' _ => ∃ y4 y5, r' = [some (.d (.lst (((List.range 9).map (R m r)).map .int))), some (.d (.lst (m.map .int))), some (.d (.lst (r.map .int))), some (.d (.int ((1 : Int) + (i : Int)))), y4, y5])
        case hI =>
          simp (disch := first | assumption | omega | exact Or.inl rfl | exact Or.inr rfl | (with_unfolding_all exact rfl) | decide) only [BW.WB, WL, if_true, Bool.false_eq_true, if_false, Bool.not_true, Bool.not_false, List.length_map, List.set_cons_zero, List.set_cons_succ, List.getElem?_cons_zero, List.getElem?_cons_succ, beq_self_eq_true, and_self, and_true, true_and, e2]
        case j0 => exact ⟨_, _, rfl⟩
        case hb =>
          rintro j r' M' hj ⟨y4, y5, rfl⟩
          have g4 := gr j (by omega)
          have st := R_step (h := r) pos rr hj
          have an := R_anti (m := m) rr (show j ≤ i by omega)
          have g5 : decide (R m r j < R m r i) = false := decide_eq_false (by omega)
          have es : ((r.take ((1 : Int) + (i : Int) - 1).toNat).drop ((1 : Int) + (j : Int) - 1).toNat).sum = cb r ((j : Int) + 1) ((i : Int) + 1) := by
            unfold cb
            rw [show (1 : Int) + (i : Int) - 1 = (i : Int) + 1 - 1 by omega, show (1 : Int) + (j : Int) - 1 = (j : Int) + 1 - 1 by omega]
          have g6 : decide (R m r i + cb r ((j : Int) + 1) ((i : Int) + 1) < R m r j) = false := decide_eq_false (by omega)
          simp (disch := first | assumption | omega | exact Or.inl rfl | exact Or.inr rfl | (with_unfolding_all exact rfl) | decide) only [BW.WB, WL, if_true, Bool.false_eq_true, if_false, Bool.not_true, Bool.not_false, List.length_map, List.set_cons_zero, List.set_cons_succ, List.getElem?_cons_zero, List.getElem?_cons_succ, beq_self_eq_true, and_self, and_true, true_and, g0, g4, g5, es, g6]
          exact ⟨_, _, rfl⟩
        case he =>
          rintro r' M' ⟨y4, y5, rfl⟩
          simp (disch := first | assumption | omega | exact Or.inl rfl | exact Or.inr rfl | (with_unfolding_all exact rfl) | decide) only [BW.WB, WL, if_true, Bool.false_eq_true, if_false, Bool.not_true, Bool.not_false, List.length_map, List.set_cons_zero, List.set_cons_succ, List.getElem?_cons_zero, List.getElem?_cons_succ, beq_self_eq_true, and_self, and_true, true_and]
          exact ⟨_, _, _, rfl⟩
  · rintro r' M' ⟨y3, y4, y5, rfl⟩
    simp (disch := first | assumption | omega | exact Or.inl rfl | exact Or.inr rfl | (with_unfolding_all exact rfl) | decide) only [BW.WB, WL, if_true, Bool.false_eq_true, if_false, Bool.not_true, Bool.not_false, List.length_map, List.set_cons_zero, List.set_cons_succ, List.getElem?_cons_zero, List.getElem?_cons_succ, beq_self_eq_true, and_self, and_true, true_and]
end L16

set_option Elab.async false
set_option maxRecDepth 100000
set_option maxHeartbeats 4000000
namespace BW
end BW
namespace L16
open PySem BV BW
theorem cp_none {P : Pg} {C : Caller} {q : Asker} {r : BV.Env} {M : Store} {it : It} {tg : List Nat} {t : Te} {e : E} {rd : Rd} {its : List (List Val)} (h1 : evI P C q it (tg.length != 1) r M = .ok rd M) (h2 : rd M = some its) (hl : its.length ≤ 16777216)
    (hb : ∀ (k : Nat) (item : List Val), its[k]? = some item → ∃ r' v, setAll tg item (wipeE tg (dropX r)) = some r' ∧ evT P C q t r' M = .ok false M ∧ ev P C q e r' M = .ok v M) :
    ev P C q (.cp false it tg (.cons t .nil) e) r M = .ok (.d (.lst [])) M := by
  obtain ⟨acc, M', b1, b2, b3⟩ := cloop_flt (rd := rd) (its := its) (body := cpB P C q tg (.cons t .nil) e r)
    (fun i acc M' => M' = M ∧ acc = []) (fun i acc M' j => by rw [j.1]; exact h2) (fun i item acc M' hi j => by
      obtain ⟨rfl, rfl⟩ := j
      obtain ⟨r', v, k1, k2, k3⟩ := hb i item hi
      exact .inl ⟨_, cpB_tst k1 k2 k3, rfl, rfl⟩) its.length (its.length + 1) 0 [] M (by omega) (by omega) ⟨rfl, rfl⟩
  have el : rdLen rd M = its.length := by
    unfold rdLen
    rw [h2]
  rw [ev_cp, h1, bind_ok, el, b1, bind_ok, b2, b3]
  exact newL_ints (l := []) (by show 0 ≤ lim; decide)
theorem enum_get : ∀ {xs : List Val} {a k : Nat} {item : List Val}, (enumL a xs)[k]? = some item → ∃ x, xs[k]? = some x ∧ item = [Val.d (.int ((a + k : Nat) : Int)), x]
  | [], a, k, item, h => by
    unfold enumL at h
    cases h
  | x :: xs, a, 0, item, h => by
    unfold enumL at h
    cases h
    exact ⟨x, rfl, rfl⟩
  | x :: xs, a, k + 1, item, h => by
    unfold enumL at h
    obtain ⟨y, h1, h2⟩ := enum_get (xs := xs) (a := a + 1) (k := k) h
    exact ⟨y, h1, by rw [h2, show a + 1 + k = a + (k + 1) by omega]⟩
theorem enum_len : ∀ {xs : List Val} {a : Nat}, (enumL a xs).length = xs.length
  | [], a => rfl
  | x :: xs, a => by
    unfold enumL
    rw [List.length_cons, List.length_cons, enum_len]
/-- nothing found in a told list, by its places -/
theorem cp_enumN {P : Pg} {C : Caller} {q : Asker} {r : BV.Env} {M : Store} {ea : E} {t1 t2 : Nat} {t : Te} {e : E} {l : List Int} (h1 : ev P C q ea r M = .ok (.d (.lst (l.map .int))) M) (hl : l.length ≤ 16777216)
    (hb : ∀ (k : Nat) (x : Int), l[k]? = some x → ∃ r' v, setAll [t1, t2] [.d (.int k), .d (.int x)] (wipeE [t1, t2] (dropX r)) = some r' ∧ evT P C q t r' M = .ok false M ∧ ev P C q e r' M = .ok v M) :
    ev P C q (.cp false (.enum ea 0) [t1, t2] (.cons t .nil) e) r M = .ok (.d (.lst [])) M := by
  have e : rdEnum (.d (.lst (l.map .int))) M = some (enumL 0 ((l.map D.int).map Val.d)) := rfl
  refine cp_none (rd := rdEnum (.d (.lst (l.map .int)))) (its := enumL 0 ((l.map D.int).map Val.d)) ?_ e (by rw [enum_len, List.length_map, List.length_map]; exact hl) fun k item hk => ?_
  · rw [evI, h1, bind_ok, e]
    rfl
  · obtain ⟨x, hx, rfl⟩ := enum_get hk
    rw [List.getElem?_map, List.getElem?_map] at hx
    cases z : l[k]? with
    | none => rw [z] at hx; cases hx
    | some y =>
      rw [z] at hx
      cases hx
      obtain ⟨r', v, k1, k2, k3⟩ := hb k y z
      exact ⟨r', v, by rw [Nat.zero_add]; exact k1, k2, k3⟩
/-- nothing found in a range -/
theorem cp_rngN {P : Pg} {C : Caller} {q : Asker} {r : BV.Env} {M : Store} {as : As} {t1 n : Nat} {t : Te} {e : E} (h1 : evI P C q (.rng as) false r M = .ok (rdRng 0 n 1) M) (hl : n ≤ 16777216)
    (hb : ∀ k : Nat, k < n → ∃ r' v, setAll [t1] [.d (.int k)] (wipeE [t1] (dropX r)) = some r' ∧ evT P C q t r' M = .ok false M ∧ ev P C q e r' M = .ok v M) :
    ev P C q (.cp false (.rng as) [t1] (.cons t .nil) e) r M = .ok (.d (.lst [])) M := by
  refine cp_none (rd := rdRng 0 n 1) (its := (List.range n).map fun (k : Nat) => [Val.d (.int (0 + k * 1))]) h1 rg_its (by rw [List.length_map, List.length_range]; exact hl) fun k item hk => ?_
  have hk2 := (List.getElem?_eq_some_iff.mp hk).1
  rw [List.length_map, List.length_range] at hk2
  obtain ⟨_, rfl⟩ := rg_get hk
  obtain ⟨r', v, k1, k2, k3⟩ := hb k hk2
  exact ⟨r', v, by rw [Int.zero_add]; exact k1, k2, k3⟩
theorem cp_intsD {P : Pg} {C : Caller} {q : Asker} {r : BV.Env} {M M1 : Store} {a : E} {tg : Nat} {e : E} {l : List Int} (J : Nat → Store → Prop) (Q : Int → Int → Prop) (h1 : ev P C q a r M = .ok (.d (.lst (l.map .int))) M1) (hl : l.length ≤ 16777216) (j0 : J 0 M1)
    (hb : ∀ (k : Nat) (y : Int) M', l[k]? = some y → J k M' → ∃ x M'', ev P C q e ((wipeE [tg] (dropX r)).set tg (some (.d (.int y)))) M' = .ok (.d (.int x)) M'' ∧ Q y x ∧ J (k + 1) M'') :
    ∃ (t : List Int) (M2 : Store), ev P C q (.cp false (.e a) [tg] .nil e) r M = .ok (.d (.lst (t.map .int))) M2 ∧ t.length = l.length ∧ (∀ (k : Nat) (x : Int), t[k]? = some x → ∃ y, l[k]? = some y ∧ Q y x) ∧ J l.length M2 := by
  have e1 : evI P C q (.e a) (([tg] : List Nat).length != 1) r M = .ok (rdSeq (.d (.lst (l.map .int))) false) M1 := by
    rw [evI, h1, bind_ok]
    show (if (rdSeq (.d (.lst (l.map .int))) false M1).isSome = true then R.ok (rdSeq (.d (.lst (l.map .int))) false) M1 else .no) = _
    rw [rd_lst]
    rfl
  obtain ⟨t, M2, k1, k2, k3, k4⟩ := cp_draws (e := e) (its := (l.map D.int).map fun x => [Val.d x]) J (fun item x => ∃ y, item = [Val.d (.int y)] ∧ Q y x) e1 (fun _ => rd_lst) (by rw [List.length_map, List.length_map]; exact hl) j0 (fun k item M' hk j => by
    rw [List.getElem?_map, List.getElem?_map] at hk
    cases z : l[k]? with
    | none => rw [z] at hk; cases hk
    | some y =>
      rw [z] at hk
      cases hk
      obtain ⟨x, M'', b1, b2, b3⟩ := hb k y M' z j
      exact ⟨_, x, M'', rfl, b1, ⟨y, rfl, b2⟩, b3⟩)
  rw [List.length_map, List.length_map] at k2 k4
  refine ⟨t, M2, k1, k2, fun k x hx => ?_, k4⟩
  obtain ⟨item, hi, y, rfl, hq⟩ := k3 k x hx
  rw [List.getElem?_map, List.getElem?_map] at hi
  cases z : l[k]? with
  | none => rw [z] at hi; cases hi
  | some y' =>
    rw [z] at hi
    cases hi
    exact ⟨_, rfl, hq⟩
theorem cp_intsM {P : Pg} {C : Caller} {q : Asker} {r : BV.Env} {M M1 : Store} {a : E} {tg : Nat} {e : E} {l : List Int} (f : Int → Int) (h1 : ev P C q a r M = .ok (.d (.lst (l.map .int))) M1) (hl : l.length ≤ 16777216)
    (hb : ∀ x ∈ l, ev P C q e ((wipeE [tg] (dropX r)).set tg (some (.d (.int x)))) M1 = .ok (.d (.int (f x))) M1) :
    ev P C q (.cp false (.e a) [tg] .nil e) r M = .ok (.d (.lst ((l.map f).map .int))) M1 := by
  obtain ⟨t, M2, k1, k2, k3, rfl⟩ := cp_intsD (e := e) (tg := tg) (fun _ M' => M' = M1) (fun y x => x = f y) h1 hl rfl (fun k y M' hk j => by
    subst j
    exact ⟨_, _, hb y (List.mem_of_getElem? hk), rfl, rfl⟩)
  have et : t = l.map f := by
    apply List.ext_getElem?
    intro k
    rw [List.getElem?_map]
    cases z : t[k]? with
    | none =>
      have := List.getElem?_eq_none_iff.mp z
      rw [List.getElem?_eq_none (by omega)]
      rfl
    | some x =>
      obtain ⟨y, hy, rfl⟩ := k3 k x z
      rw [hy]
      rfl
  rw [k1, et]
def dX (o : Option Val) : Option Val := match o with
  | some (.exn _ _) => none
  | o => o
theorem dx_any {y : Option Val} {r : BV.Env} : dropX (y :: r) = dX y :: dropX r := rfl
theorem dX_n : dX none = none := rfl
theorem dX_d {x : D} : dX (some (.d x)) = some (.d x) := rfl
theorem dX_r {x : Nat} : dX (some (.ref x)) = some (.ref x) := rfl
theorem ne_selfI {P : Pg} {C : Caller} {M : Store} {l : List Int} : f2 P C .ne (.d (.lst (l.map .int))) (.d (.lst (l.map .int))) M = .ok (.d (.bl false)) M := by
  show datEq true _ _ M = _
  unfold datEq
  rw [eqD_lstI]
  rfl
theorem maxL_ge : ∀ {l : List Int} {x : Int}, x ≤ maxL x l ∧ ∀ y ∈ l, y ≤ maxL x l
  | [], x => ⟨Int.le_refl _, by intro y hy; cases hy⟩
  | z :: l, x => by
    have e : maxL x (z :: l) = maxL (if z > x then z else x) l := rfl
    obtain ⟨h1, h2⟩ := maxL_ge (l := l) (x := if z > x then z else x)
    rw [e]
    refine ⟨?_, fun y hy => ?_⟩
    · split at h1 <;> rename_i hh <;> simp only [hh, if_true, if_false] <;> omega
    · rcases List.mem_cons.mp hy with rfl | hy
      · split at h1 <;> rename_i hh <;> simp only [hh, if_true, if_false] <;> omega
      · exact h2 y hy
theorem maxL_mem : ∀ {l : List Int} {x : Int}, maxL x l ∈ x :: l
  | [], x => List.mem_cons_self
  | z :: l, x => by
    have e : maxL x (z :: l) = maxL (if z > x then z else x) l := rfl
    rw [e]
    have h := maxL_mem (l := l) (x := if z > x then z else x)
    rcases List.mem_cons.mp h with h | h
    · rw [h]
      split
      · exact List.mem_cons_of_mem _ List.mem_cons_self
      · exact List.mem_cons_self
    · exact List.mem_cons_of_mem _ (List.mem_cons_of_mem _ h)
/-- the greatest of a row from a place on -/
def sm1 (l : List Int) (k : Nat) : Int := match l.drop k with
  | [] => 0
  | x :: t => maxL x t
theorem sm1_ge {l : List Int} {k j : Nat} (h : k ≤ j) (hj : j < l.length) : ati l (j : Int) ≤ sm1 l k := by
  unfold sm1
  have hm : ati l (j : Int) ∈ l.drop k := by
    rw [ati_nat, List.getElem?_eq_getElem hj]
    have : l[j] = (l.drop k)[j - k]'(by rw [List.length_drop]; omega) := by
      rw [List.getElem_drop]
      congr 1
      omega
    show l[j] ∈ _
    rw [this]
    exact List.getElem_mem _
  cases e : l.drop k with
  | nil => rw [e] at hm; cases hm
  | cons x t =>
    rw [e] at hm
    obtain ⟨h1, h2⟩ := maxL_ge (l := t) (x := x)
    rcases List.mem_cons.mp hm with h | h
    · rw [h]; exact h1
    · exact h2 _ h
theorem sm1_mem {l : List Int} {k : Nat} (hk : k < l.length) : ∃ j, k ≤ j ∧ j < l.length ∧ sm1 l k = ati l (j : Int) := by
  unfold sm1
  cases e : l.drop k with
  | nil =>
    have := congrArg List.length e
    rw [List.length_drop, List.length_nil] at this
    omega
  | cons x t =>
    show ∃ j, k ≤ j ∧ j < l.length ∧ maxL x t = ati l (j : Int)
    have hm := maxL_mem (l := t) (x := x)
    rw [← e] at hm
    obtain ⟨i, hi, h⟩ := List.getElem_of_mem hm
    rw [List.length_drop] at hi
    refine ⟨k + i, by omega, by omega, ?_⟩
    rw [← h, List.getElem_drop, ati_nat, List.getElem?_eq_getElem (by omega)]
    rfl
theorem smax_len {l : List Int} : ((List.range l.length).map (sm1 l)).length = l.length := by simp
theorem smax_desc {l : List Int} : desc ((List.range l.length).map (sm1 l)) := fun i hi => by
  rw [smax_len] at hi
  rw [ati_range hi, ati_range (by omega)]
  obtain ⟨j, h1, h2, h3⟩ := sm1_mem (l := l) hi
  rw [h3]
  exact sm1_ge (by omega) h2
theorem smax_box {l : List Int} {b : Int} (h : boxed b l) (hb : 0 ≤ b) : boxed b ((List.range l.length).map (sm1 l)) := fun x hx => by
  obtain ⟨k, hk, rfl⟩ := List.mem_map.mp hx
  obtain ⟨j, h1, h2, h3⟩ := sm1_mem (l := l) (List.mem_range.mp hk)
  rw [h3]
  exact boxed_ati h hb _
theorem smax_ge {m l : List Int} (hl : l.length = m.length) (h : ∀ k : Nat, ati m (k : Int) ≤ ati l (k : Int)) (k : Nat) : ati m (k : Int) ≤ ati ((List.range l.length).map (sm1 l)) (k : Int) := by
  by_cases hk : k < l.length
  · rw [ati_range hk]
    exact Int.le_trans (h k) (sm1_ge (Nat.le_refl _) hk)
  · rw [ati_nat, ati_nat, List.getElem?_eq_none (by omega), List.getElem?_eq_none (by rw [smax_len]; omega)]
    exact Int.le_refl _
theorem sum_set : ∀ {l : List Int} {i : Nat} {y : Int}, i < l.length → (l.set i y).sum = l.sum + y - ati l (i : Int)
  | [], i, y, h => by cases h
  | x :: l, 0, y, h => by
    show y + l.sum = x + l.sum + y - x
    omega
  | x :: l, i + 1, y, h => by
    have ih := sum_set (l := l) (i := i) (y := y) (by simpa using h)
    have e : ati (x :: l) ((i + 1 : Nat) : Int) = ati l (i : Int) := by
      rw [ati_nat, ati_nat]
      rfl
    rw [e]
    show x + (l.set i y).sum = x + l.sum + y - ati l (i : Int)
    omega
theorem U_set {l : List Int} {v : Nat} {y : Int} (hv : v < l.length) (k : Nat) : U (l.set v y) k = U l k + (if k ≤ v then y - ati l (v : Int) else 0) := by
  unfold U
  rw [List.drop_set]
  by_cases z : v < k
  · rw [if_pos z, if_neg (by omega)]
    omega
  · rw [if_neg z, if_pos (by omega), sum_set (by rw [List.length_drop]; omega)]
    have e : ati (l.drop k) ((v - k : Nat) : Int) = ati l (v : Int) := by
      rw [ati_nat, ati_nat, List.getElem?_drop]
      congr 2
      omega
    rw [e]
    omega
end L16

set_option Elab.async false
set_option maxRecDepth 100000
set_option maxHeartbeats 4000000
namespace BW
end BW
namespace L16
open PySem BV BW
theorem mulOk_r {i j : Int} (h0 : 0 ≤ j) (h : j < 18446744073709551616) : mulOk i j = true := by
  unfold mulOk
  have : j.natAbs < 18446744073709551616 := by omega
  rw [decide_eq_true this, Bool.or_true, Bool.true_or]
theorem boxed_mul {b c t : Int} {l : List Int} (h : boxed b l) (t0 : 0 ≤ t) (ht : t * b ≤ c) : boxed c (l.map fun x => t * x) := fun x hx => by
  obtain ⟨y, hy, rfl⟩ := List.mem_map.mp hx
  obtain ⟨y0, y1⟩ := h y hy
  exact ⟨Int.mul_nonneg t0 y0, Int.le_trans (Int.mul_le_mul_of_nonneg_left y1 t0) ht⟩
theorem ati_mulL {l : List Int} {n i : Int} : ati (l.map fun x => n * x) i = n * ati l i := ati_scale
theorem desc_mul {l : List Int} {t : Int} (h : desc l) (t0 : 0 ≤ t) : desc (l.map fun x => t * x) := fun i hi => by
  rw [List.length_map] at hi
  rw [ati_mulL, ati_mulL]
  exact Int.mul_le_mul_of_nonneg_left (h i hi) t0
theorem div_mul_map {l : List Int} {t : Int} (ht : 0 < t) : ((l.map fun x => t * x).map fun x => x / t) = l := by
  rw [List.map_map]
  have : ((fun x => x / t) ∘ fun x => t * x) = (id : Int → Int) := by
    funext x
    show t * x / t = x
    exact Int.mul_ediv_cancel_left x (by omega)
  rw [this, List.map_id]
abbrev J16 (s : D) (i : Nat) (r : BV.Env) (M : Store) : Prop := PenOk (200 * i) M 0 ∧ ∃ y2 y3 y4 y5 y6 y7 y8 y9 y10 y11 y12 y13 y14 y15, r = [some (.d s), some (.ref 0), y2, y3, y4, y5, y6, y7, y8, y9, y10, y11, y12, y13, y14, y15]
theorem law_ok (s : List Int) : callF P 20 108 none [.d (.scr (s.map .int))] [] = .ok (.d (.bl true)) [] := by
  have p20 : ∀ C M, f2 P C .pow (.d (.int 10)) (.d (.int 20)) M = .ok (.d (.int (10 ^ 20))) M := fun C M => op_pow (by decide)
  have p50 : ∀ C M, f2 P C .pow (.d (.int 10)) (.d (.int 50)) M = .ok (.d (.int (10 ^ 50))) M := fun C M => op_pow (by decide)
  have p8 : ∀ C M, f2 P C .pow (.d (.int 10)) (.d (.int 8)) M = .ok (.d (.int (10 ^ 8))) M := fun C M => op_pow (by decide)
  refine pure_Z (I := i108) rfl rfl rfl rfl rfl ?_
  simp only [i108, startE, List.map_cons, List.map_nil, List.length_cons, List.length_nil, Nat.reduceAdd, Nat.reduceSub, List.reduceReplicate, List.cons_append, List.nil_append, List.drop_zero, List.drop_nil, List.append_nil, Nat.add_zero]; unfold b108
  simp (disch := first | assumption | omega | exact Or.inl rfl | exact Or.inr rfl | (with_unfolding_all exact rfl) | decide) only [BW.WB, WL, if_true, Bool.false_eq_true, if_false, Bool.not_true, Bool.not_false, List.length_map, List.set_cons_zero, List.set_cons_succ, List.getElem?_cons_zero, List.getElem?_cons_succ, beq_self_eq_true, and_self, and_true, true_and, law_pen, List.length_nil, List.nil_append]
  refine w_rng (n := 6) (lo := 0) (by simp (disch := first | assumption | omega | exact Or.inl rfl | exact Or.inr rfl | (with_unfolding_all exact rfl) | decide) only [BW.WB, WL, if_true, Bool.false_eq_true, if_false, Bool.not_true, Bool.not_false, List.length_map, List.set_cons_zero, List.set_cons_succ, List.getElem?_cons_zero, List.getElem?_cons_succ, beq_self_eq_true, and_self, and_true, true_and] <;> rfl) (J16 (.scr (s.map .int))) ⟨⟨s.take 63, 0, 0, rfl, by decide, by decide, by decide⟩, _, _, _, _, _, _, _, _, _, _, _, _, _, _, rfl⟩ ?_ ?_
  · rintro i r M hi ⟨hp, y2, y3, y4, y5, y6, y7, y8, y9, y10, y11, y12, y13, y14, y15, rfl⟩
    obtain ⟨x1, M1, e1, h1, p1, _⟩ := pick (n := 17) (l := [.int 2, .int 3, .int 5, .int 9]) hp (by omega) (by show 0 < 4; decide) (by show 4 < 1000000; decide)
    obtain ⟨w, rfl, w0, w1⟩ : ∃ w : Int, x1 = .int w ∧ 2 ≤ w ∧ w ≤ 9 := by
      simp only [List.mem_cons, List.not_mem_nil, or_false] at h1
      rcases h1 with rfl | rfl | rfl | rfl <;> exact ⟨_, rfl, by decide, by decide⟩
    obtain ⟨x2, M2, e2, h2, p2, _⟩ := pick (n := 17) (l := [.int 1, .int 1, .int (10 ^ 20), .int (10 ^ 50)]) p1 (by omega) (by show 0 < 4; decide) (by show 4 < 1000000; decide)
    obtain ⟨t, rfl, t0, t1, td⟩ : ∃ t : Int, x2 = .int t ∧ 1 ≤ t ∧ t ≤ 10 ^ 50 ∧ divOk t = true := by
      simp only [List.mem_cons, List.not_mem_nil, or_false] at h2
      rcases h2 with rfl | rfl | rfl | rfl <;> exact ⟨_, rfl, by decide, by decide, by decide +kernel⟩
    obtain ⟨x3, M3, e3, h3, p3, _⟩ := pick (n := 17) (l := [.int 2, .int 4, .int 9]) p2 (by omega) (by show 0 < 3; decide) (by show 3 < 1000000; decide)
    obtain ⟨z, rfl, z0, z1⟩ : ∃ z : Int, x3 = .int z ∧ 0 ≤ z ∧ z ≤ 9 := by
      simp only [List.mem_cons, List.not_mem_nil, or_false] at h3
      rcases h3 with rfl | rfl | rfl <;> exact ⟨_, rfl, by decide, by decide⟩
    obtain ⟨_, M4, e4, a, rfl, la, da, ba, p4⟩ := told (n := 16) p3 (by omega) (by omega) w1 z0 z1
    have ba9 : boxed 9 a := boxed_mono ba z1
    have lan : a.length ≤ 9 := by omega
    have l16 : a.length ≤ 16777216 := by omega
    have mt : ∀ x : Int, 0 ≤ x → x ≤ 83 → ∀ C M, f2 P C .mul (.d (.int t)) (.d (.int x)) M = .ok (.d (.int (t * x))) M := fun x h0 h1 C M => op_mul (mulOk_r h0 (by omega))
    have dt : ∀ x C M, f2 P C .fdiv (.d (.int x)) (.d (.int t)) M = .ok (.d (.int (x / t))) M := fun x C M => op_fdiv td
    simp (disch := first | assumption | omega | exact Or.inl rfl | exact Or.inr rfl | (with_unfolding_all exact rfl) | decide) only [BW.WB, WL, if_true, Bool.false_eq_true, if_false, Bool.not_true, Bool.not_false, List.length_map, List.set_cons_zero, List.set_cons_succ, List.getElem?_cons_zero, List.getElem?_cons_succ, beq_self_eq_true, and_self, and_true, true_and, e1, e2, p20, p50, e3]
    rw [cp_intsM (l := a) (M1 := M4) (fun x => t * x)]
    rotate_left
    · simp (disch := first | assumption | omega | exact Or.inl rfl | exact Or.inr rfl | (with_unfolding_all exact rfl) | decide) only [BW.WB, WL, if_true, Bool.false_eq_true, if_false, Bool.not_true, Bool.not_false, List.length_map, List.set_cons_zero, List.set_cons_succ, List.getElem?_cons_zero, List.getElem?_cons_succ, beq_self_eq_true, and_self, and_true, true_and, e3, e4]
    · exact l16
    · intro x hx
      have mx := mt x (ba9 x hx).1 (by have := (ba9 x hx).2; omega)
      simp (disch := first | assumption | omega | exact Or.inl rfl | exact Or.inr rfl | (with_unfolding_all exact rfl) | decide) only [BW.WB, WL, if_true, Bool.false_eq_true, if_false, Bool.not_true, Bool.not_false, List.length_map, List.set_cons_zero, List.set_cons_succ, List.getElem?_cons_zero, List.getElem?_cons_succ, beq_self_eq_true, and_self, and_true, true_and, dx_any, dX_n, dX_d, dX_r, mx]
    have dm : desc (a.map fun x => t * x) := desc_mul da (by omega)
    have bm : boxed (9 * 10 ^ 50) (a.map fun x => t * x) := boxed_mul ba9 (by omega) (by omega)
    have dv := div_mul_map (l := a) (t := t) (by omega)
    have lm : (a.map fun x => t * x).length ≤ 9 := by rw [List.length_map]; exact lan
    obtain ⟨_, M5, e5, b, rfl, lb, bb, p5⟩ := lrow (n := 16) p4 (by omega) w0 w1 la ba9
    have lbn : b.length ≤ 9 := by omega
    generalize hm : (a.map fun x => t * x) = m at *
    have l16b : b.length ≤ 16777216 := by omega
    have l16m : m.length ≤ 16777216 := by omega
    simp (disch := first | assumption | omega | exact Or.inl rfl | exact Or.inr rfl | (with_unfolding_all exact rfl) | decide) only [BW.WB, WL, if_true, Bool.false_eq_true, if_false, Bool.not_true, Bool.not_false, List.length_map, List.set_cons_zero, List.set_cons_succ, List.getElem?_cons_zero, List.getElem?_cons_succ, beq_self_eq_true, and_self, and_true, true_and]
    rw [cp_intsM (l := b) (M1 := M5) (fun x => t * x)]
    rotate_left
    · simp (disch := first | assumption | omega | exact Or.inl rfl | exact Or.inr rfl | (with_unfolding_all exact rfl) | decide) only [BW.WB, WL, if_true, Bool.false_eq_true, if_false, Bool.not_true, Bool.not_false, List.length_map, List.set_cons_zero, List.set_cons_succ, List.getElem?_cons_zero, List.getElem?_cons_succ, beq_self_eq_true, and_self, and_true, true_and]
      rw [cp_ints (l := m) (fun x => x / t)]
      rotate_left
      · simp (disch := first | assumption | omega | exact Or.inl rfl | exact Or.inr rfl | (with_unfolding_all exact rfl) | decide) only [BW.WB, WL, if_true, Bool.false_eq_true, if_false, Bool.not_true, Bool.not_false, List.length_map, List.set_cons_zero, List.set_cons_succ, List.getElem?_cons_zero, List.getElem?_cons_succ, beq_self_eq_true, and_self, and_true, true_and]
      · exact l16m
      · intro x hx
        simp (disch := first | assumption | omega | exact Or.inl rfl | exact Or.inr rfl | (with_unfolding_all exact rfl) | decide) only [BW.WB, WL, if_true, Bool.false_eq_true, if_false, Bool.not_true, Bool.not_false, List.length_map, List.set_cons_zero, List.set_cons_succ, List.getElem?_cons_zero, List.getElem?_cons_succ, beq_self_eq_true, and_self, and_true, true_and, dx_any, dX_n, dX_d, dX_r, dt]
      rw [dv]
      simp (disch := first | assumption | omega | exact Or.inl rfl | exact Or.inr rfl | (with_unfolding_all exact rfl) | decide) only [BW.WB, WL, if_true, Bool.false_eq_true, if_false, Bool.not_true, Bool.not_false, List.length_map, List.set_cons_zero, List.set_cons_succ, List.getElem?_cons_zero, List.getElem?_cons_succ, beq_self_eq_true, and_self, and_true, true_and, e5]
    · exact l16b
    · intro x hx
      have mx := mt x (bb x hx).1 (bb x hx).2
      simp (disch := first | assumption | omega | exact Or.inl rfl | exact Or.inr rfl | (with_unfolding_all exact rfl) | decide) only [BW.WB, WL, if_true, Bool.false_eq_true, if_false, Bool.not_true, Bool.not_false, List.length_map, List.set_cons_zero, List.set_cons_succ, List.getElem?_cons_zero, List.getElem?_cons_succ, beq_self_eq_true, and_self, and_true, true_and, dx_any, dX_n, dX_d, dX_r, mx]
    have bh : boxed (83 * 10 ^ 50) (b.map fun x => t * x) := boxed_mul bb (by omega) (by omega)
    have lh : ((b.map fun x => t * x).length : Int) = w := by rw [List.length_map]; exact lb
    generalize hh : (b.map fun x => t * x) = h at *
    have lhn : h.length ≤ 9 := by omega
    have rm : rowOk m := boxed_mono bm (by decide)
    have rh : rowOk h := boxed_mono bh (by decide)
    have nm : ∀ x ∈ m, 0 ≤ x := fun x hx => (bm x hx).1
    have nh : nonneg h := fun x hx => (bh x hx).1
    have fa : ∀ M, callF P 19 107 none [.d (.lst (((List.range 9).map (R m h)).map .int)), .d (.lst (m.map .int)), .d (.lst (h.map .int))] M = .ok (.d (.bl true)) M := fun M => falls (n := 18) lm nm dm lhn nh
    have nu : ∀ M, callF P 19 106 none [.d (.lst (m.map .int)), .d (.lst (h.map .int))] M = .ok (.d (.lst (((List.range 9).map (R m h)).map .int))) M := fun M => numbers (n := 9) lm rm dm lhn rh
    simp (disch := first | assumption | omega | exact Or.inl rfl | exact Or.inr rfl | (with_unfolding_all exact rfl) | decide) only [BW.WB, WL, if_true, Bool.false_eq_true, if_false, Bool.not_true, Bool.not_false, List.length_map, List.set_cons_zero, List.set_cons_succ, List.getElem?_cons_zero, List.getElem?_cons_succ, beq_self_eq_true, and_self, and_true, true_and, nu, fa]
    obtain ⟨g, M6, e6, lg, hg, p6⟩ := cp_intsD (P := P) (C := callF P 19) (q := none) (r := [some (.d (.scr (s.map .int))), some (.ref 0), some (.d (.int (0 + (i : Int)))), some (.d (.lst (m.map .int))), some (.d (.lst (h.map .int))), some (.d (.lst (((List.range 9).map (R m h)).map .int))), y6, y7, y8, y9, y10, some (.d (.int w)), some (.d (.int t)), y13, y14, y15]) (M := M5) (M1 := M5) (a := .v 3) (tg := 13) (e := .o2 .add (.v 13) (.call 103 (.cons (.v 1) (.cons (.dsp .lst (.cons (.c (.int 0)) (.cons (.c (.int 1)) (.cons (.v 12) .nil)))) .nil)))) (l := m) (fun k M' => PenOk (200 * i + 73 + k) M' 0) (fun y x => y ≤ x ∧ x ≤ y + 10 ^ 50) (by simp (disch := first | assumption | omega | exact Or.inl rfl | exact Or.inr rfl | (with_unfolding_all exact rfl) | decide) only [BW.WB, WL, if_true, Bool.false_eq_true, if_false, Bool.not_true, Bool.not_false, List.length_map, List.set_cons_zero, List.set_cons_succ, List.getElem?_cons_zero, List.getElem?_cons_succ, beq_self_eq_true, and_self, and_true, true_and]) l16m (p5.mono (by omega)) (fun k y M' hk hp' => by
      have hk2 := (List.getElem?_eq_some_iff.mp hk).1
      obtain ⟨x, M'', ex, hx, px, _⟩ := pick (n := 17) (l := [.int 0, .int 1, .int t]) hp' (by omega) (by show 0 < 3; decide) (by show 3 < 1000000; decide)
      obtain ⟨u, rfl, u0, u1⟩ : ∃ u : Int, x = .int u ∧ 0 ≤ u ∧ u ≤ 10 ^ 50 := by
        simp only [List.mem_cons, List.not_mem_nil, or_false] at hx
        rcases hx with rfl | rfl | rfl
        · exact ⟨_, rfl, by decide, by decide⟩
        · exact ⟨_, rfl, by decide, by decide⟩
        · exact ⟨_, rfl, by omega, t1⟩
      exact ⟨y + u, M'', by simp (disch := first | assumption | omega | exact Or.inl rfl | exact Or.inr rfl | (with_unfolding_all exact rfl) | decide) only [BW.WB, WL, if_true, Bool.false_eq_true, if_false, Bool.not_true, Bool.not_false, List.length_map, List.set_cons_zero, List.set_cons_succ, List.getElem?_cons_zero, List.getElem?_cons_succ, beq_self_eq_true, and_self, and_true, true_and, dx_any, dX_n, dX_d, dX_r, ex], ⟨by omega, by omega⟩, px⟩)
    rw [e6]
    have bg : boxed (10 ^ 51) g := fun x hx => by
      obtain ⟨k, hk, rfl⟩ := List.getElem_of_mem hx
      obtain ⟨y, hy, y0, y1⟩ := hg k _ (List.getElem?_eq_getElem hk)
      have := bm y (List.mem_of_getElem? hy)
      omega
    have gge : ∀ k : Nat, ati m (k : Int) ≤ ati g (k : Int) := fun k => by
      rw [ati_nat, ati_nat]
      cases z : g[k]? with
      | none =>
        have := List.getElem?_eq_none_iff.mp z
        rw [List.getElem?_eq_none (by omega)]
        exact Int.le_refl _
      | some x =>
        obtain ⟨y, hy, y0, y1⟩ := hg k x z
        rw [hy]
        exact y0
    have l16g : g.length ≤ 16777216 := by omega
    simp (disch := first | assumption | omega | exact Or.inl rfl | exact Or.inr rfl | (with_unfolding_all exact rfl) | decide) only [BW.WB, WL, if_true, Bool.false_eq_true, if_false, Bool.not_true, Bool.not_false, List.length_map, List.set_cons_zero, List.set_cons_succ, List.getElem?_cons_zero, List.getElem?_cons_succ, beq_self_eq_true, and_self, and_true, true_and]
    rw [cp_rngI (lo := 0) (n := g.length) (sm1 g)]
    rotate_left
    · simp (disch := first | assumption | omega | exact Or.inl rfl | exact Or.inr rfl | (with_unfolding_all exact rfl) | decide) only [BW.WB, WL, if_true, Bool.false_eq_true, if_false, Bool.not_true, Bool.not_false, List.length_map, List.set_cons_zero, List.set_cons_succ, List.getElem?_cons_zero, List.getElem?_cons_succ, beq_self_eq_true, and_self, and_true, true_and] <;> rfl
    · exact l16g
    · intro k hk
      have e0 : ((0 : Int) + (k : Int)).toNat = k := by omega
      have l16d : (g.drop k).length ≤ 16777216 := by rw [List.length_drop]; omega
      have mx : ∀ C M, fbi P C .max [.d (.lst ((g.drop k).map .int))] M = .ok (.d (.int (sm1 g k))) M := fun C M => by
        unfold sm1
        cases e : g.drop k with
        | nil =>
          have := congrArg List.length e
          rw [List.length_drop, List.length_nil] at this
          omega
        | cons x t => exact max_L
      have hid : ((g.drop k).map fun x => x) = g.drop k := List.map_id' _
      simp (disch := first | assumption | omega | exact Or.inl rfl | exact Or.inr rfl | (with_unfolding_all exact rfl) | decide) only [BW.WB, WL, if_true, Bool.false_eq_true, if_false, Bool.not_true, Bool.not_false, List.length_map, List.set_cons_zero, List.set_cons_succ, List.getElem?_cons_zero, List.getElem?_cons_succ, beq_self_eq_true, and_self, and_true, true_and, dx_any, dX_n, dX_d, dX_r, e0]
      rw [cp_ints (l := g.drop k) (fun x => x)]
      rotate_left
      · simp (disch := first | assumption | omega | exact Or.inl rfl | exact Or.inr rfl | (with_unfolding_all exact rfl) | decide) only [BW.WB, WL, if_true, Bool.false_eq_true, if_false, Bool.not_true, Bool.not_false, List.length_map, List.set_cons_zero, List.set_cons_succ, List.getElem?_cons_zero, List.getElem?_cons_succ, beq_self_eq_true, and_self, and_true, true_and, dx_any, dX_n, dX_d, dX_r, e0]
      · exact l16d
      · intro x _
        simp (disch := first | assumption | omega | exact Or.inl rfl | exact Or.inr rfl | (with_unfolding_all exact rfl) | decide) only [BW.WB, WL, if_true, Bool.false_eq_true, if_false, Bool.not_true, Bool.not_false, List.length_map, List.set_cons_zero, List.set_cons_succ, List.getElem?_cons_zero, List.getElem?_cons_succ, beq_self_eq_true, and_self, and_true, true_and, dx_any, dX_n, dX_d, dX_r]
      rw [hid]
      simp (disch := first | assumption | omega | exact Or.inl rfl | exact Or.inr rfl | (with_unfolding_all exact rfl) | decide) only [BW.WB, WL, if_true, Bool.false_eq_true, if_false, Bool.not_true, Bool.not_false, List.length_map, List.set_cons_zero, List.set_cons_succ, List.getElem?_cons_zero, List.getElem?_cons_succ, beq_self_eq_true, and_self, and_true, true_and, mx]
    have dq := smax_desc (l := g)
    have lq := smax_len (l := g)
    have bq := smax_box bg (by decide)
    have gq := smax_ge lg gge
    generalize (List.range g.length).map (sm1 g) = q at *
    have lqn : q.length ≤ 9 := by omega
    have nu2 : ∀ M, callF P 19 106 none [.d (.lst (q.map .int)), .d (.lst (h.map .int))] M = .ok (.d (.lst (((List.range 9).map (R q h)).map .int))) M := fun M => numbers (n := 9) lqn (boxed_mono bq (by decide)) dq lhn rh
    have more := R_more (m := m) (m' := q) (h := h) gq
    have l9 : ∀ f : Nat → Int, ((List.range 9).map f).length = 9 := fun f => by simp
    have l9a := l9 (R m h)
    have neE : ∀ C M, f2 P C .ne (.d (.lst [])) (.d (.lst [])) M = .ok (.d (.bl false)) M := fun _ _ => rfl
    simp (disch := first | assumption | omega | exact Or.inl rfl | exact Or.inr rfl | (with_unfolding_all exact rfl) | decide) only [BW.WB, WL, if_true, Bool.false_eq_true, if_false, Bool.not_true, Bool.not_false, List.length_map, List.set_cons_zero, List.set_cons_succ, List.getElem?_cons_zero, List.getElem?_cons_succ, beq_self_eq_true, and_self, and_true, true_and]
    rw [cp_enumN (l := (List.range 9).map (R q h))]
    rotate_left
    · simp (disch := first | assumption | omega | exact Or.inl rfl | exact Or.inr rfl | (with_unfolding_all exact rfl) | decide) only [BW.WB, WL, if_true, Bool.false_eq_true, if_false, Bool.not_true, Bool.not_false, List.length_map, List.set_cons_zero, List.set_cons_succ, List.getElem?_cons_zero, List.getElem?_cons_succ, beq_self_eq_true, and_self, and_true, true_and, nu2]
    · rw [l9]; decide
    · intro k x hx
      have hk : k < 9 := by have := (List.getElem?_eq_some_iff.mp hx).1; rw [l9] at this; exact this
      have ex : x = R q h k := by
        rw [List.getElem?_map, List.getElem?_range hk] at hx
        cases hx
        rfl
      subst ex
      have ea : ati ((List.range 9).map (R m h)) (k : Int) = R m h k := ati_range hk
      have d : decide (R q h k < R m h k) = false := decide_eq_false (by have := more k; omega)
      exact ⟨_, .d (.int (k : Int)), rfl, by simp (disch := first | assumption | omega | exact Or.inl rfl | exact Or.inr rfl | (with_unfolding_all exact rfl) | decide) only [BW.WB, WL, if_true, Bool.false_eq_true, if_false, Bool.not_true, Bool.not_false, List.length_map, List.set_cons_zero, List.set_cons_succ, List.getElem?_cons_zero, List.getElem?_cons_succ, beq_self_eq_true, and_self, and_true, true_and, dx_any, dX_n, dX_d, dX_r, ea, d], by simp (disch := first | assumption | omega | exact Or.inl rfl | exact Or.inr rfl | (with_unfolding_all exact rfl) | decide) only [BW.WB, WL, if_true, Bool.false_eq_true, if_false, Bool.not_true, Bool.not_false, List.length_map, List.set_cons_zero, List.set_cons_succ, List.getElem?_cons_zero, List.getElem?_cons_succ, beq_self_eq_true, and_self, and_true, true_and, dx_any, dX_n, dX_d, dX_r]⟩
    obtain ⟨v, M7, e7, v0, v1, p7, _⟩ := draw (n := 18) (many := w) p6 (by omega) (divOk_small (by omega) (by omega))
    obtain ⟨u, M8, e8, u0, u1, p8', _⟩ := draw (n := 18) (many := 3) p7 (by omega) (by decide)
    have vh : (1 : Int) + v - 1 < (h.length : Int) := by omega
    have hl16 : h.length ≤ 16777216 := by omega
    have em : D.lst [.int (ati h ((1 : Int) + v - 1) + 1 + u)] = D.lst (([ati h ((1 : Int) + v - 1) + 1 + u] : List Int).map .int) := rfl
    have hl1 : (h.take ((1 : Int) + v - 1).toNat).length + [ati h ((1 : Int) + v - 1) + 1 + u].length ≤ 16777216 := by
      rw [List.length_take]
      show _ + 1 ≤ _
      omega
    have hl2 : (h.take ((1 : Int) + v - 1).toNat ++ [ati h ((1 : Int) + v - 1) + 1 + u]).length + (h.drop ((1 : Int) + v).toNat).length ≤ 16777216 := by
      rw [List.length_append, List.length_take, List.length_drop]
      show _ + 1 + _ ≤ _
      omega
    have ev' : (1 : Int) + v - 1 = (v.toNat : Int) := by omega
    have hv : v.toNat < h.length := by omega
    have eW : h.take ((1 : Int) + v - 1).toNat ++ [ati h ((1 : Int) + v - 1) + 1 + u] ++ h.drop ((1 : Int) + v).toNat = h.set v.toNat (ati h (v.toNat : Int) + 1 + u) := by
      rw [List.set_eq_take_append_cons_drop, if_pos hv, ev', show ((v.toNat : Int)).toNat = v.toNat by omega, show ((1 : Int) + v).toNat = v.toNat + 1 by omega, List.append_assoc]
      rfl
    simp (disch := first | assumption | omega | exact Or.inl rfl | exact Or.inr rfl | (with_unfolding_all exact rfl) | decide) only [BW.WB, WL, if_true, Bool.false_eq_true, if_false, Bool.not_true, Bool.not_false, List.length_map, List.set_cons_zero, List.set_cons_succ, List.getElem?_cons_zero, List.getElem?_cons_succ, beq_self_eq_true, and_self, and_true, true_and, neE, e7, e8, em, eW]
    have bh2 : boxed (83 * 10 ^ 50 + 4) h := boxed_mono bh (by decide)
    have bW : boxed (83 * 10 ^ 50 + 4) (h.set v.toNat (ati h (v.toNat : Int) + 1 + u)) := boxed_set bh2 (by have := boxed_ati bh (by decide) (v.toNat : Int); omega) (by have := boxed_ati bh (by decide) (v.toNat : Int); omega)
    have lW : (h.set v.toNat (ati h (v.toNat : Int) + 1 + u)).length ≤ 9 := by rw [List.length_set]; exact lhn
    have uW := fun k => U_set (l := h) (y := ati h (v.toNat : Int) + 1 + u) hv k
    have wid := R_wider (m := m) (h := h) (h' := h.set v.toNat (ati h (v.toNat : Int) + 1 + u)) (s := v.toNat) (fun a b h1 h2 => by
      rw [uW, uW, if_pos (by omega), if_pos h2]
      omega) (fun a b h1 => by
      rw [uW, uW]
      split <;> split <;> omega)
    have nu3 : ∀ M, callF P 19 106 none [.d (.lst (m.map .int)), .d (.lst ((h.set v.toNat (ati h (v.toNat : Int) + 1 + u)).map .int))] M = .ok (.d (.lst (((List.range 9).map (R m (h.set v.toNat (ati h (v.toNat : Int) + 1 + u)))).map .int))) M := fun M => numbers (n := 9) lm rm dm lW (boxed_mono bW (by decide))
    generalize h.set v.toNat (ati h (v.toNat : Int) + 1 + u) = hw at *
    have l9b := l9 (R m hw)
    have en : ((List.range 9).map (R m hw)).take ((1 : Int) + v).toNat = ((List.range 9).map (R m h)).take ((1 : Int) + v).toNat := by
      rw [← List.map_take, ← List.map_take]
      refine List.map_congr_left fun k hk => ?_
      have := List.mem_take_iff_getElem.mp hk
      obtain ⟨j, hj, rfl⟩ := this
      rw [List.getElem_range]
      exact (wid j).1 (by omega)
    simp (disch := first | assumption | omega | exact Or.inl rfl | exact Or.inr rfl | (with_unfolding_all exact rfl) | decide) only [BW.WB, WL, if_true, Bool.false_eq_true, if_false, Bool.not_true, Bool.not_false, List.length_map, List.set_cons_zero, List.set_cons_succ, List.getElem?_cons_zero, List.getElem?_cons_succ, beq_self_eq_true, and_self, and_true, true_and, nu3, en, ne_selfI]
    rw [cp_rngN (n := 9)]
    rotate_left
    · simp (disch := first | assumption | omega | exact Or.inl rfl | exact Or.inr rfl | (with_unfolding_all exact rfl) | decide) only [BW.WB, WL, if_true, Bool.false_eq_true, if_false, Bool.not_true, Bool.not_false, List.length_map, List.set_cons_zero, List.set_cons_succ, List.getElem?_cons_zero, List.getElem?_cons_succ, beq_self_eq_true, and_self, and_true, true_and] <;> rfl
    · decide
    · intro k hk
      have ea : ati ((List.range 9).map (R m h)) (k : Int) = R m h k := ati_range hk
      have eb : ati ((List.range 9).map (R m hw)) (k : Int) = R m hw k := ati_range hk
      have d : decide (R m hw k > R m h k) = false := decide_eq_false (by have := (wid k).2; omega)
      exact ⟨_, .d (.int (k : Int)), rfl, by simp (disch := first | assumption | omega | exact Or.inl rfl | exact Or.inr rfl | (with_unfolding_all exact rfl) | decide) only [BW.WB, WL, if_true, Bool.false_eq_true, if_false, Bool.not_true, Bool.not_false, List.length_map, List.set_cons_zero, List.set_cons_succ, List.getElem?_cons_zero, List.getElem?_cons_succ, beq_self_eq_true, and_self, and_true, true_and, dx_any, dX_n, dX_d, dX_r, ea, eb, d], by simp (disch := first | assumption | omega | exact Or.inl rfl | exact Or.inr rfl | (with_unfolding_all exact rfl) | decide) only [BW.WB, WL, if_true, Bool.false_eq_true, if_false, Bool.not_true, Bool.not_false, List.length_map, List.set_cons_zero, List.set_cons_succ, List.getElem?_cons_zero, List.getElem?_cons_succ, beq_self_eq_true, and_self, and_true, true_and, dx_any, dX_n, dX_d, dX_r]⟩
    obtain ⟨x9, M9, e9, h9, p9, _⟩ := pick (n := 17) (l := [.int 2, .int 3, .int 7, .int (10 ^ 8)]) p8' (by omega) (by show 0 < 4; decide) (by show 4 < 1000000; decide)
    obtain ⟨c, rfl, c0, c1⟩ : ∃ c : Int, x9 = .int c ∧ 1 ≤ c ∧ c ≤ 10 ^ 8 := by
      simp only [List.mem_cons, List.not_mem_nil, or_false] at h9
      rcases h9 with rfl | rfl | rfl | rfl <;> exact ⟨_, rfl, by decide, by decide⟩
    have mc : ∀ (x : Int) C M, f2 P C .mul (.d (.int c)) (.d (.int x)) M = .ok (.d (.int (c * x))) M := fun x C M => op_mul (mulOk_l (by omega) (by omega))
    have nu4 : ∀ M, callF P 19 106 none [.d (.lst ((m.map fun x => c * x).map .int)), .d (.lst ((h.map fun x => c * x).map .int))] M = .ok (.d (.lst (((List.range 9).map (R (m.map fun x => c * x) (h.map fun x => c * x))).map .int))) M := fun M => numbers (n := 9) (by rw [List.length_map]; exact lm) (boxed_mul bm (by omega) (by omega)) (desc_mul dm (by omega)) (by rw [List.length_map]; exact lhn) (boxed_mul bh (by omega) (by omega))
    have es : (List.range 9).map (R (m.map fun x => c * x) (h.map fun x => c * x)) = ((List.range 9).map (R m h)).map fun x => c * x := by
      rw [List.map_map]
      refine List.map_congr_left fun k _ => ?_
      exact R_scale (by omega) k
    simp (disch := first | assumption | omega | exact Or.inl rfl | exact Or.inr rfl | (with_unfolding_all exact rfl) | decide) only [BW.WB, WL, if_true, Bool.false_eq_true, if_false, Bool.not_true, Bool.not_false, List.length_map, List.set_cons_zero, List.set_cons_succ, List.getElem?_cons_zero, List.getElem?_cons_succ, beq_self_eq_true, and_self, and_true, true_and, neE, p8, e9]
    rw [cp_ints (l := m) (fun x => c * x)]
    rotate_left
    · simp (disch := first | assumption | omega | exact Or.inl rfl | exact Or.inr rfl | (with_unfolding_all exact rfl) | decide) only [BW.WB, WL, if_true, Bool.false_eq_true, if_false, Bool.not_true, Bool.not_false, List.length_map, List.set_cons_zero, List.set_cons_succ, List.getElem?_cons_zero, List.getElem?_cons_succ, beq_self_eq_true, and_self, and_true, true_and]
    · exact l16m
    · intro x _
      simp (disch := first | assumption | omega | exact Or.inl rfl | exact Or.inr rfl | (with_unfolding_all exact rfl) | decide) only [BW.WB, WL, if_true, Bool.false_eq_true, if_false, Bool.not_true, Bool.not_false, List.length_map, List.set_cons_zero, List.set_cons_succ, List.getElem?_cons_zero, List.getElem?_cons_succ, beq_self_eq_true, and_self, and_true, true_and, dx_any, dX_n, dX_d, dX_r, mc]
    simp (disch := first | assumption | omega | exact Or.inl rfl | exact Or.inr rfl | (with_unfolding_all exact rfl) | decide) only [BW.WB, WL, if_true, Bool.false_eq_true, if_false, Bool.not_true, Bool.not_false, List.length_map, List.set_cons_zero, List.set_cons_succ, List.getElem?_cons_zero, List.getElem?_cons_succ, beq_self_eq_true, and_self, and_true, true_and]
    rw [cp_ints (l := h) (fun x => c * x)]
    rotate_left
    · simp (disch := first | assumption | omega | exact Or.inl rfl | exact Or.inr rfl | (with_unfolding_all exact rfl) | decide) only [BW.WB, WL, if_true, Bool.false_eq_true, if_false, Bool.not_true, Bool.not_false, List.length_map, List.set_cons_zero, List.set_cons_succ, List.getElem?_cons_zero, List.getElem?_cons_succ, beq_self_eq_true, and_self, and_true, true_and]
    · exact hl16
    · intro x _
      simp (disch := first | assumption | omega | exact Or.inl rfl | exact Or.inr rfl | (with_unfolding_all exact rfl) | decide) only [BW.WB, WL, if_true, Bool.false_eq_true, if_false, Bool.not_true, Bool.not_false, List.length_map, List.set_cons_zero, List.set_cons_succ, List.getElem?_cons_zero, List.getElem?_cons_succ, beq_self_eq_true, and_self, and_true, true_and, dx_any, dX_n, dX_d, dX_r, mc]
    simp (disch := first | assumption | omega | exact Or.inl rfl | exact Or.inr rfl | (with_unfolding_all exact rfl) | decide) only [BW.WB, WL, if_true, Bool.false_eq_true, if_false, Bool.not_true, Bool.not_false, List.length_map, List.set_cons_zero, List.set_cons_succ, List.getElem?_cons_zero, List.getElem?_cons_succ, beq_self_eq_true, and_self, and_true, true_and, nu4]
    rw [cp_ints (l := (List.range 9).map (R m h)) (fun x => c * x)]
    rotate_left
    · simp (disch := first | assumption | omega | exact Or.inl rfl | exact Or.inr rfl | (with_unfolding_all exact rfl) | decide) only [BW.WB, WL, if_true, Bool.false_eq_true, if_false, Bool.not_true, Bool.not_false, List.length_map, List.set_cons_zero, List.set_cons_succ, List.getElem?_cons_zero, List.getElem?_cons_succ, beq_self_eq_true, and_self, and_true, true_and]
    · rw [l9]; decide
    · intro x _
      simp (disch := first | assumption | omega | exact Or.inl rfl | exact Or.inr rfl | (with_unfolding_all exact rfl) | decide) only [BW.WB, WL, if_true, Bool.false_eq_true, if_false, Bool.not_true, Bool.not_false, List.length_map, List.set_cons_zero, List.set_cons_succ, List.getElem?_cons_zero, List.getElem?_cons_succ, beq_self_eq_true, and_self, and_true, true_and, dx_any, dX_n, dX_d, dX_r, mc]
    rw [es]
    simp (disch := first | assumption | omega | exact Or.inl rfl | exact Or.inr rfl | (with_unfolding_all exact rfl) | decide) only [BW.WB, WL, if_true, Bool.false_eq_true, if_false, Bool.not_true, Bool.not_false, List.length_map, List.set_cons_zero, List.set_cons_succ, List.getElem?_cons_zero, List.getElem?_cons_succ, beq_self_eq_true, and_self, and_true, true_and, ne_selfI]
    exact ⟨p9.mono (by omega), _, _, _, _, _, _, _, _, _, _, _, _, _, _, rfl⟩
  · rintro r M ⟨hp, y2, y3, y4, y5, y6, y7, y8, y9, y10, y11, y12, y13, y14, y15, rfl⟩
    simp (disch := first | assumption | omega | exact Or.inl rfl | exact Or.inr rfl | (with_unfolding_all exact rfl) | decide) only [BW.WB, WL, if_true, Bool.false_eq_true, if_false, Bool.not_true, Bool.not_false, List.length_map, List.set_cons_zero, List.set_cons_succ, List.getElem?_cons_zero, List.getElem?_cons_succ, beq_self_eq_true, and_self, and_true, true_and]
theorem pure : ∀ ns : List Int, ns.length ≤ 63 → (∀ z ∈ ns, PySem.Builtin.Int.intBits z ≤ 1048576) → ∃ M, BV.callF X.B.P 20 108 none [.d (.scr (ns.map .int))] [] = .ok (.d (.bl true)) M := fun ns _ _ => ⟨[], law_ok ns⟩
end L16

set_option Elab.async false
set_option maxRecDepth 100000
set_option maxHeartbeats 0
namespace L16
open PySem BV

abbrev R : PySem.W.OpenRow := PySem.W.OpenLaw.row PySem.Challenge.rw_everyfits_k16_whole_needs_fall_and_scale
abbrev hk : PySem.W.Hook := BV.hkL PySem.Challenge.rw_everyfits_k16_whole_needs_fall_and_scale X 3000 108 "_law_script"
def ob (s : PySem.W.SharedT) : Bool := BV.obsY 3000 (X.lams.map (·.1)) (fun K => BV.allB PySem.Challenge.pw_everyfits_k16_whole_needs_fall_and_scale X K && BV.lawQ X K 108 "_law_script") (HandSHeadRun.getT s)
theorem ob_eq (s : PySem.W.SharedT) : ob s = hk.obs s.abs := BV.obsY_eq (HandSHeadRun.getT_eq s)
theorem run (w : PySem.World) : HandSHeadRun.RunEq R (PySem.W.view R.prog [56]) hk ob 20000 tloose w := by
  intro os
  kernel_rfl

end L16

set_option Elab.async false
set_option maxRecDepth 100000
set_option maxHeartbeats 0


open PySem PySem.W PySem.Calls PyProof.Rows
theorem PySem.Challenge.cw_everyfits_k16_whole_needs_fall_and_scale_holds : PySem.Challenge.rw_everyfits_k16_whole_needs_fall_and_scale.Holds := by
  w_on; o_law
  refine HandSHeadRun.head_any (r := OpenLaw.row PySem.Challenge.rw_everyfits_k16_whole_needs_fall_and_scale) (q := view (OpenLaw.row PySem.Challenge.rw_everyfits_k16_whole_needs_fall_and_scale).prog [56]) (H := L16.hk) (ob := L16.ob) (M := 20000) (loose := L16.tloose) (d := HandSHeadRun.topDef (OpenLaw.row PySem.Challenge.rw_everyfits_k16_whole_needs_fall_and_scale).prog 56) (kwd := []) L16.ob_eq
    (by kernel_rfl) (fun s => by kernel_rfl) L16.run (by kernel_rfl) (by kernel_rfl) (by kernel_rfl) (by rfl) (by first | assumption | decide +kernel) (by decide +kernel) ⟨rfl, rfl, rfl, rfl, rfl, by decide +kernel⟩ ?hw ?hc
  case hw => w_witness2
  case hc =>
    exact BV.law_end (N := 20) L16.pure rfl ⟨rfl, by decide, by decide⟩ (by kernel_rfl) (by kernel_rfl)
